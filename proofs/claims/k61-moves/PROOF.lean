import PyProof.Rows.All
import Wide.All
import OpenK.AllK
import Wide.FinOn
import HandS.ForMost
import HandS.Exc
import HandS.HeadHook1
import HandS.Wide
import HandS.WideMore
import HandS.TupAny
import HandS.Deep
import HandS.SortInts
import HandS.Flow
import PyProof.StrOps2
import KE.GoesMore
import KE.GoesEnum
import HandS.IsInst
import HandS.WideBits
import HandS.StrMore
import HandS.Style
import HandS.Text
import HandS.Defaults
import HandS.HeadEnd
import HandS.HeadHook2
import HandS.Head2
import HandS.HotCalls
import HandS.WordsExc
import HandS.ExcInit
import HandS.ExcIs
import HandS.ExcField
import HandS.Small
import HandS.TryMany
import KE.KExcIs
import PyProof.ListRange
import PyProof.CollectIter
import PyProof.FactsAll.range_iterator_1
import HandS.RevRange
import HandS.SetFor
import HandS.Strs
import HandS.Zip
import KE.KDictDisplayH
import PyProof.TupleOfSeq
import HandS.ExcInitHot
import HandS.TupLen
import HandS.TupLe
import HandS.NoneIn
import HandS.SetKeys
import HandS.SortRule
import HandS.Iter
import KE.KTryMore
import HandS.TupSets
import KE.GoesZip
import PySem.Challenge.RW_calmwires_k61_moves
set_option Elab.async false
set_option linter.all false
set_option maxRecDepth 100000
set_option maxHeartbeats 2000000
namespace CW
open PySem PySem.Spec PyProof.Rows L2

abbrev St := L2.St
inductive D where
  | non | bl (b : Bool) | int (i : Int) | str (s : Str)
  | tup (xs : List D) | lst (xs : List D)
  | dic (lk tt : Bool) (ks vs : List D)
  | exn (c : Str) (fs : List D)
  | scr (ns : List Int)
  | cst (zs : List Str)
  | obj (fs : List D)
  deriving Inhabited

abbrev Env := List (Option D)
inductive Out (α : Type) where
  | ok (a : α) | exc (x : D) | stuck

namespace Out
variable {α β : Type}
def bind : Out α → (α → Out β) → Out β
  | .ok a, k => k a
  | .exc x, _ => .exc x
  | .stuck, _ => .stuck
@[simp] theorem bind_ok (a : α) (k : α → Out β) : (Out.ok a).bind k = k a := (rfl)
@[simp] theorem bind_exc (x : D) (k : α → Out β) : (Out.exc x).bind k = .exc x := (rfl)
@[simp] theorem bind_stuck (k : α → Out β) : (Out.stuck).bind k = .stuck := (rfl)
end Out
inductive Fl where
  | nx (r : Env) | ret (d : D) | bk (r : Env) | ct (r : Env) | exc (x : D) (r : Env) | stuck
def fieldsOf (n : Str) : List Str :=
  if n = "NoText" then ["line"] else if n = "Broken" then ["way"] else if n = "Crowded" then ["way"]
  else if n = "CalledOff" then ["way", "lost", "by"] else if n = "Clash" then ["one", "other", "wire"] else []
def exH (b : Bool) (cls : Value) (dd : Option Addr) (a : Addr) : HO := .ext fun h => ∃ (oe : Obj) (vs : Array Value), h.get? a = some oe ∧ Zc cls dd oe ∧ oe.data = .fields vs ∧ (b = true → vs[2]? = some .none)
def XDict (F : Hp) (n : Str) (dd : Option Addr) (vs : List V) : Prop := (fieldsOf n = [] ∧ dd = none) ∨ ∃ d, dd = some d ∧ Rd F d (.xd ((fieldsOf n).zip vs).reverse)
def plyK : List Str := ["graph", "net", "here", "levels"]
def keyD : Key → D
  | .inl i => .int i
  | .inr s => .str s
def DAt (F : Hp) (a : Addr) (u : HO) : Bool → Prop := fun _ => Rd F a u
mutual
inductive DR (K : PySem.W.Frag) (F : Hp) : V → D → Prop
  | non : DR K F .non .non
  | bl (b : Bool) : DR K F (.bl b) (.bl b)
  | int (i : Int) : DR K F (.int i) (.int i)
  | str (s : Str) : DR K F (.str s) (.str s)
  | tup {a : Addr} {xs : List V} {ds : List D} : F a = some (.tup xs) → DRs K F xs ds → DR K F (.ref a) (.tup ds)
  | cst {a : Addr} {zs : List Str} : SqT K F a (zs.map V.str) → DR K F (.ref a) (.cst zs)
  | lst {a : Addr} {xs : List V} {ds : List D} : Rd F a (.lst xs) → DRs K F xs ds → DR K F (.ref a) (.lst ds)
  | scr {a : Addr} {ns : List Int} : SqL K F a (ns.map V.int) → DR K F (.ref a) (.scr ns)
  | dK {a : Addr} {kvs : List (Key × V)} {lk : Bool} {vs : List D} : DAt F a (.dK kvs) lk → DRs K F (kvs.map (·.2)) vs → DR K F (.ref a) (.dic lk false (kvs.map fun p => keyD p.1) vs)
  | dT {a : Addr} {kvs : List (List Key × V)} {lk : Bool} {vs : List D} : DAt F a (.dT kvs) lk → DRs K F (kvs.map (·.2)) vs → DR K F (.ref a) (.dic lk true (kvs.map fun p => .tup (p.1.map keyD)) vs)
  | exn {b : Bool} {a : Addr} {n : Str} {dd : Option Addr} {vs : List V} {fs : List D} : Rd F a (exH b (.ref (He.ga K n)) dd a) → XDict F n dd vs → vs.length = (fieldsOf n).length → DRs K F vs fs → DR K F (.ref a) (.exn n fs)
  | obj {x dx : Addr} {vs : List V} {ds : List D} : F x = some (.ins (He.ga K "Play") dx (plyK.zip vs)) → vs.length = plyK.length → DRs K F vs ds → DR K F (.ref x) (.obj ds)
inductive DRs (K : PySem.W.Frag) (F : Hp) : List V → List D → Prop
  | nil : DRs K F [] []
  | cons {v : V} {vs : List V} {d : D} {ds : List D} : DR K F v d → DRs K F vs ds → DRs K F (v :: vs) (d :: ds)
end
structure Sub (F G : Hp) : Prop where
  rd : ∀ a u, Rd F a u → Rd G a u
  tp : ∀ a xs, F a = some (.tup xs) → G a = some (.tup xs)
  fz : ∀ a o u, F a = some (.frz o u) → G a = some (.frz o u)
  is : ∀ a C dx fs, F a = some (.ins C dx fs) → G a = some (.ins C dx fs)
theorem Sub.refl (F : Hp) : Sub F F := ⟨fun _ _ h => h, fun _ _ h => h, fun _ _ _ h => h, fun _ _ _ _ h => h⟩
theorem Sub.of_same {F G : Hp} (h : Same F G) : Sub F G := ⟨fun a u r => by
  rcases r with r | ⟨o, r⟩
  · exact .inl (h _ _ r)
  · exact .inr ⟨o, h _ _ r⟩, fun _ _ r => h _ _ r, fun _ _ _ r => h _ _ r, fun _ _ _ _ r => h _ _ r⟩
theorem Sub.dat {F G : Hp} {a : Addr} {u : HO} {lk : Bool} (s : Sub F G) (h : DAt F a u lk) : DAt G a u lk := s.rd _ _ h
theorem DAt.rd {F : Hp} {a : Addr} {u : HO} {lk : Bool} (h : DAt F a u lk) : Rd F a u := h
theorem Sub.sqL {K : PySem.W.Frag} {F G : Hp} {a : Addr} {xs : List V} (s : Sub F G) (h : SqL K F a xs) : SqL K G a xs := by
  rcases h with h | h
  · exact .inl (s.rd _ _ h)
  · exact .inr h
theorem Sub.sqT {K : PySem.W.Frag} {F G : Hp} {a : Addr} {xs : List V} (s : Sub F G) (h : SqT K F a xs) : SqT K G a xs := by
  rcases h with h | h
  · exact .inl (s.rd _ _ h)
  · exact .inr h
theorem Sub.sqP {K : PySem.W.Frag} {F G : Hp} {a : Addr} {xs : List V} (s : Sub F G) (h : F a = some (.tup xs)) : SqT K G a xs := .inl (.inl (s.tp _ _ h))

mutual
theorem DR.mono {K : PySem.W.Frag} {F G : Hp} (s : Sub F G) : ∀ {d : D} {v : V}, DR K F v d → DR K G v d
  | .non, _, h => by cases h; exact .non
  | .bl b, _, h => by cases h; exact .bl b
  | .int i, _, h => by cases h; exact .int i
  | .str x, _, h => by cases h; exact .str x
  | .tup ds, _, h => by
    cases h with
    | tup h1 h2 => exact .tup (s.tp _ _ h1) (DRs.mono s h2)
  | .lst ds, _, h => by
    cases h with
    | lst h1 h2 => exact .lst (s.rd _ _ h1) (DRs.mono s h2)
  | .dic lk tt ks vs, _, h => by
    cases h with
    | dK h1 h2 => exact .dK (s.dat h1) (DRs.mono s h2)
    | dT h1 h2 => exact .dT (s.dat h1) (DRs.mono s h2)
  | .exn c fs, _, h => by
    cases h with
    | exn h1 h2 h3 h4 =>
      refine .exn (s.rd _ _ h1) ?_ h3 (DRs.mono s h4)
      rcases h2 with h2 | ⟨d, e, h2⟩
      · exact .inl h2
      · exact .inr ⟨d, e, s.rd _ _ h2⟩
  | .scr ns, _, h => by
    cases h with
    | scr h1 => exact .scr (s.sqL h1)
  | .cst zs, _, h => by
    cases h with
    | cst h1 => exact .cst (s.sqT h1)
  | .obj ds, _, h => by
    cases h with
    | obj h1 h2 h3 => exact .obj (s.is _ _ _ _ h1) h2 (DRs.mono s h3)
theorem DRs.mono {K : PySem.W.Frag} {F G : Hp} (s : Sub F G) : ∀ {ds : List D} {vs : List V}, DRs K F vs ds → DRs K G vs ds
  | [], _, h => by cases h; exact .nil
  | d :: ds, _, h => by
    cases h with
    | cons h1 h2 => exact .cons (DR.mono s h1) (DRs.mono s h2)
end

section
variable {K : PySem.W.Frag} {F : Hp}
theorem DRs.length : ∀ {vs : List V} {ds : List D}, DRs K F vs ds → vs.length = ds.length
  | _, _, .nil => rfl
  | _, _, .cons _ h => by simp [DRs.length h]
theorem DRs.append : ∀ {vs ws : List V} {ds es : List D}, DRs K F vs ds → DRs K F ws es → DRs K F (vs ++ ws) (ds ++ es)
  | _, _, _, _, .nil, h => h
  | _, _, _, _, .cons h1 h2, h => .cons h1 (h2.append h)
theorem DRs.get : ∀ {vs : List V} {ds : List D} {i : Nat} {d : D}, DRs K F vs ds → ds[i]? = some d → ∃ v, vs[i]? = some v ∧ DR K F v d
  | _, _, _, _, .nil, e => by simp at e
  | _, _, 0, _, .cons h _, e => by simp at e; subst e; exact ⟨_, rfl, h⟩
  | _, _, i + 1, _, .cons _ t, e => by
    obtain ⟨v, h1, h2⟩ := t.get (i := i) (by simpa using e)
    exact ⟨v, by simpa using h1, h2⟩
theorem DRs.take : ∀ {vs : List V} {ds : List D} (n : Nat), DRs K F vs ds → DRs K F (vs.take n) (ds.take n)
  | _, _, 0, _ => .nil
  | _, _, _ + 1, .nil => .nil
  | _, _, n + 1, .cons h t => .cons h (t.take n)
theorem DRs.drop : ∀ {vs : List V} {ds : List D} (n : Nat), DRs K F vs ds → DRs K F (vs.drop n) (ds.drop n)
  | _, _, 0, r => r
  | _, _, _ + 1, .nil => .nil
  | _, _, n + 1, .cons _ t => t.drop n
theorem DRs.set {v : V} {d : D} (h : DR K F v d) : ∀ {vs : List V} {ds : List D} (i : Nat), DRs K F vs ds → DRs K F (vs.set i v) (ds.set i d)
  | _, _, _, .nil => .nil
  | _, _, 0, .cons _ t => .cons h t
  | _, _, i + 1, .cons q t => .cons q (DRs.set h i t)
theorem DRs.one {v : V} {d : D} (h : DR K F v d) : DRs K F [v] [d] := .cons h .nil
theorem DRs.reverse : ∀ {vs : List V} {ds : List D}, DRs K F vs ds → DRs K F vs.reverse ds.reverse
  | _, _, .nil => .nil
  | _, _, .cons h t => by
    rw [List.reverse_cons, List.reverse_cons]
    exact t.reverse.append (.one h)
theorem DRs.erase : ∀ {vs : List V} {ds : List D} (i : Nat), DRs K F vs ds → DRs K F (vs.eraseIdx i) (ds.eraseIdx i)
  | _, _, _, .nil => .nil
  | _, _, 0, .cons _ t => t
  | _, _, i + 1, .cons q t => .cons q (DRs.erase i t)
theorem DRs.ints : ∀ (ns : List Int), DRs K F (ns.map V.int) (ns.map D.int)
  | [] => .nil
  | n :: ns => .cons (.int n) (DRs.ints ns)
end
mutual
def lf : D → Bool
  | .non => true | .bl _ => true | .int _ => true | .str _ => true
  | .tup ds => lfs ds
  | .lst _ => false
  | .dic _ _ _ _ => false
  | .cst _ => false
  | .exn _ _ => false
  | .scr _ => false
  | .obj _ => false
def lfs : List D → Bool
  | [] => true
  | d :: ds => lf d && lfs ds
end
@[simp] theorem lf_non : lf .non = true := by simp [lf]
@[simp] theorem lf_bl (b) : lf (.bl b) = true := by simp [lf]
@[simp] theorem lf_int (b) : lf (.int b) = true := by simp [lf]
@[simp] theorem lf_str (b) : lf (.str b) = true := by simp [lf]
@[simp] theorem lf_tup (b) : lf (.tup b) = lfs b := by simp [lf]
@[simp] theorem lf_lst (b) : lf (.lst b) = false := by simp [lf]
@[simp] theorem lf_dic (l t a b) : lf (.dic l t a b) = false := by simp [lf]
@[simp] theorem lf_cst (a) : lf (.cst a) = false := by simp [lf]
@[simp] theorem lf_exn (a b) : lf (.exn a b) = false := by simp [lf]
@[simp] theorem lf_scr (a) : lf (.scr a) = false := by simp [lf]
@[simp] theorem lf_obj (a) : lf (.obj a) = false := by simp [lf]
theorem lfs_eq : ∀ ds : List D, lfs ds = ds.all lf
  | [] => by simp [lfs]
  | d :: ds => by simp [lfs, lfs_eq ds]
@[simp] theorem lfs_nil : lfs [] = true := by simp [lfs]
@[simp] theorem lfs_cons (d ds) : lfs (d :: ds) = (lf d && lfs ds) := by simp [lfs]
@[simp] theorem lfs_append (a b) : lfs (a ++ b) = (lfs a && lfs b) := by simp [lfs_eq, List.all_append]
@[simp] theorem lfs_map' {α : Type} (f : α → D) (xs : List α) : lfs (xs.map f) = xs.all fun x => lf (f x) := by
  rw [lfs_eq, List.all_map]; rfl
def Tp (F G : Hp) : Prop := ∀ a xs, F a = some (.tup xs) → G a = some (.tup xs)
mutual
theorem DR.mono_lf {K : PySem.W.Frag} {F G : Hp} (s : Tp F G) : ∀ {d : D} {v : V}, lf d = true → DR K F v d → DR K G v d
  | .non, _, _, h => by cases h; exact .non
  | .bl b, _, _, h => by cases h; exact .bl b
  | .int i, _, _, h => by cases h; exact .int i
  | .str x, _, _, h => by cases h; exact .str x
  | .tup ds, _, l, h => by
    cases h with
    | tup h1 h2 => exact .tup (s _ _ h1) (DRs.mono_lf s (by simpa using l) h2)
  | .lst ds, _, l, h => by simp at l
  | .dic lk tt ks vs, _, l, h => by simp at l
  | .cst zs, _, l, h => by simp at l
  | .obj zs, _, l, h => by simp at l
  | .exn c fs, _, l, h => by simp at l
  | .scr ns, _, l, h => by simp at l
theorem DRs.mono_lf {K : PySem.W.Frag} {F G : Hp} (s : Tp F G) : ∀ {ds : List D} {vs : List V}, lfs ds = true → DRs K F vs ds → DRs K G vs ds
  | [], _, _, h => by cases h; exact .nil
  | d :: ds, _, l, h => by
    simp only [lfs_cons, Bool.and_eq_true] at l
    cases h with
    | cons h1 h2 => exact .cons (DR.mono_lf s l.1 h1) (DRs.mono_lf s l.2 h2)
end
structure Ext (F H F' H' : Hp) : Prop where
  ff : Same F F'
  fh : Same F' H'
  hh : Same H H'
  new : ∀ a, F' a ≠ none → F a ≠ none ∨ ¬ Mut (H a)
  nf : ∀ a o xs, F' a = some (.frz o (.lst xs)) → F a = some (.frz o (.lst xs))
theorem nmut {o : Option HO} (h : o = none) : ¬ Mut o := fun m => by rw [h] at m; exact m
theorem nmut_back {H H' : Hp} {a : Addr} (s : Same H H') (h : ¬ Mut (H' a)) : ¬ Mut (H a) := fun m => by
  cases e : H a with
  | none => exact nmut e m
  | some o => rw [e] at m; rw [s _ _ e] at h; exact h m
theorem Ext.refl {F H : Hp} (h : Same F H) : Ext F H F H := ⟨Same.refl _, h, Same.refl _, fun _ h => .inl h, fun _ _ _ h => h⟩
theorem Ext.trans {F H F1 H1 F2 H2 : Hp} (a : Ext F H F1 H1) (b : Ext F1 H1 F2 H2) : Ext F H F2 H2 :=
  ⟨a.ff.trans b.ff, b.fh, a.hh.trans b.hh, fun x h => by
    rcases b.new x h with h | h
    · exact a.new x h
    · exact .inr (nmut_back a.hh h), fun x o xs h => a.nf _ _ _ (b.nf _ _ _ h)⟩
theorem same_new {H : Hp} {p : Addr} {o : HO} (h : H p = none) : Same H (upd H p o) := fun b x e => by
  rw [upd_ne (ne_of_none e h)]
  exact e
theorem Ext.put {F H : Hp} {p : Addr} {o : HO} (s : Same F H) (h : H p = none) (no : ∀ w xs, o ≠ .frz w (.lst xs) := by (intro _ _ h; first | (cases h; done) | (injection h with h1 h2; cases h2; done))) : Ext F H (upd F p o) (upd H p o) := by
  have hf : F p = none := s.free h
  refine ⟨same_new hf, fun b x e => ?_, same_new h, fun a ha => ?_, fun a w xs e => ?_⟩
  · by_cases hb : b = p
    · subst hb; rw [upd_same] at e ⊢; exact e
    · rw [upd_ne hb] at e ⊢; exact s _ _ e
  · by_cases hb : a = p
    · subst hb; exact .inr (nmut h)
    · rw [upd_ne hb] at ha; exact .inl ha
  · by_cases hb : a = p
    · subst hb; rw [upd_same] at e; exact absurd (Option.some.inj e) (no _ _)
    · rw [upd_ne hb] at e; exact e
theorem Ext.open {F H : Hp} {p : Addr} {o : HO} (s : Same F H) (h : H p = none) : Ext F H F (upd H p o) :=
  ⟨Same.refl _, s.trans (same_new h), same_new h, fun _ h => .inl h, fun _ _ _ h => h⟩
def ExR (_mg : Str → Option Value) (K : PySem.W.Frag) (F : Hp) (x : D) (c : Value) (dd : Option Addr) : Prop :=
  ∃ n fs vs, x = .exn n fs ∧ c = .ref (He.ga K n) ∧ XDict F n dd vs ∧ vs.length = (fieldsOf n).length ∧ DRs K F vs fs
theorem XDict.mono {F G : Hp} {n : Str} {dd : Option Addr} {vs : List V} (s : Sub F G) (h : XDict F n dd vs) : XDict G n dd vs := by
  rcases h with h | ⟨d, e, h⟩
  · exact .inl h
  · exact .inr ⟨d, e, s.rd _ _ h⟩
theorem ExR.mono {mg : Str → Option Value} {K : PySem.W.Frag} {F G : Hp} {x : D} {c : Value} {dd : Option Addr} (s : Same F G) (h : ExR mg K F x c dd) : ExR mg K G x c dd := by
  obtain ⟨n, fs, vs, h1, h2, h3, h4, h5⟩ := h
  exact ⟨n, fs, vs, h1, h2, h3.mono (Sub.of_same s), h4, h5.mono (Sub.of_same s)⟩
section
variable {α β γ δ : Type}
def Post (K : PySem.W.Frag) (mg : Str → Option Value) (R : Hp → β → α → Prop) (W : WX) (F H : Hp) (σ : St) (Q : β → Hp → Prop) : Out α → Prop
  | .ok d => ∀ v F' H', Ext F H F' H' → R F' v d → Q v H'
  | .exc x => ∀ c dd F' H', Ext F H F' H' → ExR mg K F' x c dd → W c dd σ H'
  | .stuck => False
theorem Post.ext {K : PySem.W.Frag} {mg : Str → Option Value} {R : Hp → β → α → Prop} {W : WX} {F H F1 H1 : Hp} {σ : St} {Q : β → Hp → Prop} {o : Out α} (e : Ext F H F1 H1) (h : Post K mg R W F H σ Q o) : Post K mg R W F1 H1 σ Q o := by
  cases o with
  | ok d => exact fun v F' H' e' r => h v F' H' (e.trans e') r
  | exc x => exact fun c dd F' H' e' r => h c dd F' H' (e.trans e') r
  | stuck => exact h
theorem Post.bind {K : PySem.W.Frag} {mg : Str → Option Value} {R : Hp → β → α → Prop} {R' : Hp → δ → γ → Prop} {W : WX} {F H : Hp} {σ : St} {Q : β → Hp → Prop} {Q' : δ → Hp → Prop} {o : Out γ} {k : γ → Out α}
    (h : Post K mg R W F H σ Q (o.bind k)) (hk : ∀ d v F1 H1, Ext F H F1 H1 → R' F1 v d → Post K mg R W F1 H1 σ Q (k d) → Q' v H1) : Post K mg R' W F H σ Q' o := by
  cases o with
  | ok d => exact fun v F1 H1 e r => hk d v F1 H1 e r (Post.ext e h)
  | exc x => exact h
  | stuck => exact h
theorem Post.ok {K : PySem.W.Frag} {mg : Str → Option Value} {R : Hp → β → α → Prop} {W : WX} {F H : Hp} {σ : St} {Q : β → Hp → Prop} {d : α} {v : β} (h : Post K mg R W F H σ Q (.ok d)) (s : Same F H) (r : R F v d) : Q v H := h v F H (.refl s) r
end
def RF (K : PySem.W.Frag) (F H : Hp) (σ : St) (ρ : Env) : Prop :=
  Same F H ∧ σ.length = ρ.length ∧ ∀ (i : Nat) (d : D), ρ[i]? = some (some d) → ∃ v, σ[i]? = some (some v) ∧ DR K F v d
theorem RF.ext {K : PySem.W.Frag} {F H F' H' : Hp} {σ : St} {ρ : Env} (h : RF K F H σ ρ) (e : Ext F H F' H') : RF K F' H' σ ρ :=
  ⟨e.fh, h.2.1, fun i d hi => by
    obtain ⟨v, h1, h2⟩ := h.2.2 i d hi
    exact ⟨v, h1, h2.mono (Sub.of_same e.ff)⟩⟩
def dE (K : PySem.W.Frag) (mg : Str → Option Value) (W : WX) (ev : Env → Out D) : TE := fun σ H Q => ∃ F ρ, RF K F H σ ρ ∧ Post K mg (DR K) W F H σ Q (ev ρ)
def dA (K : PySem.W.Frag) (mg : Str → Option Value) (W : WX) (ev : Env → Out (List D)) : TA := fun σ H Q => ∃ F ρ, RF K F H σ ρ ∧ Post K mg (DRs K) W F H σ Q (ev ρ)
def dT (K : PySem.W.Frag) (mg : Str → Option Value) (W : WX) (ev : Env → Out Bool) : TT := fun σ H Q => ∃ F ρ, RF K F H σ ρ ∧ Post K mg (fun _ b c => b = c) W F H σ Q (ev ρ)
def SE (X : Cx) (W : WX) (e : Expr) (ev : Env → Out D) : Prop := PE X e (dE X.K X.mg W ev)
def SA (X : Cx) (W : WX) (es : List Expr) (ev : Env → Out (List D)) : Prop := PA X es (dA X.K X.mg W ev)
def ST (X : Cx) (W : WX) (e : Expr) (ev : Env → Out Bool) : Prop := PT X e (dT X.K X.mg W ev)
def SW (X : Cx) (W : WX) (e : Expr) (ev : Env → Out Bool) : Prop := PW X e (dT X.K X.mg W ev)

section
variable {X : Cx} {W : WX}
theorem SE.of {e : Expr} {t : TE} {ev : Env → Out D} (h : PE X e t) (hs : ∀ F H σ ρ Q, RF X.K F H σ ρ → Post X.K X.mg (DR X.K) W F H σ Q (ev ρ) → t σ H Q) : SE X W e ev :=
  ⟨fun pins s σ H Q I ⟨F, ρ, h1, h2⟩ => h.run pins s σ H Q I (hs F H σ ρ Q h1 h2)⟩
theorem SA.of {es : List Expr} {t : TA} {ev : Env → Out (List D)} (h : PA X es t) (hs : ∀ F H σ ρ Q, RF X.K F H σ ρ → Post X.K X.mg (DRs X.K) W F H σ Q (ev ρ) → t σ H Q) : SA X W es ev :=
  ⟨fun pos pins s σ H Q I ⟨F, ρ, h1, h2⟩ => h.run pos pins s σ H Q I (hs F H σ ρ Q h1 h2)⟩
theorem ST.of {e : Expr} {t : TT} {ev : Env → Out Bool} (h : PT X e t) (hs : ∀ F H σ ρ Q, RF X.K F H σ ρ → Post X.K X.mg (fun _ b c => b = c) W F H σ Q (ev ρ) → t σ H Q) : ST X W e ev :=
  ⟨fun pins s σ H Q I ⟨F, ρ, h1, h2⟩ => h.run pins s σ H Q I (hs F H σ ρ Q h1 h2)⟩
theorem SW.of {e : Expr} {t : TT} {ev : Env → Out Bool} (h : PW X e t) (hs : ∀ F H σ ρ Q, RF X.K F H σ ρ → Post X.K X.mg (fun _ b c => b = c) W F H σ Q (ev ρ) → t σ H Q) : SW X W e ev :=
  ⟨fun wh pins s σ H Q I ⟨F, ρ, h1, h2⟩ => h.run wh pins s σ H Q I (hs F H σ ρ Q h1 h2)⟩
def eV (i : Nat) : Env → Out D := fun ρ => match ρ[i]? with
  | some (some d) => .ok d
  | _ => .stuck
def eC (d : D) : Env → Out D := fun _ => .ok d
theorem se_var (i : Nat) {x : Str} {pos : Pos} (hN : X.N[i]? = some x := by rfl) (hv : Vis X.env.scope x := by first | exact Or.inl rfl | exact Or.inr (Or.inl rfl) | exact Or.inr (Or.inr rfl)) (hd : (x == ("__debug__" : Str)) = false := by decide)
    (hcd : (x == ("__classdict__" : Str)) = false := by decide) : SE X W (.Name x pos) (eV i) := by
  refine .of (pe_var (i := i) hN hv hd hcd) fun F H σ ρ Q h1 h2 => ?_
  unfold eV at h2
  split at h2
  · rename_i d hd
    obtain ⟨v, e, r⟩ := h1.2.2 i d hd
    exact ⟨v, e, h2.ok h1.1 r⟩
  · exact h2.elim
theorem se_C {e : Expr} {v : V} {d : D} (h : PE X e (tC v)) (r : ∀ F, DR X.K F v d) : SE X W e (eC d) :=
  .of h fun F H σ ρ Q h1 h2 => h2.ok h1.1 (r F)
theorem se_int {i j pos} : SE X W (.Constant (.int i) j pos) (eC (.int i)) := se_C pe_int fun _ => .int i
theorem se_bl {i j pos} : SE X W (.Constant (.bool i) j pos) (eC (.bl i)) := se_C pe_bl fun _ => .bl i
theorem se_str {i j pos} : SE X W (.Constant (.str i) j pos) (eC (.str i)) := se_C pe_str fun _ => .str i
def eOp (g : D → D → Out D) (a b : Env → Out D) : Env → Out D := fun ρ => (a ρ).bind fun x => (b ρ).bind fun y => g x y
def eUn (g : D → Out D) (a : Env → Out D) : Env → Out D := fun ρ => (a ρ).bind g
def OpD (K : PySem.W.Frag) (r : R2) (g : D → D → Out D) : Prop := ∀ (mg : Str → Option Value) (W : WX) (F H : Hp) (σ : St) (x y : V) (dx dy : D) (Q : VK), Same F H → DR K F x dx → DR K F y dy → Post K mg (DR K) W F H σ Q (g dx dy) → r x y H Q
def UnD (K : PySem.W.Frag) (r : V → Hp → VK → Prop) (g : D → Out D) : Prop := ∀ (mg : Str → Option Value) (W : WX) (F H : Hp) (σ : St) (x : V) (dx : D) (Q : VK), Same F H → DR K F x dx → Post K mg (DR K) W F H σ Q (g dx) → r x H Q
theorem OpR.or {f : Value → Value → Sem Value} {r r' : R2} (h : OpR X f r) (h' : OpR X f r') : OpR X f fun x y H Q => r x y H Q ∨ r' x y H Q := by
  intro pins s σ H x y v u Q I rx ry q
  rcases q with q | q
  · exact h pins s σ H x y v u Q I rx ry q
  · exact h' pins s σ H x y v u Q I rx ry q
theorem op_sub2 {r : R2} {g : D → D → Out D} (hg : OpD X.K r g) {ea eb : Env → Out D} {F H : Hp} {σ : St} {ρ : Env} {Q : VK} (h1 : RF X.K F H σ ρ) (h2 : Post X.K X.mg (DR X.K) W F H σ Q (eOp g ea eb ρ)) :
    tOp r (dE X.K X.mg W ea) (dE X.K X.mg W eb) σ H Q := by
  refine ⟨F, ρ, h1, Post.bind h2 fun d v F1 H1 e1 r1 q1 => ?_⟩
  refine ⟨F1, ρ, h1.ext e1, Post.bind q1 fun d2 v2 F2 H2 e2 r2 q2 => ?_⟩
  exact hg _ W F2 H2 σ v v2 d d2 Q e2.fh (r1.mono (Sub.of_same e2.ff)) r2 q2
theorem se_bin {op : Operator} {r : R2} {g : D → D → Out D} {a b : Expr} {ea eb : Env → Out D} {pos : Pos} (ho : OpR X (binaryOp op) r) (hg : OpD X.K r g) (ha : SE X W a ea) (hb : SE X W b eb) : SE X W (.BinOp a op b pos) (eOp g ea eb) :=
  .of (pe_op ho ha hb) fun F H σ ρ Q h1 h2 => op_sub2 hg h1 h2
theorem se_cmpG {op : CmpOp} {r : R2} {g : D → D → Out D} {a b : Expr} {ea eb : Env → Out D} {pos : Pos} (ho : OpR X (compareOp op) r) (hg : OpD X.K r g) (ha : SE X W a ea) (hb : SE X W b eb) (hm : behindInMarks op b = false) : SE X W (.Compare a [op] [b] pos) (eOp g ea eb) :=
  .of (pe_cmpR ho ha hb hm) fun F H σ ρ Q h1 h2 => op_sub2 hg h1 h2
theorem se_unG {op : UnaryOp} {r : V → Hp → VK → Prop} {g : D → Out D} {a : Expr} {ea : Env → Out D} {pos : Pos} (ho : UnR X (unaryOp op) r) (hg : UnD X.K r g) (ha : SE X W a ea) : SE X W (.UnaryOp op a pos) (eUn g ea) :=
  .of (pe_un ho ha) fun F H σ ρ Q h1 h2 => by
    refine ⟨F, ρ, h1, Post.bind h2 fun d v F1 H1 e1 r1 q1 => ?_⟩
    exact hg _ W F1 H1 σ v d Q e1.fh r1 q1
def tB1 (a : Env → Out D) : Env → Out Bool := fun ρ => (a ρ).bind fun d => match d with
  | .bl b => .ok b
  | _ => .stuck
theorem st_cmpG {op : CmpOp} {r : R2} {g : D → D → Out D} {a b : Expr} {ea eb : Env → Out D} {pos : Pos} (ho : OpR X (compareOp op) r) (hg : OpD X.K r g) (ha : SE X W a ea) (hb : SE X W b eb) (hm : behindInMarks op b = false) : ST X W (.Compare a [op] [b] pos) (tB1 (eOp g ea eb)) :=
  .of (pt_cmpR ho ha hb hm) fun F H σ ρ Q h1 h2 => by
    refine op_sub2 (W := W) (ea := ea) (eb := eb) (ρ := ρ) hg h1 ?_
    refine Post.bind h2 fun d v F1 H1 e1 r1 q1 => ?_
    cases r1 with
    | bl c => exact ⟨c, rfl, q1.ok e1.fh rfl⟩
    | _ => exact False.elim q1
end
end CW
namespace CW
open PySem PySem.Spec PyProof.Rows L2
mutual
def py : D → PyData
  | .non => .none | .bl b => .bool b | .int i => .int i | .str s => .str s
  | .tup ds => .tuple (pys ds) | .lst ds => .list (pys ds)
  | .dic _ _ _ _ => .dict [] | .exn _ _ => .dict [] | .scr _ => .dict [] | .cst _ => .dict [] | .obj _ => .dict []
def pys : List D → List PyData
  | [] => []
  | d :: ds => py d :: pys ds
end
mutual
def eqD : D → D → Bool
  | .non, .non => true
  | .bl a, .bl b => a == b
  | .bl a, .int j => (if a then 1 else 0) == j
  | .int i, .bl b => i == (if b then 1 else 0)
  | .int i, .int j => i == j
  | .str x, .str y => x == y
  | .lst xs, .lst ys => eqDs xs ys
  | .tup xs, .tup ys => eqDs xs ys
  | _, _ => false
def eqDs : List D → List D → Bool
  | [], [] => true
  | x :: xs, y :: ys => eqD x y && eqDs xs ys
  | _, _ => false
end
mutual
def okD : Nat → D → Bool
  | _, .non => true | _, .bl _ => true | _, .int _ => true
  | _, .str s => PyData.strOk s
  | 0, .tup _ => false
  | 0, .lst _ => false
  | n + 1, .tup ds => okDs n ds
  | n + 1, .lst ds => okDs n ds
  | _, .dic _ _ _ _ => false | _, .exn _ _ => false | _, .scr _ => false | _, .cst _ => false | _, .obj _ => false
def okDs : Nat → List D → Bool
  | _, [] => true
  | n, d :: ds => okD n d && okDs n ds
end
mutual
theorem eqD_py : ∀ d e : D, ∀ n m, okD n d = true → okD m e = true → eqD d e = PyData.eqv (py d) (py e)
  | .non, e, n, m, h, h' => by cases e <;> simp [eqD, py, PyData.eqv, okD] at h' ⊢
  | .bl b, e, n, m, h, h' => by cases e <;> simp [eqD, py, PyData.eqv, okD] at h' ⊢
  | .int b, e, n, m, h, h' => by cases e <;> simp [eqD, py, PyData.eqv, okD] at h' ⊢
  | .str b, e, n, m, h, h' => by cases e <;> simp [eqD, py, PyData.eqv, okD] at h' ⊢
  | .tup ds, e, n, m, h, h' => by
    cases n with
    | zero => simp [okD] at h
    | succ n =>
      cases e with
      | tup es =>
        cases m with
        | zero => simp [okD] at h'
        | succ m =>
          simp only [eqD, py, PyData.eqv]
          exact eqDs_py ds es n m (by simpa [okD] using h) (by simpa [okD] using h')
      | _ => simp [eqD, py, PyData.eqv, okD] at h' ⊢
  | .lst ds, e, n, m, h, h' => by
    cases n with
    | zero => simp [okD] at h
    | succ n =>
      cases e with
      | lst es =>
        cases m with
        | zero => simp [okD] at h'
        | succ m =>
          simp only [eqD, py, PyData.eqv]
          exact eqDs_py ds es n m (by simpa [okD] using h) (by simpa [okD] using h')
      | _ => simp [eqD, py, PyData.eqv, okD] at h' ⊢
  | .dic _ _ _ _, e, n, m, h, h' => by cases n <;> simp [okD] at h
  | .cst _, e, n, m, h, h' => by cases n <;> simp [okD] at h
  | .obj _, e, n, m, h, h' => by cases n <;> simp [okD] at h
  | .exn _ _, e, n, m, h, h' => by cases n <;> simp [okD] at h
  | .scr _, e, n, m, h, h' => by cases n <;> simp [okD] at h
theorem eqDs_py : ∀ ds es : List D, ∀ n m, okDs n ds = true → okDs m es = true → eqDs ds es = PyData.eqvAll (pys ds) (pys es)
  | [], [], _, _, _, _ => by simp [eqDs, pys, PyData.eqvAll]
  | [], _ :: _, _, _, _, _ => by simp [eqDs, pys, PyData.eqvAll]
  | _ :: _, [], _, _, _, _ => by simp [eqDs, pys, PyData.eqvAll]
  | d :: ds, e :: es, n, m, h, h' => by
    simp only [okDs, Bool.and_eq_true] at h h'
    simp only [eqDs, pys, PyData.eqvAll]
    rw [eqD_py d e n m h.1 h'.1, eqDs_py ds es n m h.2 h'.2]
end
mutual
theorem okD_lay : ∀ d : D, ∀ n, okD n d = true → (py d).canLay0 = true ∧ (py d).depth ≤ n
  | .non, n, h => by simp [py, PyData.canLay0, PyData.depth]
  | .bl b, n, h => by simp [py, PyData.canLay0, PyData.depth]
  | .int i, n, h => by simp [py, PyData.canLay0, PyData.depth]
  | .str s, n, h => by
    have h' : PyData.strOk s = true := by cases n <;> simpa [okD] using h
    simp [py, PyData.canLay0, PyData.depth, h']
  | .tup ds, n, h => by
    cases n with
    | zero => simp [okD] at h
    | succ n =>
      obtain ⟨a, b⟩ := okDs_lay ds n (by simpa [okD] using h)
      simp only [py, PyData.canLay0, PyData.depth]
      exact ⟨a, by omega⟩
  | .lst ds, n, h => by
    cases n with
    | zero => simp [okD] at h
    | succ n =>
      obtain ⟨a, b⟩ := okDs_lay ds n (by simpa [okD] using h)
      simp only [py, PyData.canLay0, PyData.depth]
      exact ⟨a, by omega⟩
  | .dic _ _ _ _, n, h => by cases n <;> simp [okD] at h
  | .cst _, n, h => by cases n <;> simp [okD] at h
  | .obj _, n, h => by cases n <;> simp [okD] at h
  | .exn _ _, n, h => by cases n <;> simp [okD] at h
  | .scr _, n, h => by cases n <;> simp [okD] at h
theorem okDs_lay : ∀ ds : List D, ∀ n, okDs n ds = true → PyData.canLayAll0 (pys ds) = true ∧ PyData.depthAll (pys ds) ≤ n
  | [], n, h => by simp [pys, PyData.canLayAll0, PyData.depthAll]
  | d :: ds, n, h => by
    simp only [okDs, Bool.and_eq_true] at h
    obtain ⟨a, b⟩ := okD_lay d n h.1
    obtain ⟨a', b'⟩ := okDs_lay ds n h.2
    simp only [pys, PyData.canLayAll0, PyData.depthAll, a, a', Bool.and_self, true_and]
    omega
end
mutual
theorem DR.dp {K : PySem.W.Frag} {F H : Hp} (s : Same F H) : ∀ {d : D} {v : V} (n : Nat), okD n d = true → DR K F v d → Dp K H v (py d)
  | .non, _, n, _, h => by cases h; simp only [py]; exact .non
  | .bl b, _, n, _, h => by cases h; simp only [py]; exact .bl b
  | .int i, _, n, _, h => by cases h; simp only [py]; exact .int i
  | .str x, _, n, _, h => by cases h; simp only [py]; exact .str x
  | .tup ds, _, n, l, h => by
    cases n with
    | zero => simp [okD] at l
    | succ n =>
      cases h with
      | tup h1 h2 =>
        simp only [py]
        exact .tup ((Sub.of_same s).sqP h1) (DRs.dp s n (by simpa [okD] using l) h2)
  | .lst ds, _, n, l, h => by
    cases n with
    | zero => simp [okD] at l
    | succ n =>
      cases h with
      | lst h1 h2 =>
        simp only [py]
        exact .lst (.inl ((Sub.of_same s).rd _ _ h1)) (DRs.dp s n (by simpa [okD] using l) h2)
  | .dic _ _ _ _, _, n, l, _ => by cases n <;> simp [okD] at l
  | .cst _, _, n, l, _ => by cases n <;> simp [okD] at l
  | .obj _, _, n, l, _ => by cases n <;> simp [okD] at l
  | .exn _ _, _, n, l, _ => by cases n <;> simp [okD] at l
  | .scr _, _, n, l, _ => by cases n <;> simp [okD] at l
theorem DRs.dp {K : PySem.W.Frag} {F H : Hp} (s : Same F H) : ∀ {ds : List D} {vs : List V} (n : Nat), okDs n ds = true → DRs K F vs ds → DpAll K H vs (pys ds)
  | [], _, n, _, h => by cases h; simp only [pys]; exact .nil
  | d :: ds, _, n, l, h => by
    simp only [okDs, Bool.and_eq_true] at l
    cases h with
    | cons h1 h2 =>
      simp only [pys]
      exact .cons (DR.dp s n l.1 h1) (DRs.dp s n l.2 h2)
end
theorem shaped_of {d : D} (h : okD 60 d = true) : SeqAt.shaped (py d) = true := by
  obtain ⟨a, b⟩ := okD_lay d 60 h
  unfold SeqAt.shaped
  rw [a, decide_eq_true (by omega), Bool.and_self]

section simps
@[simp] theorem eqD_int (i j : Int) : eqD (.int i) (.int j) = (i == j) := by simp [eqD]
@[simp] theorem eqD_bl (i j : Bool) : eqD (.bl i) (.bl j) = (i == j) := by simp [eqD]
@[simp] theorem eqD_str (i j : Str) : eqD (.str i) (.str j) = (i == j) := by simp [eqD]
@[simp] theorem eqD_non : eqD .non .non = true := by simp [eqD]
@[simp] theorem eqD_tup (i j) : eqD (.tup i) (.tup j) = eqDs i j := by simp [eqD]
@[simp] theorem eqD_lst (i j) : eqD (.lst i) (.lst j) = eqDs i j := by simp [eqD]
@[simp] theorem eqDs_nil : eqDs [] [] = true := by simp [eqDs]
@[simp] theorem eqDs_cons (a as b bs) : eqDs (a :: as) (b :: bs) = (eqD a b && eqDs as bs) := by simp [eqDs]
@[simp] theorem eqDs_nc (b bs) : eqDs [] (b :: bs) = false := by simp [eqDs]
@[simp] theorem eqDs_cn (b bs) : eqDs (b :: bs) [] = false := by simp [eqDs]
@[simp] theorem okD_int (n i) : okD n (.int i) = true := by cases n <;> simp [okD]
@[simp] theorem okD_bl (n i) : okD n (.bl i) = true := by cases n <;> simp [okD]
@[simp] theorem okD_non (n) : okD n .non = true := by cases n <;> simp [okD]
@[simp] theorem okD_str (n s) : okD n (.str s) = PyData.strOk s := by cases n <;> simp [okD]
@[simp] theorem okD_tup (n ds) : okD (n + 1) (.tup ds) = okDs n ds := by simp [okD]
@[simp] theorem okD_lst (n ds) : okD (n + 1) (.lst ds) = okDs n ds := by simp [okD]
theorem okDs_eq (n : Nat) : ∀ ds : List D, okDs n ds = ds.all (okD n)
  | [] => by simp [okDs]
  | d :: ds => by simp [okDs, okDs_eq n ds]
@[simp] theorem okDs_nil (n) : okDs n [] = true := by simp [okDs]
@[simp] theorem okDs_cons (n d ds) : okDs n (d :: ds) = (okD n d && okDs n ds) := by simp [okDs]
@[simp] theorem okDs_append (n a b) : okDs n (a ++ b) = (okDs n a && okDs n b) := by simp [okDs_eq, List.all_append]
@[simp] theorem okDs_map {α : Type} (n : Nat) (f : α → D) (xs : List α) : okDs n (xs.map f) = xs.all fun x => okD n (f x) := by
  rw [okDs_eq, List.all_map]; rfl
end simps
def mulOk (i j : Int) : Bool := decide (-(2 ^ 64) < i ∧ i < 2 ^ 64) || decide (-(2 ^ 64) < j ∧ j < 2 ^ 64)
def oAdd : D → D → Out D
  | .int i, .int j => .ok (.int (i + j))
  | .str x, .str y => if x.length + y.length ≤ sizeLine then .ok (.str (x ++ y)) else .stuck
  | .tup xs, .tup ys => if xs.length + ys.length ≤ sizeLine then .ok (.tup (xs ++ ys)) else .stuck
  | .lst xs, .lst ys => if xs.length + ys.length ≤ sizeLine then .ok (.lst (xs ++ ys)) else .stuck
  | _, _ => .stuck
def oI (g : Int → Int → Out D) : D → D → Out D
  | .int i, .int j => g i j
  | _, _ => .stuck
def oSub : D → D → Out D := oI fun i j => .ok (.int (i - j))
def repS (z : Str) (n : Nat) : Str := ⟨(List.replicate n z.cps).foldl (· ++ ·) #[]⟩
theorem repS_len (z : Str) (n : Nat) : (repS z n).length = n * z.length := by
  have key : ∀ (n : Nat) (a : Array Nat), ((List.replicate n z.cps).foldl (· ++ ·) a).size = a.size + n * z.cps.size := by
    intro n
    induction n with
    | zero => intro a; simp
    | succ n ih =>
      intro a
      rw [List.replicate_succ, List.foldl_cons, ih, Array.size_append, Nat.add_mul]
      omega
  show ((List.replicate n z.cps).foldl (· ++ ·) #[]).size = n * z.cps.size
  rw [key]
  simp
def oMul : D → D → Out D
  | .int i, .int j => if mulOk i j then .ok (.int (i * j)) else .stuck
  | .str z, .int k => if 2 ≤ k ∧ k ≤ 1000 ∧ 1 ≤ z.length ∧ z.length ≤ 1000 then .ok (.str (repS z k.toNat)) else .stuck
  | _, _ => .stuck
def oDiv : D → D → Out D := oI fun i j => if 0 < j ∧ j < 2 ^ 64 then .ok (.int (i / j)) else .stuck
def oMod : D → D → Out D := oI fun i j => if 0 < j then .ok (.int (i % j)) else .stuck
def oPow : D → D → Out D := oI fun i j => if 0 ≤ j ∧ j ≤ 1000000 ∧ i.natAbs < 2 ^ 64 then .ok (.int (i ^ j.toNat)) else .stuck
def oShl : D → D → Out D := oI fun i j => if 0 ≤ j ∧ j ≤ 1000000 ∧ i.natAbs < 2 ^ 64 then .ok (.int (i * 2 ^ j.toNat)) else .stuck
def oShr : D → D → Out D := oI fun i j => if 0 ≤ j then .ok (.int (i / 2 ^ j.toNat)) else .stuck
def oAnd : D → D → Out D := oI fun i j => .ok (.int (Builtin.bitAnd i j))
def oOr : D → D → Out D := oI fun i j => .ok (.int (Builtin.bitOr i j))
def oXor : D → D → Out D := oI fun i j => .ok (.int (Builtin.bitXor i j))
def oLt : D → D → Out D := oI fun i j => .ok (.bl (decide (i < j)))
def oLe : D → D → Out D := oI fun i j => .ok (.bl (decide (i ≤ j)))
def oGt : D → D → Out D := oI fun i j => .ok (.bl (decide (j < i)))
def oGe : D → D → Out D := oI fun i j => .ok (.bl (decide (j ≤ i)))
def scalD : D → D → Bool
  | .non, .non => true | .non, .int _ => true | .int _, .non => true | .non, .bl _ => true | .bl _, .non => true | .non, .str _ => true | .str _, .non => true
  | .int _, .int _ => true | .bl _, .bl _ => true | .str _, .str _ => true
  | .int _, .str _ => true | .str _, .int _ => true | .bl _, .str _ => true | .str _, .bl _ => true
  | _, _ => false
def eqOk (x y : D) : Bool := scalD x y || (okD 60 x && okD 60 y)
def oEq (x y : D) : Out D := if eqOk x y then .ok (.bl (eqD x y)) else .stuck
def oNe (x y : D) : Out D := if eqOk x y then .ok (.bl (!eqD x y)) else .stuck
def isNon : D → Bool
  | .non => true
  | _ => false
def oIsN (x y : D) : Out D := match y with
  | .non => .ok (.bl (isNon x))
  | _ => .stuck
def oNotN (x y : D) : Out D := match y with
  | .non => .ok (.bl (!isNon x))
  | _ => .stuck

section
variable {K : PySem.W.Frag} {mg : Str → Option Value} {W : WX} {F H : Hp} {σ : St} {Q : VK}
theorem rI_D {C : Int → Int → Prop} {g : Int → Int → V} {f : Int → Int → Out D} (h : ∀ i j, (f i j = .stuck) ∨ (C i j ∧ ∃ d, f i j = .ok d ∧ ∀ F, DR K F (g i j) d)) : OpD K (rI C g) (oI f) := by
  intro mg W F H σ x y dx dy Q s rx ry q
  cases rx with
  | int i =>
    cases ry with
    | int j =>
      rcases h i j with e | ⟨c, d, e, r⟩
      · have q' : Post K mg (DR K) W F H σ Q (f i j) := q
        rw [e] at q'; exact q'.elim
      · have q' : Post K mg (DR K) W F H σ Q (f i j) := q
        rw [e] at q'
        exact ⟨i, j, rfl, rfl, c, q'.ok s (r F)⟩
    | _ => exact False.elim q
  | _ => exact False.elim q
theorem rI0_D {g : Int → Int → V} {f : Int → Int → Out D} (h : ∀ i j, ∃ d, f i j = .ok d ∧ ∀ F, DR K F (g i j) d) : OpD K (rI0 g) (oI f) := by
  intro mg W F H σ x y dx dy Q s rx ry q
  have h2 : OpD K (rI (fun _ _ => True) g) (oI f) := rI_D fun i j => .inr ⟨trivial, h i j⟩
  obtain ⟨i, j, a, b, _, c⟩ := h2 mg W F H σ x y dx dy Q s rx ry q
  exact ⟨i, j, a, b, c⟩
theorem Post.tup {xs : List V} {ds : List D} (s : Same F H) (h : Post K mg (DR K) W F H σ Q (.ok (.tup ds))) (r : DRs K F xs ds) (p : Addr) (hp : H p = none) : Q (.ref p) (upd H p (.tup xs)) :=
  h _ _ _ (.put s hp) (.tup upd_same (r.mono (Sub.of_same (same_new (s.free hp)))))
theorem Post.lst {xs : List V} {ds : List D} (s : Same F H) (h : Post K mg (DR K) W F H σ Q (.ok (.lst ds))) (r : DRs K F xs ds) (p : Addr) (hp : H p = none) : Q (.ref p) (upd H p (.lst xs)) :=
  h _ _ _ (.put s hp) (.lst (.inl upd_same) (r.mono (Sub.of_same (same_new (s.free hp)))))
end
def rCatR : R2 := fun x y H Q => ∃ l b xs zs, x = .ref l ∧ y = .ref b ∧ Rd H l (.lst xs) ∧ Rd H b (.lst zs) ∧ xs.length + zs.length ≤ sizeLine ∧ ∀ p, H p = none → Q (.ref p) (upd H p (.lst (xs ++ zs)))
theorem op_catR {X : Cx} : OpR X (binaryOp .Add) rCatR := by
  intro pins s σ H x y v u Q I rx ry h
  obtain ⟨l, b, xs, zs, rfl, rfl, hH, hB, hz, q⟩ := h
  cases rx
  cases ry
  obtain ⟨z, its, n, r, e⟩ := hH.ok I.hok
  obtain ⟨z2, its2, n2, r2, e2⟩ := hB.ok I.hok
  have hl := r.length
  have hl2 := r2.length
  refine PySem.P.add_list e e2 ?_ (by rw [List.size_toArray, List.size_toArray]; omega)
  have ea : its.toArray ++ its2.toArray = (its ++ its2).toArray := by simp
  rw [ea]
  exact ⟨.ref _, _, I.lnew (t' := s.toks) (r.append r2) (by rw [List.length_append]; omega), rfl, q _ I.fresh⟩

theorem rd_of {F H : Hp} {a : Addr} {u : HO} (s : Same F H) (h : Rd F a u) : Rd H a u := (Sub.of_same s).rd a u h
section
variable {X : Cx} {W : WX} {a b : Expr} {ea eb : Env → Out D} {pos : Pos}
theorem se_add (ha : SE X W a ea) (hb : SE X W b eb) : SE X W (.BinOp a .Add b pos) (eOp oAdd ea eb) := by
  refine se_bin (OpR.or op_add (OpR.or op_add_str (OpR.or op_catA op_catR))) ?_ ha hb
  intro mg W F H σ x y dx dy Q s rx ry q
  cases rx with
  | int i =>
    cases ry with
    | int j => exact .inl ⟨i, j, rfl, rfl, q.ok s (.int _)⟩
    | _ => exact False.elim q
  | str i =>
    cases ry with
    | str j =>
      have q' : Post X.K mg (DR X.K) W F H σ Q (if i.length + j.length ≤ sizeLine then .ok (.str (i ++ j)) else .stuck) := q
      split at q'
      · rename_i hz
        exact .inr (.inl ⟨i, j, rfl, rfl, hz, q'.ok s (.str _)⟩)
      · exact q'.elim
    | _ => exact False.elim q
  | @tup a1 xs ds h1 h2 =>
    cases ry with
    | @tup b1 ys es g1 g2 =>
      have q' : Post X.K mg (DR X.K) W F H σ Q (if ds.length + es.length ≤ sizeLine then .ok (.tup (ds ++ es)) else .stuck) := q
      split at q'
      · rename_i hz
        have l1 := h2.length
        have l2 := g2.length
        refine .inr (.inr (.inl ⟨a1, b1, xs, ys, rfl, rfl, (Sub.of_same s).sqP h1, (Sub.of_same s).sqP g1, by rw [l1, l2]; exact hz, fun e => ?_, fun _ e => ?_, fun _ _ => Post.tup s q' (h2.append g2)⟩))
        · subst e
          cases h2
          exact q'.ok s (.tup g1 g2)
        · subst e
          cases g2
          rw [List.append_nil] at q'
          exact q'.ok s (.tup h1 h2)
      · exact q'.elim
    | _ => exact False.elim q
  | @lst a1 xs ds h1 h2 =>
    cases ry with
    | @lst b1 ys es g1 g2 =>
      have q' : Post X.K mg (DR X.K) W F H σ Q (if ds.length + es.length ≤ sizeLine then .ok (.lst (ds ++ es)) else .stuck) := q
      split at q'
      · rename_i hz
        have l1 := h2.length
        have l2 := g2.length
        exact .inr (.inr (.inr ⟨a1, b1, xs, ys, rfl, rfl, rd_of s h1, rd_of s g1, by rw [l1, l2]; exact hz, Post.lst s q' (h2.append g2)⟩))
      · exact q'.elim
    | _ => exact False.elim q
  | _ => exact False.elim q
theorem se_sub (ha : SE X W a ea) (hb : SE X W b eb) : SE X W (.BinOp a .Sub b pos) (eOp oSub ea eb) := se_bin op_sub (rI0_D fun i j => ⟨_, rfl, fun F => .int _⟩) ha hb
def rMulS : R2 := fun x y H Q => ∃ z k, x = .str z ∧ y = .int k ∧ (2 ≤ k ∧ k ≤ 1000 ∧ 1 ≤ z.length ∧ z.length ≤ 1000) ∧ Q (.str (repS z k.toNat)) H
theorem op_mul_str {X : Cx} : OpR X (binaryOp .Mult) rMulS := by
  intro pins s σ H x y v u Q I rx ry h
  obtain ⟨z, k, rfl, rfl, ⟨h1, h2, h3, h4⟩, q⟩ := h
  obtain ⟨t, rfl⟩ := rx
  obtain ⟨t', rfl⟩ := ry
  have hm : z.length * k.toNat ≤ 1000 * 1000 := Nat.mul_le_mul h4 (by omega)
  have hl := repS_len z k.toNat
  refine PySem.P.mul_str ?_ (fun _ _ => ?_) (fun _ _ => ?_) ?_
  · rw [decide_eq_false (by omega), decide_eq_false (by omega)]; rfl
  · have a1 : (1000 : Int) ≤ (2 ^ 63 - 1) / k := by
      rw [Int.le_ediv_iff_mul_le (by omega)]
      omega
    omega
  · unfold Builtin.Str.tooLong
    rw [sizeLine_eq]
    exact decide_eq_false (by omega)
  · rw [if_neg (by omega), if_neg (by
      rw [Bool.or_eq_true, beq_iff_eq, beq_iff_eq]
      omega)]
    refine ⟨?_, .str (repS z k.toNat), H, I.tok _, ⟨_, rfl⟩, q⟩
    show (repS z k.toNat).length ≤ sizeLine
    rw [hl, sizeLine_eq, Nat.mul_comm]
    omega
theorem se_mul (ha : SE X W a ea) (hb : SE X W b eb) : SE X W (.BinOp a .Mult b pos) (eOp oMul ea eb) := by
  refine se_bin (OpR.or op_mul op_mul_str) ?_ ha hb
  intro mg W F H σ x y dx dy Q s rx ry q
  cases rx with
  | int i =>
    cases ry with
    | int j =>
      have q' : Post X.K mg (DR X.K) W F H σ Q (if mulOk i j then .ok (.int (i * j)) else .stuck) := q
      split at q'
      · rename_i h
        refine .inl ⟨i, j, rfl, rfl, ?_, q'.ok s (.int _)⟩
        unfold mulOk at h
        rw [Bool.or_eq_true, decide_eq_true_eq, decide_eq_true_eq] at h
        exact h
      · exact q'.elim
    | _ => exact False.elim q
  | str z =>
    cases ry with
    | int k =>
      have q' : Post X.K mg (DR X.K) W F H σ Q (if 2 ≤ k ∧ k ≤ 1000 ∧ 1 ≤ z.length ∧ z.length ≤ 1000 then .ok (.str (repS z k.toNat)) else .stuck) := q
      split at q'
      · rename_i h
        exact .inr ⟨z, k, rfl, rfl, h, q'.ok s (.str _)⟩
      · exact q'.elim
    | _ => exact False.elim q
  | _ => exact False.elim q
theorem se_div (ha : SE X W a ea) (hb : SE X W b eb) : SE X W (.BinOp a .FloorDiv b pos) (eOp oDiv ea eb) := se_bin op_fdivW (rI_D fun i j => by
    split
    · rename_i h
      exact .inr ⟨wide_div (b := 64) h.1 (by omega) (by decide) (by decide), _, rfl, fun F => .int _⟩
    · exact .inl rfl) ha hb
theorem se_mod (ha : SE X W a ea) (hb : SE X W b eb) : SE X W (.BinOp a .Mod b pos) (eOp oMod ea eb) := se_bin op_mod (rI_D fun i j => by
    split
    · rename_i h
      exact .inr ⟨h, _, rfl, fun F => .int _⟩
    · exact .inl rfl) ha hb
theorem se_shl (ha : SE X W a ea) (hb : SE X W b eb) : SE X W (.BinOp a .LShift b pos) (eOp oShl ea eb) := se_bin op_shl (rI_D fun i j => by
    split
    · rename_i h
      exact .inr ⟨h, _, rfl, fun F => .int _⟩
    · exact .inl rfl) ha hb
theorem se_shr (ha : SE X W a ea) (hb : SE X W b eb) : SE X W (.BinOp a .RShift b pos) (eOp oShr ea eb) := se_bin op_shr (rI_D fun i j => by
    split
    · rename_i h
      exact .inr ⟨h, _, rfl, fun F => .int _⟩
    · exact .inl rfl) ha hb
theorem se_and (ha : SE X W a ea) (hb : SE X W b eb) : SE X W (.BinOp a .BitAnd b pos) (eOp oAnd ea eb) := se_bin op_and (rI0_D fun i j => ⟨_, rfl, fun F => .int _⟩) ha hb
theorem se_or (ha : SE X W a ea) (hb : SE X W b eb) : SE X W (.BinOp a .BitOr b pos) (eOp oOr ea eb) := se_bin op_or (rI0_D fun i j => ⟨_, rfl, fun F => .int _⟩) ha hb
theorem se_xor (ha : SE X W a ea) (hb : SE X W b eb) : SE X W (.BinOp a .BitXor b pos) (eOp oXor ea eb) := se_bin op_xor (rI0_D fun i j => ⟨_, rfl, fun F => .int _⟩) ha hb
structure CmpD (X : Cx) (op : CmpOp) (g : D → D → Out D) : Prop where
  ex : ∃ r, OpR X (compareOp op) r ∧ OpD X.K r g
theorem cd_lt : CmpD X .Lt oLt := ⟨_, op_lt, rI0_D fun i j => ⟨_, rfl, fun F => .bl _⟩⟩
theorem cd_le : CmpD X .LtE oLe := ⟨_, op_le, rI0_D fun i j => ⟨_, rfl, fun F => .bl _⟩⟩
theorem cd_gt : CmpD X .Gt oGt := ⟨_, op_gt, rI0_D fun i j => ⟨_, rfl, fun F => .bl _⟩⟩
theorem cd_ge : CmpD X .GtE oGe := ⟨_, op_ge, rI0_D fun i j => ⟨_, rfl, fun F => .bl _⟩⟩
theorem scal_of {F : Hp} {x y : V} {dx dy : D} (h : scalD dx dy = true) (rx : DR X.K F x dx) (ry : DR X.K F y dy) : scal x y = true ∧ decide (x = y) = eqD dx dy := by
  cases rx <;> cases ry <;> simp [scalD] at h <;> first
    | exact ⟨rfl, decide_eq_false (by intro e; cases e)⟩
    | exact ⟨rfl, rfl⟩
    | exact ⟨rfl, by rw [eqD_int]; exact dec_int⟩
    | exact ⟨rfl, by rw [eqD_bl]; exact dec_bl⟩
    | exact ⟨rfl, by rw [eqD_str]; exact dec_str⟩
    | exact ⟨rfl, (decide_eq_false (by intro e; cases e)).trans (by simp [eqD])⟩
theorem cd_eq {k : Nat} (hr : Room k X.A) : CmpD X .Eq oEq := by
  refine ⟨_, OpR.or op_eq (op_eqD hr.units), ?_⟩
  intro mg W F H σ x y dx dy Q s rx ry q
  unfold oEq eqOk at q
  by_cases h : scalD dx dy = true
  · rw [h, Bool.true_or, if_pos rfl] at q
    obtain ⟨a, b⟩ := scal_of h rx ry
    exact .inl ⟨a, by rw [b]; exact q.ok s (.bl _)⟩
  · rw [eq_false_of_ne_true h, Bool.false_or] at q
    split at q
    · rename_i h2
      rw [Bool.and_eq_true] at h2
      refine .inr ⟨py dx, py dy, rx.dp s 60 h2.1, ry.dp s 60 h2.2, shaped_of h2.1, shaped_of h2.2, ?_⟩
      rw [← eqD_py dx dy 60 60 h2.1 h2.2]
      exact q.ok s (.bl _)
    · exact q.elim
theorem cd_ne {k : Nat} (hr : Room k X.A) : CmpD X .NotEq oNe := by
  refine ⟨_, OpR.or op_ne (op_neD hr.units), ?_⟩
  intro mg W F H σ x y dx dy Q s rx ry q
  unfold oNe eqOk at q
  by_cases h : scalD dx dy = true
  · rw [h, Bool.true_or, if_pos rfl] at q
    obtain ⟨a, b⟩ := scal_of h rx ry
    exact .inl ⟨a, by rw [b]; exact q.ok s (.bl _)⟩
  · rw [eq_false_of_ne_true h, Bool.false_or] at q
    split at q
    · rename_i h2
      rw [Bool.and_eq_true] at h2
      refine .inr ⟨py dx, py dy, rx.dp s 60 h2.1, ry.dp s 60 h2.2, shaped_of h2.1, shaped_of h2.2, ?_⟩
      rw [← eqD_py dx dy 60 60 h2.1 h2.2]
      exact q.ok s (.bl _)
    · exact q.elim
theorem se_cmp {op : CmpOp} {g : D → D → Out D} (h : CmpD X op g) (ha : SE X W a ea) (hb : SE X W b eb) (hm : behindInMarks op b = false := by exact nomark _) : SE X W (.Compare a [op] [b] pos) (eOp g ea eb) := by
  obtain ⟨r, h1, h2⟩ := h.ex
  exact se_cmpG h1 h2 ha hb hm
theorem st_cmp {op : CmpOp} {g : D → D → Out D} (h : CmpD X op g) (ha : SE X W a ea) (hb : SE X W b eb) (hm : behindInMarks op b = false := by exact nomark _) : ST X W (.Compare a [op] [b] pos) (tB1 (eOp g ea eb)) := by
  obtain ⟨r, h1, h2⟩ := h.ex
  exact st_cmpG h1 h2 ha hb hm
def flatD : D → Bool
  | .non => true | .bl _ => true | .int _ => true | .str _ => true
  | _ => false
def inD (x : D) (ds : List D) : Bool := ds.any fun y => eqD y x
def oIn (neg : Bool) : D → D → Out D
  | x, .lst ds => if (flatD x && ds.all flatD) || (okD 60 x && okDs 59 ds) then .ok (.bl (neg != inD x ds)) else .stuck
  | x, .tup ds => if flatD x && ds.all flatD then .ok (.bl (neg != inD x ds)) else .stuck
  | .str x, .cst zs => .ok (.bl (neg != decide (x ∈ zs)))
  | .str x, .str z => match x.cps.toList with
    | [c] => .ok (.bl (neg != decide (c ∈ z.cps.toList)))
    | _ => .stuck
  | _, _ => .stuck
theorem flat_of {F : Hp} {x : V} {d : D} (r : DR X.K F x d) (h : flatD d = true) : flatV x = true := by
  cases r <;> simp [flatD] at h <;> rfl
theorem eqV_of {F : Hp} {x y : V} {dx dy : D} (rx : DR X.K F x dx) (ry : DR X.K F y dy) (h : flatD dx = true) (h' : flatD dy = true) : eqV x y = eqD dx dy := by
  cases rx <;> simp [flatD] at h <;> cases ry <;> simp [flatD] at h' <;> simp [eqV, eqD]
theorem inV_of {F : Hp} {x : V} {dx : D} (rx : DR X.K F x dx) (hx : flatD dx = true) : ∀ {vs : List V} {ds : List D}, DRs X.K F vs ds → ds.all flatD = true → vs.all flatV = true ∧ inV x vs = inD dx ds
  | _, _, .nil, _ => ⟨rfl, rfl⟩
  | _, _, .cons r t, h => by
    rw [List.all_cons, Bool.and_eq_true] at h
    obtain ⟨a, b⟩ := inV_of rx hx t h.2
    refine ⟨by rw [List.all_cons, flat_of r h.1, a]; rfl, ?_⟩
    unfold inV inD at b ⊢
    rw [List.any_cons, List.any_cons, b, eqV_of r rx h.1 hx]
theorem inD_py (x : D) (hx : okD 60 x = true) : ∀ ds : List D, okDs 59 ds = true → ((pys ds).any fun z => PyData.eqv z (py x)) = inD x ds
  | [], _ => by simp [pys, inD]
  | d :: ds, h => by
    simp only [okDs_cons, Bool.and_eq_true] at h
    have ih := inD_py x hx ds h.2
    unfold inD at ih ⊢
    rw [List.any_cons, ← ih, pys, List.any_cons, eqD_py d x 59 60 h.1 hx]
theorem str_one {x : Str} {c : Nat} (h : x.cps.toList = [c]) : x = ⟨#[c]⟩ := by
  obtain ⟨a⟩ := x
  have : a = #[c] := by
    apply Array.toList_inj.mp
    exact h
  rw [this]
theorem inV_cst (x : Str) : ∀ zs : List Str, (zs.map V.str).all flatV = true ∧ inV (.str x) (zs.map V.str) = decide (x ∈ zs)
  | [] => ⟨rfl, rfl⟩
  | z :: zs => by
    obtain ⟨a, b⟩ := inV_cst x zs
    refine ⟨by rw [List.map_cons, List.all_cons, a]; rfl, ?_⟩
    unfold inV at b ⊢
    rw [List.map_cons, List.any_cons, b, Bool.eq_iff_iff, Bool.or_eq_true, decide_eq_true_eq, decide_eq_true_eq, List.mem_cons]
    constructor
    · rintro (h | h)
      · refine .inl ?_
        have h' : (z == x) = true := by simpa [eqV] using h
        exact (beq_iff_eq.mp h').symm
      · exact .inr h
    · rintro (h | h)
      · subst h; exact .inl (by simp [eqV])
      · exact .inr h
theorem cd_in {k : Nat} (hr : Room k X.A) : CmpD X .In (oIn false) := by
  refine ⟨_, OpR.or op_in_seq (OpR.or (op_inD (by have := hr.un; omega)) op_in_sign), ?_⟩
  intro mg W F H σ x y dx dy Q s rx ry q
  cases ry with
  | @lst p vs ds h1 h2 =>
    have q' : Post X.K mg (DR X.K) W F H σ Q (if (flatD dx && ds.all flatD) || (okD 60 dx && okDs 59 ds) then .ok (.bl (false != inD dx ds)) else .stuck) := by cases dx <;> exact q
    by_cases hf : (flatD dx && ds.all flatD) = true
    · rw [hf, Bool.true_or, if_pos rfl] at q'
      rw [Bool.and_eq_true] at hf
      obtain ⟨a, b⟩ := inV_of rx hf.1 h2 hf.2
      exact .inl ⟨p, vs, rfl, .inl (.inl (rd_of s h1)), flat_of rx hf.1, a, by rw [b]; simpa using q'.ok s (.bl _)⟩
    · rw [eq_false_of_ne_true hf, Bool.false_or] at q'
      split at q'
      · rename_i h3
        rw [Bool.and_eq_true] at h3
        have h4 : okD 60 (.lst ds) = true := by simpa using h3.2
        refine .inr (.inl ⟨py dx, pys ds, rx.dp s 60 h3.1, ?_, shaped_of h3.1, ?_, ?_⟩)
        · have := DR.dp (K := X.K) (v := .ref p) s 60 h4 (.lst h1 h2)
          simpa only [py] using this
        · have := shaped_of h4
          simpa only [py] using this
        · rw [inD_py dx h3.1 ds h3.2]
          simpa using q'.ok s (.bl _)
      · exact q'.elim
  | @tup p vs ds h1 h2 =>
    have q' : Post X.K mg (DR X.K) W F H σ Q (if flatD dx && ds.all flatD then .ok (.bl (false != inD dx ds)) else .stuck) := by cases dx <;> exact q
    split at q'
    · rename_i hf
      rw [Bool.and_eq_true] at hf
      obtain ⟨a, b⟩ := inV_of rx hf.1 h2 hf.2
      exact .inl ⟨p, vs, rfl, .inr ((Sub.of_same s).sqP h1), flat_of rx hf.1, a, by rw [b]; simpa using q'.ok s (.bl _)⟩
    · exact q'.elim
  | @cst p zs h1 =>
    cases rx with
    | str x =>
      have q' : Post X.K mg (DR X.K) W F H σ Q (.ok (.bl (false != decide (x ∈ zs)))) := q
      obtain ⟨c1, c2⟩ := inV_cst x zs
      exact .inl ⟨p, _, rfl, .inr ((Sub.of_same s).sqT h1), rfl, c1, by rw [c2]; simpa using q'.ok s (.bl _)⟩
    | _ => exact False.elim q
  | str z =>
    cases rx with
    | str x =>
      have q' : Post X.K mg (DR X.K) W F H σ Q (match x.cps.toList with
        | [c] => .ok (.bl (false != decide (c ∈ z.cps.toList)))
        | _ => .stuck) := q
      split at q'
      · rename_i c hc
        exact .inr (.inr ⟨c, z, by rw [str_one hc], rfl, by simpa using q'.ok s (.bl _)⟩)
      · exact q'.elim
    | _ => exact False.elim q
  | _ => cases rx <;> exact False.elim q
theorem cd_nin {k : Nat} (hr : Room k X.A) : CmpD X .NotIn (oIn true) := by
  refine ⟨_, OpR.or op_notIn_seq (OpR.or (op_notInD (by have := hr.un; omega)) op_notIn_sign), ?_⟩
  intro mg W F H σ x y dx dy Q s rx ry q
  cases ry with
  | @lst p vs ds h1 h2 =>
    have q' : Post X.K mg (DR X.K) W F H σ Q (if (flatD dx && ds.all flatD) || (okD 60 dx && okDs 59 ds) then .ok (.bl (true != inD dx ds)) else .stuck) := by cases dx <;> exact q
    by_cases hf : (flatD dx && ds.all flatD) = true
    · rw [hf, Bool.true_or, if_pos rfl] at q'
      rw [Bool.and_eq_true] at hf
      obtain ⟨a, b⟩ := inV_of rx hf.1 h2 hf.2
      exact .inl ⟨p, vs, rfl, .inl (.inl (rd_of s h1)), flat_of rx hf.1, a, by rw [b]; simpa using q'.ok s (.bl _)⟩
    · rw [eq_false_of_ne_true hf, Bool.false_or] at q'
      split at q'
      · rename_i h3
        rw [Bool.and_eq_true] at h3
        have h4 : okD 60 (.lst ds) = true := by simpa using h3.2
        refine .inr (.inl ⟨py dx, pys ds, rx.dp s 60 h3.1, ?_, shaped_of h3.1, ?_, ?_⟩)
        · have := DR.dp (K := X.K) (v := .ref p) s 60 h4 (.lst h1 h2)
          simpa only [py] using this
        · have := shaped_of h4
          simpa only [py] using this
        · rw [inD_py dx h3.1 ds h3.2]
          simpa using q'.ok s (.bl _)
      · exact q'.elim
  | @tup p vs ds h1 h2 =>
    have q' : Post X.K mg (DR X.K) W F H σ Q (if flatD dx && ds.all flatD then .ok (.bl (true != inD dx ds)) else .stuck) := by cases dx <;> exact q
    split at q'
    · rename_i hf
      rw [Bool.and_eq_true] at hf
      obtain ⟨a, b⟩ := inV_of rx hf.1 h2 hf.2
      exact .inl ⟨p, vs, rfl, .inr ((Sub.of_same s).sqP h1), flat_of rx hf.1, a, by rw [b]; simpa using q'.ok s (.bl _)⟩
    · exact q'.elim
  | @cst p zs h1 =>
    cases rx with
    | str x =>
      have q' : Post X.K mg (DR X.K) W F H σ Q (.ok (.bl (true != decide (x ∈ zs)))) := q
      obtain ⟨c1, c2⟩ := inV_cst x zs
      exact .inl ⟨p, _, rfl, .inr ((Sub.of_same s).sqT h1), rfl, c1, by rw [c2]; simpa using q'.ok s (.bl _)⟩
    | _ => exact False.elim q
  | str z =>
    cases rx with
    | str x =>
      have q' : Post X.K mg (DR X.K) W F H σ Q (match x.cps.toList with
        | [c] => .ok (.bl (true != decide (c ∈ z.cps.toList)))
        | _ => .stuck) := q
      split at q'
      · rename_i c hc
        exact .inr (.inr ⟨c, z, by rw [str_one hc], rfl, by simpa using q'.ok s (.bl _)⟩)
      · exact q'.elim
    | _ => exact False.elim q
  | _ => cases rx <;> exact False.elim q
def oNeg : D → Out D
  | .int i => .ok (.int (-i))
  | _ => .stuck
theorem se_neg (ha : SE X W a ea) : SE X W (.UnaryOp .USub a pos) (eUn oNeg ea) := se_unG un_neg (by
  intro mg W F H σ x dx Q s rx q
  cases rx with
  | int i => exact ⟨i, rfl, q.ok s (.int _)⟩
  | _ => exact False.elim q) ha
end
end CW
namespace CW
open PySem PySem.Spec PyProof.Rows L2
section
variable {α : Type}
def PostO (K : PySem.W.Frag) (mg : Str → Option Value) (W : WX) (F H : Hp) (σ : St) (Q : VK) : Out (List D) → Prop
  | .ok ds => ∀ p vs F' H', Ext F H F' H' → H p = none → F' p = none → H' p = some (.lst vs) → DRs K F' vs ds → Q (.ref p) H'
  | .exc x => ∀ c dd F' H', Ext F H F' H' → ExR mg K F' x c dd → W c dd σ H'
  | .stuck => False
theorem PostO.ext {K : PySem.W.Frag} {mg : Str → Option Value} {W : WX} {F H F1 H1 : Hp} {σ : St} {Q : VK} {o : Out (List D)} (e : Ext F H F1 H1) (h : PostO K mg W F H σ Q o) : PostO K mg W F1 H1 σ Q o := by
  cases o with
  | ok d => exact fun p vs F' H' e' hp => h p vs F' H' (e.trans e') (e.hh.free hp)
  | exc x => exact fun c dd F' H' e' r => h c dd F' H' (e.trans e') r
  | stuck => exact h
theorem PostO.bind {γ δ : Type} {K : PySem.W.Frag} {mg : Str → Option Value} {R' : Hp → δ → γ → Prop} {W : WX} {F H : Hp} {σ : St} {Q : VK} {Q' : δ → Hp → Prop} {o : Out γ} {k : γ → Out (List D)}
    (h : PostO K mg W F H σ Q (o.bind k)) (hk : ∀ d v F1 H1, Ext F H F1 H1 → R' F1 v d → PostO K mg W F1 H1 σ Q (k d) → Q' v H1) : Post K mg R' W F H σ Q' o := by
  cases o with
  | ok d => exact fun v F1 H1 e r => hk d v F1 H1 e r (PostO.ext e h)
  | exc x => exact h
  | stuck => exact h
theorem PostO.lst {K : PySem.W.Frag} {mg : Str → Option Value} {W : WX} {F H : Hp} {σ : St} {Q : VK} {xs : List V} {ds : List D} (h : PostO K mg W F H σ Q (.ok ds)) (s : Same F H) (r : DRs K F xs ds) (p : Addr) (hp : H p = none) : Q (.ref p) (upd H p (.lst xs)) :=
  h p xs F _ (.open s hp) hp (s.free hp) upd_same r
theorem Post.frozen {K : PySem.W.Frag} {mg : Str → Option Value} {W : WX} {F H : Hp} {σ : St} {Q : VK} {o : Out (List D)} (h : Post K mg (DR K) W F H σ Q (o.bind fun ds => .ok (.lst ds))) : PostO K mg W F H σ Q o := by
  cases o with
  | ok ds =>
    intro p vs F' H' e hp hf hl r
    have s2 : Same F' (upd F' p (.lst vs)) := same_new hf
    refine h _ (upd F' p (.lst vs)) H' ⟨e.ff.trans s2, fun b o q => ?_, e.hh, fun a ha => ?_, fun a w xs q => ?_⟩ (.lst (.inl upd_same) (r.mono (Sub.of_same s2)))
    · by_cases hb : b = p
      · subst hb; rw [upd_same] at q; rw [hl]; exact q
      · rw [upd_ne hb] at q; exact e.fh _ _ q
    · by_cases hb : a = p
      · subst hb; exact .inr (nmut hp)
      · rw [upd_ne hb] at ha; exact e.new a ha
    · by_cases hb : a = p
      · subst hb; rw [upd_same] at q; cases q
      · rw [upd_ne hb] at q; exact e.nf _ _ _ q
  | exc x => exact h
  | stuck => exact h
end
def dO (K : PySem.W.Frag) (mg : Str → Option Value) (W : WX) (ev : Env → Out (List D)) : TE := fun σ H Q => ∃ F ρ, RF K F H σ ρ ∧ PostO K mg W F H σ Q (ev ρ)
def SO (X : Cx) (W : WX) (e : Expr) (ev : Env → Out (List D)) : Prop := PE X e (dO X.K X.mg W ev)
def eL (ev : Env → Out (List D)) : Env → Out D := fun ρ => (ev ρ).bind fun ds => .ok (.lst ds)

def noX {α : Type} : Out α → Out α
  | .ok a => .ok a
  | _ => .stuck
@[simp] theorem noX_ok {α : Type} (a : α) : noX (.ok a) = .ok a := (rfl)
@[simp] theorem noX_stuck {α : Type} : noX (.stuck : Out α) = .stuck := (rfl)

section
variable {X : Cx} {W : WX} {a b c e : Expr} {es : List Expr} {ea eb ec : Env → Out D} {pos : Pos}
theorem SO.of {t : TE} {ev : Env → Out (List D)} (h : PE X e t) (hs : ∀ F H σ ρ Q, RF X.K F H σ ρ → PostO X.K X.mg W F H σ Q (ev ρ) → t σ H Q) : SO X W e ev :=
  ⟨fun pins s σ H Q I ⟨F, ρ, h1, h2⟩ => h.run pins s σ H Q I (hs F H σ ρ Q h1 h2)⟩
theorem SE.ofO {ev : Env → Out (List D)} (h : SO X W e ev) : SE X W e (eL ev) :=
  .of h fun F H σ ρ Q h1 h2 => ⟨F, ρ, h1, Post.frozen h2⟩
def aN : Env → Out (List D) := fun _ => .ok []
def aC (a : Env → Out D) (r : Env → Out (List D)) : Env → Out (List D) := fun ρ => (a ρ).bind fun x => (r ρ).bind fun xs => .ok (x :: xs)
theorem sa_nil : SA X W [] aN := .of pa_nil fun F H σ ρ Q h1 h2 => h2.ok h1.1 .nil
theorem sa_cons {er : Env → Out (List D)} (ha : SE X W a ea) (hr : SA X W es er) (hs : starEach (a :: es) X.env = (false, eval a X.env) :: starEach es X.env := by rfl) : SA X W (a :: es) (aC ea er) :=
  .of (pa_cons ha hr hs) fun F H σ ρ Q h1 h2 => by
    refine ⟨F, ρ, h1, Post.bind h2 fun d v F1 H1 e1 r1 q1 => ?_⟩
    refine ⟨F1, ρ, h1.ext e1, Post.bind q1 fun d2 v2 F2 H2 e2 r2 q2 => ?_⟩
    exact q2.ok e2.fh (.cons (r1.mono (Sub.of_same e2.ff)) r2)
def eTup (ea : Env → Out (List D)) : Env → Out D := fun ρ => (ea ρ).bind fun ds => if ds.length ≤ sizeLine then .ok (.tup ds) else .stuck
theorem se_tup {x1} {er : Env → Out (List D)} (h : SA X W es er) : SE X W (.Tuple es x1 pos) (eTup er) :=
  .of (pe_tup h) fun F H σ ρ Q h1 h2 => by
    refine ⟨F, ρ, h1, Post.bind h2 fun d v F1 H1 e1 r1 q1 => ?_⟩
    split at q1
    · rename_i hz
      exact ⟨by rw [r1.length]; exact hz, Post.tup e1.fh q1 r1⟩
    · exact q1.elim
def oLst (ea : Env → Out (List D)) : Env → Out (List D) := fun ρ => (ea ρ).bind fun ds => if ds.length ≤ sizeLine then .ok ds else .stuck
theorem so_lst {er : Env → Out (List D)} (h : SA X W es er) : SO X W (.List es pos) (oLst er) :=
  .of (pe_lst h) fun F H σ ρ Q h1 h2 => by
    refine ⟨F, ρ, h1, PostO.bind h2 fun d v F1 H1 e1 r1 q1 => ?_⟩
    split at q1
    · rename_i hz
      exact ⟨by rw [r1.length]; exact hz, PostO.lst q1 e1.fh r1⟩
    · exact q1.elim
def oIx : D → D → Out D
  | .lst ds, .int i => match atI ds i with
    | some d => .ok d
    | none => .stuck
  | .tup ds, .int i => match atI ds i with
    | some d => .ok d
    | none => .stuck
  | .scr ns, .int i => match atI ns i with
    | some n => .ok (.int n)
    | none => .stuck
  | .str z, .int i => if z.length ≤ sizeLine then match atI z.cps.toList i with
    | some c => .ok (.str ⟨#[c]⟩)
    | none => .stuck else .stuck
  | _, _ => .stuck
theorem atI_DR {K : PySem.W.Frag} {F : Hp} {vs : List V} {ds : List D} {i : Int} {d : D} (h : DRs K F vs ds) (e : atI ds i = some d) : ∃ v, atI vs i = some v ∧ DR K F v d := by
  unfold atI at e ⊢
  rw [h.length]
  cases q : ixN ds.length i with
  | none => rw [q] at e; cases e
  | some j =>
    rw [q] at e
    exact h.get e
theorem se_ix (ha : SE X W a ea) (hb : SE X W b eb) (hs : PlainIx b := by exact fun _ _ => rfl) : SE X W (.Subscript a b pos) (eOp oIx ea eb) := by
  refine .of (pe_ix ix_seq ha hb hs) fun F H σ ρ Q h1 h2 => op_sub2 ?_ h1 h2
  intro mg W F H σ x y dx dy Q s rx ry q
  cases ry with
  | int i =>
    cases rx with
    | @lst p vs ds g1 g2 =>
      have q' : Post X.K mg (DR X.K) W F H σ Q (match atI ds i with | some d => .ok d | none => .stuck) := q
      split at q'
      · rename_i d hd
        obtain ⟨v, hv, r⟩ := atI_DR g2 hd
        exact .inl ⟨p, vs, i, v, rfl, rfl, .inl (rd_of s g1), hv, q'.ok s r⟩
      · exact q'.elim
    | @tup p vs ds g1 g2 =>
      have q' : Post X.K mg (DR X.K) W F H σ Q (match atI ds i with | some d => .ok d | none => .stuck) := q
      split at q'
      · rename_i d hd
        obtain ⟨v, hv, r⟩ := atI_DR g2 hd
        exact .inr (.inl ⟨p, vs, i, v, rfl, rfl, (Sub.of_same s).sqP g1, hv, q'.ok s r⟩)
      · exact q'.elim
    | @scr p ns g1 =>
      have q' : Post X.K mg (DR X.K) W F H σ Q (match atI ns i with | some n => .ok (.int n) | none => .stuck) := q
      split at q'
      · rename_i n hn
        refine .inl ⟨p, _, i, .int n, rfl, rfl, (Sub.of_same s).sqL g1, ?_, q'.ok s (.int n)⟩
        unfold atI at hn ⊢
        rw [List.length_map]
        cases e : ixN ns.length i with
        | none => rw [e] at hn; cases hn
        | some j =>
          rw [e] at hn
          show (ns.map V.int)[j]? = _
          rw [List.getElem?_map, show ns[j]? = some n from hn]; rfl
      · exact q'.elim
    | str z =>
      have q' : Post X.K mg (DR X.K) W F H σ Q (if z.length ≤ sizeLine then match atI z.cps.toList i with | some c => .ok (.str ⟨#[c]⟩) | none => .stuck else .stuck) := q
      split at q'
      · rename_i hz
        split at q'
        · rename_i c hc
          exact .inr (.inr ⟨z, i, c, rfl, rfl, hz, hc, q'.ok s (.str _)⟩)
        · exact q'.elim
      · exact q'.elim
    | _ => exact False.elim q
  | _ => cases rx <;> exact False.elim q
def dP (K : PySem.W.Frag) (mg : Str → Option Value) (W : WX) (ev : Env → Out (Option Int)) : TO := fun σ H Q => ∃ F ρ, RF K F H σ ρ ∧ Post K mg (fun _ b c => b = c) W F H σ Q (ev ρ)
def SP' (X : Cx) (W : WX) (e : Option Expr) (ev : Env → Out (Option Int)) : Prop := PO X e (dP X.K X.mg W ev)
def pN : Env → Out (Option Int) := fun _ => .ok none
def pS (a : Env → Out D) : Env → Out (Option Int) := fun ρ => (a ρ).bind fun d => match d with
  | .int i => .ok (some i)
  | _ => .stuck
theorem SP'.of {o : Option Expr} {t : TO} {ev : Env → Out (Option Int)} (h : PO X o t) (hs : ∀ F H σ ρ Q, RF X.K F H σ ρ → Post X.K X.mg (fun _ b c => b = c) W F H σ Q (ev ρ) → t σ H Q) : SP' X W o ev :=
  ⟨fun pins s σ H Q I ⟨F, ρ, h1, h2⟩ => h.run pins s σ H Q I (hs F H σ ρ Q h1 h2)⟩
theorem sp_none : SP' X W none pN := .of po_none fun F H σ ρ Q h1 h2 => h2.ok h1.1 rfl
theorem sp_some (ha : SE X W a ea) : SP' X W (some a) (pS ea) := .of (po_some ha) fun F H σ ρ Q h1 h2 => by
  refine ⟨F, ρ, h1, Post.bind h2 fun d v F1 H1 e1 r1 q1 => ?_⟩
  cases r1 with
  | int i => exact ⟨i, rfl, q1.ok e1.fh rfl⟩
  | _ => exact False.elim q1
def cutL {α : Type} (xs : List α) (lo hi : Option Int) : List α := (xs.drop (HT.sIx xs.length 0 lo)).take (HT.sIx xs.length xs.length hi - HT.sIx xs.length 0 lo)
theorem cutL_V (xs : List V) (lo hi : Option Int) : cutV xs lo hi = cutL xs lo hi := rfl
theorem DRs.cut {K : PySem.W.Frag} {F : Hp} {vs : List V} {ds : List D} (h : DRs K F vs ds) (lo hi : Option Int) : DRs K F (cutV vs lo hi) (cutL ds lo hi) := by
  unfold cutV cutL
  rw [h.length]
  exact (h.drop _).take _
def oSl (lo hi : Option Int) : D → Out D
  | .lst ds => .ok (.lst (cutL ds lo hi))
  | .scr ns => .ok (.lst ((cutL ns lo hi).map D.int))
  | .tup ds => .ok (.tup (cutL ds lo hi))
  | .str z => if z.length ≤ sizeLine then .ok (.str (cutS z lo hi)) else .stuck
  | _ => .stuck
def eSl (a : Env → Out D) (lo hi : Env → Out (Option Int)) : Env → Out D := fun ρ => (a ρ).bind fun x => (lo ρ).bind fun l => (hi ρ).bind fun h => oSl l h x
theorem cut_all {α : Type} {xs : List α} {lo hi : Option Int} (h : HT.sIx xs.length 0 lo = 0 ∧ HT.sIx xs.length xs.length hi = xs.length) : cutL xs lo hi = xs := by
  unfold cutL
  rw [h.1, h.2]
  simp
theorem cutL_map {α β : Type} (f : α → β) (xs : List α) (lo hi : Option Int) : cutL (xs.map f) lo hi = (cutL xs lo hi).map f := by
  unfold cutL
  rw [List.length_map, List.map_take, List.map_drop]
theorem se_sl {lo hi : Option Expr} {el eh : Env → Out (Option Int)} {p2 : Pos} (ha : SE X W a ea) (hl : SP' X W lo el) (hh : SP' X W hi eh) : SE X W (.Subscript a (.Slice lo hi none p2) pos) (eSl ea el eh) := by
  refine .of (pe_slice (SlR.or sl_list (SlR.or sl_tupA sl_str)) ha hl hh) fun F H σ ρ Q h1 h2 => ?_
  refine ⟨F, ρ, h1, Post.bind h2 fun d v F1 H1 e1 r1 q1 => ?_⟩
  refine ⟨F1, ρ, h1.ext e1, Post.bind q1 fun l l' F2 H2 e2 r2 q2 => ?_⟩
  cases r2
  refine ⟨F2, ρ, (h1.ext e1).ext e2, Post.bind q2 fun u u' F3 H3 e3 r3 q3 => ?_⟩
  cases r3
  have r := r1.mono (Sub.of_same (e2.ff.trans e3.ff))
  have s := e3.fh
  cases r with
  | @lst p vs ds g1 g2 => exact .inl ⟨p, vs, rfl, .inl (rd_of s g1), Post.lst s q3 (g2.cut _ _)⟩
  | @scr p ns g1 => exact .inl ⟨p, _, rfl, (Sub.of_same s).sqL g1, by rw [cutL_V, cutL_map]; exact Post.lst s q3 (DRs.ints _)⟩
  | @tup p vs ds g1 g2 =>
    refine .inr (.inl ⟨p, vs, rfl, (Sub.of_same s).sqP g1, fun hw => ?_, fun _ => Post.tup s q3 (g2.cut _ _)⟩)
    rw [g2.length] at hw
    have q3' : Post X.K X.mg (DR X.K) W F3 H3 σ Q (.ok (.tup (cutL ds l u))) := q3
    rw [cut_all hw] at q3'
    exact q3'.ok s (.tup g1 g2)
  | str z =>
    have q3' : Post X.K X.mg (DR X.K) W F3 H3 σ Q (if z.length ≤ sizeLine then .ok (.str (cutS z l u)) else .stuck) := q3
    split at q3'
    · rename_i hz
      exact .inr (.inr ⟨z, rfl, hz, q3'.ok s (.str _)⟩)
    · exact q3'.elim
  | _ => exact False.elim q3
def CallD (K : PySem.W.Frag) (r : List V → Hp → VK → Prop) (g : List D → Out D) : Prop := ∀ (mg : Str → Option Value) (W : WX) (F H : Hp) (σ : St) (xs : List V) (ds : List D) (Q : VK), Same F H → DRs K F xs ds → Post K mg (DR K) W F H σ Q (g ds) → r xs H Q
def CallO (K : PySem.W.Frag) (r : List V → Hp → VK → Prop) (g : List D → Out (List D)) : Prop := ∀ (mg : Str → Option Value) (W : WX) (F H : Hp) (σ : St) (xs : List V) (ds : List D) (Q : VK), Same F H → DRs K F xs ds → PostO K mg W F H σ Q (g ds) → r xs H Q
def eB (g : List D → Out D) (ea : Env → Out (List D)) : Env → Out D := fun ρ => (ea ρ).bind g
def oB (g : List D → Out (List D)) (ea : Env → Out (List D)) : Env → Out (List D) := fun ρ => (ea ρ).bind g
structure BltD (X : Cx) (x : Str) (g : List D → Out D) : Prop where
  ex : ∃ r, CallD X.K r g ∧ ((∃ id, CallR X (.builtin id) r ∧ bootBuiltins x = some (.builtin id)) ∨ ∃ T, CallR X (.type T) r ∧ bootBuiltins x = some (.type T))
structure BltO (X : Cx) (x : Str) (g : List D → Out (List D)) : Prop where
  ex : ∃ r, CallO X.K r g ∧ ((∃ id, CallR X (.builtin id) r ∧ bootBuiltins x = some (.builtin id)) ∨ ∃ T, CallR X (.type T) r ∧ bootBuiltins x = some (.type T))
variable {x : Str} {p : Pos}
theorem se_blt {g : List D → Out D} {er : Env → Out (List D)} (h : BltD X x g) (hm : X.mg x = none) (ha : SA X W (e :: es) er) (hg : Gl X x := by rfl) (hn : x ≠ "__name__" := by decide) (hdb : (x == ("__debug__" : Str)) = false := by decide)
    (he : starEach (e :: es) X.env = (false, eval e X.env) :: starEach es X.env := by rfl) (hpl : (backTo pos (starEach es X.env)).any (·.1) = false := by rfl) : SE X W (.Call (.Name x p) (e :: es) [] pos) (eB g er) := by
  obtain ⟨r, h1, h2⟩ := h.ex
  have key : ∀ F H σ ρ Q, RF X.K F H σ ρ → Post X.K X.mg (DR X.K) W F H σ Q (eB g er ρ) → tCB r (dA X.K X.mg W er) σ H Q := fun F H σ ρ Q g1 g2 => by
    refine ⟨F, ρ, g1, Post.bind g2 fun d v F1 H1 e1 r1 q1 => h1 _ W F1 H1 σ v d Q e1.fh r1 q1⟩
  rcases h2 with ⟨id, hc, hv⟩ | ⟨T, hc, hv⟩
  · exact .of (pe_callB hc hg hm hv ha hn hdb he hpl) key
  · exact .of (pe_callTy hc hg hm hv ha hn hdb he hpl) key
theorem so_blt {g : List D → Out (List D)} {er : Env → Out (List D)} (h : BltO X x g) (hm : X.mg x = none) (ha : SA X W (e :: es) er) (hg : Gl X x := by rfl) (hn : x ≠ "__name__" := by decide) (hdb : (x == ("__debug__" : Str)) = false := by decide)
    (he : starEach (e :: es) X.env = (false, eval e X.env) :: starEach es X.env := by rfl) (hpl : (backTo pos (starEach es X.env)).any (·.1) = false := by rfl) : SO X W (.Call (.Name x p) (e :: es) [] pos) (oB g er) := by
  obtain ⟨r, h1, h2⟩ := h.ex
  have key : ∀ F H σ ρ Q, RF X.K F H σ ρ → PostO X.K X.mg W F H σ Q (oB g er ρ) → tCB r (dA X.K X.mg W er) σ H Q := fun F H σ ρ Q g1 g2 => by
    refine ⟨F, ρ, g1, PostO.bind g2 fun d v F1 H1 e1 r1 q1 => h1 _ W F1 H1 σ v d Q e1.fh r1 q1⟩
  rcases h2 with ⟨id, hc, hv⟩ | ⟨T, hc, hv⟩
  · exact .of (pe_callB hc hg hm hv ha hn hdb he hpl) key
  · exact .of (pe_callTy hc hg hm hv ha hn hdb he hpl) key
def bLen : List D → Out D
  | [.lst ds] => .ok (.int ds.length)
  | [.tup ds] => .ok (.int ds.length)
  | [.scr ns] => .ok (.int ns.length)
  | [.str z] => if z.length ≤ sizeLine then .ok (.int z.length) else .stuck
  | _ => .stuck
theorem one_of {K : PySem.W.Frag} {F : Hp} {xs : List V} {d : D} (h : DRs K F xs [d]) : ∃ v, xs = [v] ∧ DR K F v d := by
  cases h with
  | cons h1 h2 => cases h2; exact ⟨_, rfl, h1⟩
theorem two_of {K : PySem.W.Frag} {F : Hp} {xs : List V} {d e : D} (h : DRs K F xs [d, e]) : ∃ v w, xs = [v, w] ∧ DR K F v d ∧ DR K F w e := by
  cases h with
  | cons h1 h2 =>
    obtain ⟨w, rfl, h3⟩ := one_of h2
    exact ⟨_, _, rfl, h1, h3⟩
theorem bd_len : BltD X "len" bLen := by
  refine ⟨_, ?_, .inl ⟨"len", call_len, PySem.boot_len⟩⟩
  intro mg W F H σ xs ds Q s r q
  unfold bLen at q
  split at q
  · obtain ⟨v, rfl, r1⟩ := one_of r
    cases r1 with
    | @lst p vs ds g1 g2 => exact ⟨_, _, rfl, .inl ⟨vs, .inl (rd_of s g1), rfl⟩, by rw [g2.length]; exact q.ok s (.int _)⟩
  · obtain ⟨v, rfl, r1⟩ := one_of r
    cases r1 with
    | @tup p vs ds g1 g2 => exact ⟨_, _, rfl, .inr ⟨vs, (Sub.of_same s).sqP g1, rfl⟩, by rw [g2.length]; exact q.ok s (.int _)⟩
  · obtain ⟨v, rfl, r1⟩ := one_of r
    cases r1 with
    | @scr p ns g1 => exact ⟨_, _, rfl, .inl ⟨_, (Sub.of_same s).sqL g1, rfl⟩, by rw [List.length_map]; exact q.ok s (.int _)⟩
  · obtain ⟨v, rfl, r1⟩ := one_of r
    cases r1 with
    | str z =>
      split at q
      · rename_i hz
        exact ⟨_, _, rfl, ⟨hz, rfl⟩, q.ok s (.int _)⟩
      · exact q.elim
  · exact q.elim
def bList : List D → Out (List D)
  | [.lst ds] => .ok ds
  | [.tup ds] => .ok ds
  | [.scr ns] => .ok (ns.map D.int)
  | _ => .stuck
def bTuple : List D → Out D
  | [.lst ds] => .ok (.tup ds)
  | [.tup ds] => .ok (.tup ds)
  | [.scr ns] => .ok (.tup (ns.map D.int))
  | _ => .stuck
theorem bd_tuple : BltD X "tuple" bTuple := by
  refine ⟨_, ?_, .inr ⟨"tuple", call_tuple_of, by decide +kernel⟩⟩
  intro mg W F H σ xs ds Q s r q
  unfold bTuple at q
  split at q
  · obtain ⟨v, rfl, r1⟩ := one_of r
    cases r1 with
    | @lst p vs ds g1 g2 => exact ⟨p, vs, rfl, .inl ⟨.inl (rd_of s g1), Post.tup s q g2⟩⟩
  · obtain ⟨v, rfl, r1⟩ := one_of r
    cases r1 with
    | @tup p vs ds g1 g2 => exact ⟨p, vs, rfl, .inr ⟨(Sub.of_same s).sqP g1, q.ok s (.tup g1 g2)⟩⟩
  · obtain ⟨v, rfl, r1⟩ := one_of r
    cases r1 with
    | @scr p ns g1 => exact ⟨p, _, rfl, .inl ⟨(Sub.of_same s).sqL g1, Post.tup s q (DRs.ints _)⟩⟩
  · exact q.elim
def intsOf : List D → Option (List Int)
  | [] => some []
  | .int i :: r => (intsOf r).map (i :: ·)
  | _ => none
def blsOf : List D → Option (List Bool)
  | [] => some []
  | .bl i :: r => (blsOf r).map (i :: ·)
  | _ => none
@[simp] theorem intsOf_map (ns : List Int) : intsOf (ns.map D.int) = some ns := by
  induction ns with
  | nil => rfl
  | cons n ns ih => simp [intsOf, ih]
@[simp] theorem blsOf_map (ns : List Bool) : blsOf (ns.map D.bl) = some ns := by
  induction ns with
  | nil => rfl
  | cons n ns ih => simp [blsOf, ih]
@[simp] theorem intsOf_map' {α : Type} (f : α → Int) (xs : List α) : intsOf (xs.map fun x => D.int (f x)) = some (xs.map f) := by
  have := intsOf_map (xs.map f)
  rwa [List.map_map] at this
@[simp] theorem blsOf_map' {α : Type} (f : α → Bool) (xs : List α) : blsOf (xs.map fun x => D.bl (f x)) = some (xs.map f) := by
  have := blsOf_map (xs.map f)
  rwa [List.map_map] at this
theorem intsOf_eq : ∀ {ds : List D} {ns : List Int}, intsOf ds = some ns → ds = ns.map D.int
  | [], ns, h => by cases h; rfl
  | d :: ds, ns, h => by
    cases d with
    | int i =>
      cases e : intsOf ds with
      | none => simp [intsOf, e] at h
      | some ms =>
        simp [intsOf, e] at h
        rw [← h, intsOf_eq e]; rfl
    | _ => cases h
theorem DRs.ints_inv {K : PySem.W.Frag} {F : Hp} : ∀ {vs : List V} {ns : List Int}, DRs K F vs (ns.map D.int) → vs = ns.map V.int
  | _, [], h => by cases h; rfl
  | _, n :: ns, h => by
    cases h with
    | cons h1 h2 => cases h1; rw [DRs.ints_inv h2]; rfl
theorem intsOf_DR {K : PySem.W.Frag} {F : Hp} {vs : List V} {ds : List D} {ns : List Int} (h : DRs K F vs ds) (e : intsOf ds = some ns) : vs = ns.map V.int ∧ ds = ns.map D.int := by
  have := intsOf_eq e
  subst this
  exact ⟨h.ints_inv, rfl⟩
def bSum : List D → Out D
  | [.lst ds] => match intsOf ds with
    | some ns => .ok (.int ns.sum)
    | none => .stuck
  | _ => .stuck
theorem bd_sum (hc : X.calm = true) : BltD X "sum" bSum := by
  refine ⟨_, ?_, .inl ⟨"sum", cr_sum hc, by decide +kernel⟩⟩
  intro mg W F H σ xs ds Q s r q
  unfold bSum at q
  split at q
  · obtain ⟨v, rfl, r1⟩ := one_of r
    cases r1 with
    | @lst p vs ds g1 g2 =>
      split at q
      · rename_i ns hns
        obtain ⟨rfl, rfl⟩ := intsOf_DR g2 hns
        exact ⟨p, ns, rfl, .inl (rd_of s g1), q.ok s (.int _)⟩
      · exact q.elim
  · exact q.elim
def bMax2 : List D → Out D
  | [.int i, .int j] => .ok (.int (if j > i then j else i))
  | _ => .stuck
theorem bd_max2 (hc : X.calm = true) : BltD X "max" bMax2 := by
  refine ⟨_, ?_, .inl ⟨"max", call_max2 hc, by decide +kernel⟩⟩
  intro mg W F H σ xs ds Q s r q
  unfold bMax2 at q
  split at q
  · obtain ⟨v, w, rfl, r1, r2⟩ := two_of r
    cases r1
    cases r2
    exact ⟨_, _, rfl, q.ok s (.int _)⟩
  · exact q.elim
def bMin2 : List D → Out D
  | [.int i, .int j] => .ok (.int (if j < i then j else i))
  | _ => .stuck
theorem bd_min2 (hc : X.calm = true) : BltD X "min" bMin2 := by
  refine ⟨_, ?_, .inl ⟨"min", call_min2 hc, by decide +kernel⟩⟩
  intro mg W F H σ xs ds Q s r q
  unfold bMin2 at q
  split at q
  · obtain ⟨v, w, rfl, r1, r2⟩ := two_of r
    cases r1
    cases r2
    exact ⟨_, _, rfl, q.ok s (.int _)⟩
  · exact q.elim
def bInt : List D → Out D
  | [.int i] => .ok (.int i)
  | [.bl b] => .ok (.int (if b then 1 else 0))
  | _ => .stuck
theorem bd_int : BltD X "int" bInt := by
  refine ⟨_, ?_, .inr ⟨"int", call_int1, by decide +kernel⟩⟩
  intro mg W F H σ xs ds Q s r q
  unfold bInt at q
  split at q
  · obtain ⟨v, rfl, r1⟩ := one_of r
    cases r1
    exact .inl ⟨_, rfl, q.ok s (.int _)⟩
  · obtain ⟨v, rfl, r1⟩ := one_of r
    cases r1
    exact .inr ⟨_, rfl, q.ok s (.int _)⟩
  · exact q.elim
def insI (x : Int) : List Int → List Int
  | [] => [x]
  | y :: ys => if x ≤ y then x :: y :: ys else y :: insI x ys
def sortI : List Int → List Int
  | [] => []
  | x :: xs => insI x (sortI xs)
theorem insI_perm (x : Int) : ∀ ys, (insI x ys).Perm (x :: ys)
  | [] => .refl _
  | y :: ys => by
    unfold insI
    split
    · exact .refl _
    · exact ((insI_perm x ys).cons y).trans (.swap x y ys)
theorem sortI_perm : ∀ xs, (sortI xs).Perm xs
  | [] => .refl _
  | x :: xs => (insI_perm x _).trans ((sortI_perm xs).cons x)
theorem insI_sorted (x : Int) : ∀ {ys}, List.Pairwise (· ≤ ·) ys → List.Pairwise (· ≤ ·) (insI x ys)
  | [], _ => by simp [insI]
  | y :: ys, h => by
    unfold insI
    split
    · rename_i hx
      refine .cons (fun z hz => ?_) h
      rcases List.mem_cons.mp hz with rfl | hz
      · exact hx
      · exact Int.le_trans hx ((List.pairwise_cons.mp h).1 z hz)
    · rename_i hx
      refine .cons (fun z hz => ?_) (insI_sorted x (List.pairwise_cons.mp h).2)
      rcases List.mem_cons.mp ((insI_perm x ys).mem_iff.mp hz) with rfl | hz
      · omega
      · exact (List.pairwise_cons.mp h).1 z hz
theorem sortI_sorted : ∀ xs, List.Pairwise (· ≤ ·) (sortI xs)
  | [] => .nil
  | x :: xs => insI_sorted x (sortI_sorted xs)
theorem sort_uniq : ∀ {xs ys : List Int}, xs.Perm ys → List.Pairwise (· ≤ ·) xs → List.Pairwise (· ≤ ·) ys → xs = ys
  | [], ys, h, _, _ => (List.nil_perm.mp h).symm
  | x :: xs, [], h, _, _ => absurd h.length_eq (by simp)
  | x :: xs, y :: ys, h, hx, hy => by
    have hx' := List.pairwise_cons.mp hx
    have hy' := List.pairwise_cons.mp hy
    have e : x = y := by
      have a : x ∈ y :: ys := h.mem_iff.mp List.mem_cons_self
      have b : y ∈ x :: xs := h.mem_iff.mpr List.mem_cons_self
      rcases List.mem_cons.mp a with a | a
      · exact a
      · rcases List.mem_cons.mp b with b | b
        · exact b.symm
        · exact Int.le_antisymm (hx'.1 y b) (hy'.1 x a)
    subst e
    rw [sort_uniq (List.perm_cons x |>.mp h) hx'.2 hy'.2]
def bSortI : List D → Out (List D)
  | [.lst ds] => match intsOf ds with
    | some ns => .ok ((sortI ns).map D.int)
    | none => .stuck
  | _ => .stuck
theorem bo_sortI : BltO X "sorted" bSortI := by
  refine ⟨_, ?_, .inl ⟨"sorted", cr_sortedI, by decide +kernel⟩⟩
  intro mg W F H σ xs ds Q s r q
  unfold bSortI at q
  split at q
  · obtain ⟨v, rfl, r1⟩ := one_of r
    cases r1 with
    | @lst p vs ds g1 g2 =>
      split at q
      · rename_i ns hns
        obtain ⟨rfl, rfl⟩ := intsOf_DR g2 hns
        refine ⟨p, ns, rfl, .inl (rd_of s g1), fun ns' p' hp hs hn => ?_⟩
        rw [sort_uniq (hp.trans (sortI_perm ns).symm) hs (sortI_sorted ns)]
        exact PostO.lst q s (DRs.ints _) p' hn
      · exact q.elim
  · exact q.elim
def spF (mg : Str → Option Value) (K : PySem.W.Frag) (fn : List D → Out D) : Sp := fun vs H Q E => ∃ F ds, Same F H ∧ DRs K F vs ds ∧ Post K mg (DR K) (fun c d _ H => E c d H) F H [] Q (fn ds)
def spO (mg : Str → Option Value) (K : PySem.W.Frag) (fn : List D → Out (List D)) : Sp := fun vs H Q E => ∃ F ds, Same F H ∧ DRs K F vs ds ∧ PostO K mg (fun c d _ H => E c d H) F H [] Q (fn ds)
structure FnD (P : Program) (w : World) (K : PySem.W.Frag) (mg : Str → Option Value) (base : Heap) (k : Nat) (x : Str) (fn : List D → Out D) : Prop where
  ex : ∃ f fd ps, FnOk P w K mg base CX0 k f fd ps (spF mg K fn) ∧ mg x = some (.ref f) ∧ PySem.W.keepIn K (.ref f) = true ∧ Binds K fd ps []
structure FnL (P : Program) (w : World) (K : PySem.W.Frag) (mg : Str → Option Value) (base : Heap) (k : Nat) (x : Str) (fn : List D → Out (List D)) : Prop where
  ex : ∃ f fd ps, FnOk P w K mg base CX0 k f fd ps (spO mg K fn) ∧ mg x = some (.ref f) ∧ PySem.W.keepIn K (.ref f) = true ∧ Binds K fd ps []
def eCall (fn : List D → Out D) (ea : Env → Out (List D)) : Env → Out D := fun ρ => (ea ρ).bind fun ds => noX (fn ds)
def oCall (fn : List D → Out (List D)) (ea : Env → Out (List D)) : Env → Out (List D) := fun ρ => (ea ρ).bind fun ds => noX (fn ds)
theorem Post.noX {α β : Type} {K : PySem.W.Frag} {mg : Str → Option Value} {R : Hp → β → α → Prop} {W W' : WX} {F H : Hp} {σ σ' : St} {Q : β → Hp → Prop} {o : Out α} (h : Post K mg R W F H σ Q (noX o)) : Post K mg R W' F H σ' Q o := by
  cases o with
  | ok d => exact h
  | exc x => exact h.elim
  | stuck => exact h
theorem PostO.noX {K : PySem.W.Frag} {mg : Str → Option Value} {W W' : WX} {F H : Hp} {σ σ' : St} {Q : VK} {o : Out (List D)} (h : PostO K mg W F H σ Q (noX o)) : PostO K mg W' F H σ' Q o := by
  cases o with
  | ok d => exact h
  | exc x => exact h.elim
  | stuck => exact h
theorem se_call {k : Nat} {fn : List D → Out D} {er : Env → Out (List D)} (G : FnD X.prog X.w X.K X.mg X.base k x fn) (hr : Room k X.A) (ha : SA X W (e :: es) er) (hg : Gl X x := by rfl) (hdb : (x == ("__debug__" : Str)) = false := by decide)
    (he : starEach (e :: es) X.env = (false, eval e X.env) :: starEach es X.env := by rfl) (hpl : (backTo pos (starEach es X.env)).any (·.1) = false := by rfl) : SE X W (.Call (.Name x p) (e :: es) [] pos) (eCall fn er) := by
  obtain ⟨f, fd, ps, F, hm, hk, hb⟩ := G.ex
  refine .of (pe_call F hr hg hm hk hb .nil pass0 ha hdb he hpl) fun F H σ ρ Q h1 h2 => ?_
  refine ⟨F, ρ, h1, Post.bind h2 fun d v F1 H1 e1 r1 q1 => ?_⟩
  rw [List.append_nil]
  exact ⟨F1, d, e1.fh, r1, q1.noX⟩
theorem so_call {k : Nat} {fn : List D → Out (List D)} {er : Env → Out (List D)} (G : FnL X.prog X.w X.K X.mg X.base k x fn) (hr : Room k X.A) (ha : SA X W (e :: es) er) (hg : Gl X x := by rfl) (hdb : (x == ("__debug__" : Str)) = false := by decide)
    (he : starEach (e :: es) X.env = (false, eval e X.env) :: starEach es X.env := by rfl) (hpl : (backTo pos (starEach es X.env)).any (·.1) = false := by rfl) : SO X W (.Call (.Name x p) (e :: es) [] pos) (oCall fn er) := by
  obtain ⟨f, fd, ps, F, hm, hk, hb⟩ := G.ex
  refine .of (pe_call F hr hg hm hk hb .nil pass0 ha hdb he hpl) fun F H σ ρ Q h1 h2 => ?_
  refine ⟨F, ρ, h1, PostO.bind h2 fun d v F1 H1 e1 r1 q1 => ?_⟩
  rw [List.append_nil]
  exact ⟨F1, d, e1.fh, r1, q1.noX⟩
theorem st_not {t : Env → Out Bool} (ha : ST X W a t) : ST X W (.UnaryOp .Not a pos) (fun ρ => (t ρ).bind fun b => .ok (!b)) :=
  .of (pt_not ha) fun F H σ ρ Q h1 h2 => ⟨F, ρ, h1, Post.bind h2 fun d v F1 H1 e1 r1 q1 => by cases r1; exact q1.ok e1.fh rfl⟩
def tAnd' (t u : Env → Out Bool) : Env → Out Bool := fun ρ => (t ρ).bind fun b => if b then u ρ else .ok false
def tOr' (t u : Env → Out Bool) : Env → Out Bool := fun ρ => (t ρ).bind fun b => if b then .ok true else u ρ
def tNot' (t : Env → Out Bool) : Env → Out Bool := fun ρ => (t ρ).bind fun b => .ok (!b)
theorem st_not' {t : Env → Out Bool} (ha : ST X W a t) : ST X W (.UnaryOp .Not a pos) (tNot' t) := st_not ha
variable {t u : Env → Out Bool} {rest : List Expr}
theorem sw_and1 (ha : ST X W a t) : SW X W (.BoolOp .And [a] pos) t := ⟨(pw_and1 ha).run⟩
theorem sw_or1 (ha : ST X W a t) : SW X W (.BoolOp .Or [a] pos) t := ⟨(pw_or1 ha).run⟩
theorem sw_and (ha : ST X W a t) (hb : SW X W (.BoolOp .And (b :: rest) pos) u) : SW X W (.BoolOp .And (a :: b :: rest) pos) (tAnd' t u) :=
  .of (pw_and ha hb) fun F H σ ρ Q h1 h2 => ⟨F, ρ, h1, Post.bind h2 fun d v F1 H1 e1 r1 q1 => by
    cases r1
    cases d with
    | true => exact iteT ⟨F1, ρ, h1.ext e1, q1⟩
    | false => exact iteF (q1.ok e1.fh rfl)⟩
theorem sw_or (ha : ST X W a t) (hb : SW X W (.BoolOp .Or (b :: rest) pos) u) : SW X W (.BoolOp .Or (a :: b :: rest) pos) (tOr' t u) :=
  .of (pw_or ha hb) fun F H σ ρ Q h1 h2 => ⟨F, ρ, h1, Post.bind h2 fun d v F1 H1 e1 r1 q1 => by
    cases r1
    cases d with
    | false => exact iteF ⟨F1, ρ, h1.ext e1, q1⟩
    | true => exact iteT (q1.ok e1.fh rfl)⟩
theorem SW.st {t : Env → Out Bool} (h : SW X W a t) : ST X W a t := ⟨h.run _⟩
def truD : D → Out Bool
  | .non => .ok false
  | .bl b => .ok b
  | .int i => .ok (i != 0)
  | .str z => if z.length ≤ sizeLine then .ok ((z.length : Int) != 0) else .stuck
  | .lst ds => .ok (!ds.isEmpty)
  | .tup ds => .ok (!ds.isEmpty)
  | .scr ds => .ok (!ds.isEmpty)
  | _ => .stuck
def tTru (a : Env → Out D) : Env → Out Bool := fun ρ => (a ρ).bind truD
theorem isEmpty_DR {K : PySem.W.Frag} {F : Hp} {vs : List V} {ds : List D} (h : DRs K F vs ds) : vs.isEmpty = ds.isEmpty := by
  cases h <;> rfl
theorem st_tru (ha : SE X W a ea) (he : ∀ whole, isTrue a X.env whole = (do let v ← whole; standAt a.pos; holding [v] (truthy v)) := by intro _; rfl) : ST X W a (tTru ea) := by
  refine .of (pt_truth ha he) fun F H σ ρ Q h1 h2 => ⟨F, ρ, h1, Post.bind h2 fun d v F1 H1 e1 r1 q1 => ?_⟩
  have s := e1.fh
  cases r1 with
  | non => exact ⟨false, rfl, q1.ok s rfl⟩
  | bl b => exact ⟨b, rfl, q1.ok s rfl⟩
  | int b => exact ⟨_, rfl, q1.ok s rfl⟩
  | str z =>
    have q' : Post X.K X.mg (fun _ b c => b = c) W F1 H1 σ Q (if z.length ≤ sizeLine then .ok ((z.length : Int) != 0) else .stuck) := q1
    split at q'
    · rename_i hz
      exact ⟨_, ⟨hz, rfl⟩, q'.ok s rfl⟩
    · exact q'.elim
  | @lst p vs ds g1 g2 => exact ⟨_, .inl ⟨vs, .inl (rd_of s g1), rfl⟩, q1.ok s (by rw [isEmpty_DR g2])⟩
  | @tup p vs ds g1 g2 => exact ⟨_, .inr (.inl ⟨vs, (Sub.of_same s).sqP g1, rfl⟩), q1.ok s (by rw [isEmpty_DR g2])⟩
  | @scr p ns g1 => exact ⟨_, .inl ⟨_, (Sub.of_same s).sqL g1, rfl⟩, q1.ok s (by cases ns <;> rfl)⟩
  | dK _ _ => exact False.elim q1
  | dT _ _ => exact False.elim q1
  | exn _ _ _ _ => exact False.elim q1
  | cst _ => exact False.elim q1
  | obj _ _ _ => exact False.elim q1
def eAnd (a b : Env → Out D) : Env → Out D := fun ρ => (a ρ).bind fun d => match d with
  | .bl true => b ρ
  | .bl false => .ok (.bl false)
  | _ => .stuck
def eOr (a b : Env → Out D) : Env → Out D := fun ρ => (a ρ).bind fun d => match d with
  | .bl false => b ρ
  | .bl true => .ok (.bl true)
  | _ => .stuck
def eNot (a : Env → Out D) : Env → Out D := fun ρ => (a ρ).bind fun d => match d with
  | .bl c => .ok (.bl (!c))
  | _ => .stuck
def eIf (t : Env → Out Bool) (a b : Env → Out D) : Env → Out D := fun ρ => (t ρ).bind fun c => if c then a ρ else b ρ
theorem se_one {op} (ha : SE X W a ea) : SE X W (.BoolOp op [a] pos) ea := pe_one ha
theorem se_and2 (ha : SE X W a ea) (hb : SE X W (.BoolOp .And (b :: rest) pos) eb) : SE X W (.BoolOp .And (a :: b :: rest) pos) (eAnd ea eb) :=
  .of (pe_and ha hb) fun F H σ ρ Q h1 h2 => ⟨F, ρ, h1, Post.bind h2 fun d v F1 H1 e1 r1 q1 => by
    cases r1 with
    | bl c =>
      refine ⟨c, rfl, ?_⟩
      cases c with
      | true => exact iteT ⟨F1, ρ, h1.ext e1, q1⟩
      | false => exact iteF (q1.ok e1.fh (.bl _))
    | _ => exact False.elim q1⟩
theorem se_or2 (ha : SE X W a ea) (hb : SE X W (.BoolOp .Or (b :: rest) pos) eb) : SE X W (.BoolOp .Or (a :: b :: rest) pos) (eOr ea eb) :=
  .of (pe_or ha hb) fun F H σ ρ Q h1 h2 => ⟨F, ρ, h1, Post.bind h2 fun d v F1 H1 e1 r1 q1 => by
    cases r1 with
    | bl c =>
      refine ⟨c, rfl, ?_⟩
      cases c with
      | false => exact iteF ⟨F1, ρ, h1.ext e1, q1⟩
      | true => exact iteT (q1.ok e1.fh (.bl _))
    | _ => exact False.elim q1⟩
theorem se_not (ha : SE X W a ea) : SE X W (.UnaryOp .Not a pos) (eNot ea) :=
  .of (pe_not ha) fun F H σ ρ Q h1 h2 => ⟨F, ρ, h1, Post.bind h2 fun d v F1 H1 e1 r1 q1 => by
    cases r1 with
    | bl c => exact ⟨c, rfl, q1.ok e1.fh (.bl _)⟩
    | _ => exact False.elim q1⟩
end
end CW
namespace CW
open PySem PySem.Spec PyProof.Rows L2
inductive OK where
  | fz | ol | od | oll | odl
  deriving DecidableEq
inductive DicR (K : PySem.W.Frag) (F : Hp) : HO → D → Prop
  | k {kvs : List (Key × V)} {vs : List D} : DRs K F (kvs.map (·.2)) vs → DicR K F (.dK kvs) (.dic false false (kvs.map fun p => keyD p.1) vs)
  | t {kvs : List (List Key × V)} {vs : List D} : DRs K F (kvs.map (·.2)) vs → DicR K F (.dT kvs) (.dic false true (kvs.map fun p => .tup (p.1.map keyD)) vs)
theorem DicR.mono {K : PySem.W.Frag} {F G : Hp} {u : HO} {d : D} (s : Sub F G) (h : DicR K F u d) : DicR K G u d := by
  cases h with
  | k h => exact .k (h.mono s)
  | t h => exact .t (h.mono s)
theorem DicR.dr {K : PySem.W.Frag} {F : Hp} {u : HO} {d : D} {a : Addr} (h : DicR K F u d) (e : F a = some u) : DR K F (.ref a) d := by
  cases h with
  | k h => exact .dK (lk := false) (.inl e) h
  | t h => exact .dT (lk := false) (.inl e) h
theorem DicR.mut {K : PySem.W.Frag} {F : Hp} {u : HO} {d : D} (h : DicR K F u d) : Mut (some u) := by
  cases h <;> exact True.intro
inductive NestR (K : PySem.W.Frag) (F H : Hp) : List Addr → List V → List D → Prop
  | nil : NestR K F H [] [] []
  | cons {p : Addr} {vs : List V} {ds : List D} {ps : List Addr} {us : List V} {es : List D} : H p = some (.lst vs) → DRs K F vs ds → NestR K F H ps us es → NestR K F H (p :: ps) (.ref p :: us) (.lst ds :: es)
theorem NestR.stable {K : PySem.W.Frag} {F H F' H' : Hp} {ps : List Addr} {us : List V} {es : List D} (h : NestR K F H ps us es) (s : Same F F') : (∀ a ∈ ps, H' a = H a) → NestR K F' H' ps us es := by
  induction h with
  | nil => exact fun _ => .nil
  | cons h1 h2 _ ih => exact fun hh => .cons (by rw [hh _ List.mem_cons_self]; exact h1) (h2.mono (Sub.of_same s)) (ih fun a ha => hh a (List.mem_cons_of_mem _ ha))
theorem NestR.freeze {K : PySem.W.Frag} {F H G : Hp} {ps : List Addr} {us : List V} {es : List D} (h : NestR K F H ps us es) (s : Same F G) : (∀ a ∈ ps, G a = H a) → DRs K G us es := by
  induction h with
  | nil => exact fun _ => .nil
  | cons h1 h2 _ ih => exact fun hh => .cons (.lst (.inl (by rw [hh _ List.mem_cons_self]; exact h1)) (h2.mono (Sub.of_same s))) (ih fun a ha => hh a (List.mem_cons_of_mem _ ha))
theorem NestR.refs {K : PySem.W.Frag} {F H : Hp} {ps : List Addr} {us : List V} {es : List D} (h : NestR K F H ps us es) : us = ps.map V.ref := by
  induction h with
  | nil => rfl
  | cons _ _ _ ih => rw [ih]; rfl
theorem NestR.len {K : PySem.W.Frag} {F H : Hp} {ps : List Addr} {us : List V} {es : List D} (h : NestR K F H ps us es) : us.length = es.length := by
  induction h with
  | nil => rfl
  | cons _ _ _ ih => simp [ih]
def SlotR (K : PySem.W.Frag) (F H : Hp) : OK → V → D → List Addr → Prop
  | .fz, v, d, fp => fp = [] ∧ DR K F v d
  | .ol, v, d, fp => ∃ a vs ds, v = .ref a ∧ d = .lst ds ∧ fp = [a] ∧ H a = some (.lst vs) ∧ DRs K F vs ds
  | .od, v, d, fp => ∃ a u, v = .ref a ∧ fp = [a] ∧ H a = some u ∧ DicR K F u d
  | .oll, v, d, fp => ∃ a us es ps, v = .ref a ∧ d = .lst es ∧ fp = a :: ps ∧ (a :: ps).Nodup ∧ H a = some (.lst us) ∧ NestR K F H ps us es
  | .odl, v, d, fp => ∃ a kvs es ps, v = .ref a ∧ d = .dic false false (kvs.map fun p : Key × V => keyD p.1) es ∧ fp = a :: ps ∧ (a :: ps).Nodup ∧ H a = some (.dK kvs) ∧ NestR K F H ps (kvs.map (·.2)) es
theorem SlotR.stable {K : PySem.W.Frag} {F H F' H' : Hp} {k : OK} {v : V} {d : D} {fp : List Addr} (h : SlotR K F H k v d fp) (s : Same F F') (hh : ∀ a ∈ fp, H' a = H a) : SlotR K F' H' k v d fp := by
  cases k with
  | fz => exact ⟨h.1, h.2.mono (Sub.of_same s)⟩
  | ol =>
    obtain ⟨a, vs, ds, h1, h2, h3, h4, h5⟩ := h
    subst h3
    exact ⟨a, vs, ds, h1, h2, rfl, by rw [hh a (by simp)]; exact h4, h5.mono (Sub.of_same s)⟩
  | od =>
    obtain ⟨a, u, h1, h3, h4, h5⟩ := h
    subst h3
    exact ⟨a, u, h1, rfl, by rw [hh a (by simp)]; exact h4, h5.mono (Sub.of_same s)⟩
  | oll =>
    obtain ⟨a, us, es, ps, h1, h2, h3, hn, h4, h5⟩ := h
    subst h3
    exact ⟨a, us, es, ps, h1, h2, rfl, hn, by rw [hh a (by simp)]; exact h4, h5.stable s fun b hb => hh b (List.mem_cons_of_mem _ hb)⟩
  | odl =>
    obtain ⟨a, us, es, ps, h1, h2, h3, hn, h4, h5⟩ := h
    subst h3
    exact ⟨a, us, es, ps, h1, h2, rfl, hn, by rw [hh a (by simp)]; exact h4, h5.stable s fun b hb => hh b (List.mem_cons_of_mem _ hb)⟩
theorem SlotR.freeze {K : PySem.W.Frag} {F H G : Hp} {k : OK} {v : V} {d : D} {fp : List Addr} (h : SlotR K F H k v d fp) (s : Same F G) (hh : ∀ a ∈ fp, G a = H a) : DR K G v d := by
  cases k with
  | fz => exact h.2.mono (Sub.of_same s)
  | ol =>
    obtain ⟨a, vs, ds, rfl, rfl, rfl, h4, h5⟩ := h
    exact .lst (.inl (by rw [hh a (by simp)]; exact h4)) (h5.mono (Sub.of_same s))
  | od =>
    obtain ⟨a, u, rfl, rfl, h4, h5⟩ := h
    exact (h5.mono (Sub.of_same s)).dr (by rw [hh a (by simp)]; exact h4)
  | oll =>
    obtain ⟨a, us, es, ps, rfl, rfl, rfl, _, h4, h5⟩ := h
    exact .lst (.inl (by rw [hh a (by simp)]; exact h4)) (h5.freeze s fun b hb => hh b (List.mem_cons_of_mem _ hb))
  | odl =>
    obtain ⟨a, kvs, es, ps, rfl, rfl, rfl, _, h4, h5⟩ := h
    exact .dK (lk := false) (.inl (by rw [hh a (by simp)]; exact h4)) (h5.freeze s fun b hb => hh b (List.mem_cons_of_mem _ hb))
theorem refs_inj : ∀ (x y : List Addr), x.map V.ref = y.map V.ref → x = y
  | [], [], _ => rfl
  | [], _ :: _, h => by simp at h
  | _ :: _, [], h => by simp at h
  | x :: xs, y :: ys, h => by
    simp only [List.map_cons, List.cons.injEq] at h
    rw [V.ref.inj h.1, refs_inj xs ys h.2]
theorem SlotR.uniq {K : PySem.W.Frag} {F H F' H' : Hp} {k : OK} {v : V} {d d' : D} {fp fp' : List Addr} (h : SlotR K F H k v d fp) (h' : SlotR K F' H' k v d' fp') (hh : ∀ a ∈ fp, H' a = H a) : fp = fp' := by
  cases k with
  | fz => rw [h.1, h'.1]
  | ol =>
    obtain ⟨a, _, _, e1, _, e2, _⟩ := h
    obtain ⟨b, _, _, e3, _, e4, _⟩ := h'
    rw [e1] at e3
    cases e3
    rw [e2, e4]
  | od =>
    obtain ⟨a, _, e1, e2, _⟩ := h
    obtain ⟨b, _, e3, e4, _⟩ := h'
    rw [e1] at e3
    cases e3
    rw [e2, e4]
  | oll =>
    obtain ⟨a, us, es, ps, e1, _, e2, _, e3, e4⟩ := h
    obtain ⟨b, us', es', ps', e5, _, e6, _, e7, e8⟩ := h'
    rw [e1] at e5
    cases e5
    have e9 := hh a (by rw [e2]; exact List.mem_cons_self)
    rw [e3, e7] at e9
    have ea : us' = us := by
      have := Option.some.inj e9
      exact HO.lst.inj this
    have ep : ps.map V.ref = ps'.map V.ref := by rw [← e4.refs, ← e8.refs, ea]
    have inj : ∀ x y : Addr, V.ref x = V.ref y → x = y := fun x y z => V.ref.inj z
    have : ps = ps' := by
      have key : ∀ (x y : List Addr), x.map V.ref = y.map V.ref → x = y := by
        intro x
        induction x with
        | nil => intro y hy; cases y with | nil => rfl | cons => simp at hy
        | cons x xs ih =>
          intro y hy
          cases y with
          | nil => simp at hy
          | cons y ys =>
            simp only [List.map_cons, List.cons.injEq] at hy
            rw [inj _ _ hy.1, ih _ hy.2]
      exact key _ _ ep
    rw [e2, e6, this]
  | odl =>
    obtain ⟨a, us, es, ps, e1, _, e2, _, e3, e4⟩ := h
    obtain ⟨b, us', es', ps', e5, _, e6, _, e7, e8⟩ := h'
    rw [e1] at e5
    cases e5
    have e9 := hh a (by rw [e2]; exact List.mem_cons_self)
    rw [e3, e7] at e9
    have ea : us' = us := HO.dK.inj (Option.some.inj e9)
    subst ea
    rw [e2, e6, refs_inj ps ps' (by rw [← e4.refs, ← e8.refs])]
def kd (O : List OK) (i : Nat) : OK := O.getD i .fz
structure Rep (K : PySem.W.Frag) (F0 H0 : Hp) (O : List OK) (F H : Hp) (σ : St) (ρ : Env) : Prop where
  ext : Ext F0 H0 F H
  len : σ.length = ρ.length
  sl : ∃ fp : Nat → List Addr, (∀ (i : Nat) (d : D), ρ[i]? = some (some d) → ∃ v, σ[i]? = some (some v) ∧ SlotR K F H (kd O i) v d (fp i)) ∧
    (∀ i, ∀ a ∈ fp i, F a = none ∧ H0 a = none ∧ Mut (H a)) ∧ ∀ i j a, a ∈ fp i → a ∈ fp j → i = j

theorem mut_some {o : Option HO} (h : Mut o) : ∃ u, o = some u ∧ (∀ xs, u ≠ .tup xs) ∧ ∀ b w, u ≠ .frz b w := by
  cases o with
  | none => exact h.elim
  | some u =>
    refine ⟨u, rfl, fun xs e => ?_, fun b w e => ?_⟩
    · subst e; exact h.elim
    · subst e; exact h.elim

section
variable {K : PySem.W.Frag} {F0 H0 F H F' H' : Hp} {O O' : List OK} {σ : St} {ρ : Env}
theorem Rep.same (r : Rep K F0 H0 O F H σ ρ) : Same F H := r.ext.fh
theorem Rep.grow (r : Rep K F0 H0 O F H σ ρ) (e : Ext F H F' H') : Rep K F0 H0 O F' H' σ ρ := by
  obtain ⟨fp, h1, h2, h3⟩ := r.sl
  have hl : ∀ i, ∀ a ∈ fp i, H' a = H a := fun i a ha => by
    obtain ⟨_, _, m⟩ := h2 i a ha
    obtain ⟨u, hu, _⟩ := mut_some m
    rw [hu]; exact e.hh _ _ hu
  refine ⟨r.ext.trans e, r.len, fp, fun i d hi => ?_, fun i a ha => ?_, h3⟩
  · obtain ⟨v, hv, hs⟩ := h1 i d hi
    exact ⟨v, hv, hs.stable e.ff (hl i)⟩
  · obtain ⟨a1, a2, m⟩ := h2 i a ha
    refine ⟨?_, a2, by rw [hl i a ha]; exact m⟩
    cases q : F' a with
    | none => rfl
    | some o =>
      rcases e.new a (by rw [q]; simp) with z | z
      · exact absurd a1 z
      · exact absurd m z
def hide : List OK → Env → Env
  | [], ρ => ρ
  | _ :: _, [] => []
  | .fz :: O, x :: ρ => x :: hide O ρ
  | .ol :: O, _ :: ρ => none :: hide O ρ
  | .od :: O, _ :: ρ => none :: hide O ρ
  | .oll :: O, _ :: ρ => none :: hide O ρ
  | .odl :: O, _ :: ρ => none :: hide O ρ
theorem hide_len : ∀ (O : List OK) (ρ : Env), (hide O ρ).length = ρ.length
  | [], _ => rfl
  | _ :: _, [] => rfl
  | .fz :: O, x :: ρ => by simp [hide, hide_len O ρ]
  | .ol :: O, x :: ρ => by simp [hide, hide_len O ρ]
  | .od :: O, x :: ρ => by simp [hide, hide_len O ρ]
  | .oll :: O, x :: ρ => by simp [hide, hide_len O ρ]
  | .odl :: O, x :: ρ => by simp [hide, hide_len O ρ]
theorem hide_get : ∀ (O : List OK) (ρ : Env) (i : Nat) (d : D), (hide O ρ)[i]? = some (some d) → ρ[i]? = some (some d) ∧ kd O i = .fz
  | [], ρ, i, d, h => ⟨h, by simp [kd]⟩
  | _ :: _, [], i, d, h => by simp [hide] at h
  | .fz :: O, x :: ρ, 0, d, h => ⟨by simpa [hide] using h, rfl⟩
  | .fz :: O, x :: ρ, i + 1, d, h => by
    have := hide_get O ρ i d (by simpa [hide] using h)
    exact ⟨by simpa using this.1, by simpa [kd] using this.2⟩
  | .ol :: O, x :: ρ, 0, d, h => by simp [hide] at h
  | .ol :: O, x :: ρ, i + 1, d, h => by
    have := hide_get O ρ i d (by simpa [hide] using h)
    exact ⟨by simpa using this.1, by simpa [kd] using this.2⟩
  | .od :: O, x :: ρ, 0, d, h => by simp [hide] at h
  | .od :: O, x :: ρ, i + 1, d, h => by
    have := hide_get O ρ i d (by simpa [hide] using h)
    exact ⟨by simpa using this.1, by simpa [kd] using this.2⟩
  | .oll :: O, x :: ρ, 0, d, h => by simp [hide] at h
  | .oll :: O, x :: ρ, i + 1, d, h => by
    have := hide_get O ρ i d (by simpa [hide] using h)
    exact ⟨by simpa using this.1, by simpa [kd] using this.2⟩
  | .odl :: O, x :: ρ, 0, d, h => by simp [hide] at h
  | .odl :: O, x :: ρ, i + 1, d, h => by
    have := hide_get O ρ i d (by simpa [hide] using h)
    exact ⟨by simpa using this.1, by simpa [kd] using this.2⟩
theorem Rep.hid (r : Rep K F0 H0 O F H σ ρ) : RF K F H σ (hide O ρ) := by
  obtain ⟨fp, h1, h2, h3⟩ := r.sl
  refine ⟨r.same, by rw [hide_len]; exact r.len, fun i d hi => ?_⟩
  obtain ⟨a, b⟩ := hide_get O ρ i d hi
  obtain ⟨v, hv, hs⟩ := h1 i d a
  rw [b] at hs
  exact ⟨v, hv, hs.2⟩
open Classical in
theorem Rep.lend (r : Rep K F0 H0 O F H σ ρ) : ∃ G, RF K G H σ ρ ∧ Same F G ∧ ∀ G' H', Ext G H G' H' → Rep K F0 H0 [] G' H' σ ρ ∧
    ∃ F', Rep K F0 H0 O F' H' σ ρ ∧ Same F' G' ∧ (∀ v d, lf d = true → DR K G' v d → DR K F' v d) ∧ (∀ vs ds, lfs ds = true → DRs K G' vs ds → DRs K F' vs ds) ∧ ∀ a, G' a = none → F' a = none := by
  obtain ⟨fp, h1, h2, h3⟩ := r.sl
  let own : Addr → Prop := fun a => ∃ i, a ∈ fp i
  let G : Hp := fun b => if own b then H b else F b
  have gO : ∀ b, own b → G b = H b := fun b hb => if_pos hb
  have gN : ∀ b, ¬ own b → G b = F b := fun b hb => if_neg hb
  have sFG : Same F G := fun b o e => by
    by_cases hb : own b
    · obtain ⟨i, hi⟩ := hb
      rw [(h2 i b hi).1] at e; cases e
    · rw [gN b hb]; exact e
  have sGH : Same G H := fun b o e => by
    by_cases hb : own b
    · rw [gO b hb] at e; exact e
    · rw [gN b hb] at e; exact r.same _ _ e
  have rf : RF K G H σ ρ := ⟨sGH, r.len, fun i d hi => by
    obtain ⟨v, hv, hs⟩ := h1 i d hi
    exact ⟨v, hv, hs.freeze sFG fun a ha => gO a ⟨i, ha⟩⟩⟩
  have e0 : Ext F0 H0 G H := ⟨r.ext.ff.trans sFG, sGH, r.ext.hh, fun a ha => by
    by_cases hb : own a
    · obtain ⟨i, hi⟩ := hb
      exact .inr (nmut (h2 i a hi).2.1)
    · rw [gN a hb] at ha; exact r.ext.new a ha, fun a w xs q => by
    by_cases hb : own a
    · obtain ⟨i, hi⟩ := id hb
      obtain ⟨_, _, m⟩ := h2 i a hi
      rw [gO a hb] at q
      rw [q] at m
      exact m.elim
    · rw [gN a hb] at q; exact r.ext.nf _ _ _ q⟩
  refine ⟨G, rf, sFG, fun G' H' e => ⟨?_, ?_⟩⟩
  · have rf' := rf.ext e
    exact ⟨e0.trans e, r.len, fun _ => [], fun i d hi => by
      obtain ⟨v, hv, hs⟩ := rf'.2.2 i d hi
      exact ⟨v, hv, by simp [kd, SlotR, hs]⟩, fun i a ha => by simp at ha, fun i j a ha => by simp at ha⟩
  · let F' : Hp := fun b => if own b then none else G' b
    have fO : ∀ b, own b → F' b = none := fun b hb => if_pos hb
    have fN : ∀ b, ¬ own b → F' b = G' b := fun b hb => if_neg hb
    have hH : ∀ b, own b → H' b = H b ∧ G' b = H b := fun b hb => by
      obtain ⟨i, hi⟩ := hb
      obtain ⟨_, _, m⟩ := h2 i b hi
      obtain ⟨u, hu, _⟩ := mut_some m
      rw [hu]
      exact ⟨e.hh _ _ hu, e.ff _ _ (by rw [gO b ⟨i, hi⟩]; exact hu)⟩
    have sF'G' : Same F' G' := fun b o q => by
      by_cases hb : own b
      · rw [fO b hb] at q; cases q
      · rw [fN b hb] at q; exact q
    have sFF' : Same F F' := fun b o q => by
      have hb : ¬ own b := fun ⟨i, hi⟩ => by rw [(h2 i b hi).1] at q; cases q
      rw [fN b hb]
      exact e.ff _ _ (sFG _ _ q)
    have tp : Tp G' F' := fun a xs hr => by
      have hb : ¬ own a := fun hb => by
        obtain ⟨i, hi⟩ := id hb
        obtain ⟨_, _, m⟩ := h2 i a hi
        obtain ⟨u, hu, n1, n2⟩ := mut_some m
        have hg := (hH a hb).2
        rw [hu, hr] at hg
        exact n1 _ (Option.some.inj hg).symm
      rw [fN a hb]
      exact hr
    refine ⟨F', ⟨⟨r.ext.ff.trans sFF', sF'G'.trans e.fh, r.ext.hh.trans e.hh, fun a ha => ?_, fun a w xs q => ?_⟩, r.len, fp, fun i d hi => ?_, fun i a ha => ?_, h3⟩, sF'G', fun v d l q => q.mono_lf tp l, fun v d l q => q.mono_lf tp l, fun a ha => ?_⟩
    · by_cases hb : own a
      · exact absurd (fO a hb) ha
      · rw [fN a hb] at ha
        rcases e.new a ha with z | z
        · rw [gN a hb] at z; exact r.ext.new a z
        · exact .inr (nmut_back r.ext.hh z)
    · by_cases hb : own a
      · rw [fO a hb] at q; cases q
      · rw [fN a hb] at q
        have q := e.nf _ _ _ q
        rw [gN a hb] at q
        exact r.ext.nf _ _ _ q
    · obtain ⟨v, hv, hs⟩ := h1 i d hi
      exact ⟨v, hv, hs.stable sFF' fun a ha => (hH a ⟨i, ha⟩).1⟩
    · obtain ⟨_, a2, m⟩ := h2 i a ha
      exact ⟨fO a ⟨i, ha⟩, a2, by rw [(hH a ⟨i, ha⟩).1]; exact m⟩
    · by_cases hb : own a
      · exact fO a hb
      · rw [fN a hb]; exact ha
theorem getD_set {O : List OK} {i j : Nat} {k : OK} : kd (O.set i k) j = if j = i ∧ i < O.length then k else kd O j := by
  unfold kd
  simp only [List.getD_eq_getElem?_getD, List.getElem?_set]
  by_cases h : i = j
  · subst h
    by_cases h2 : i < O.length
    · simp [h2]
    · simp [h2]
  · simp [h, Ne.symm h]
theorem Rep.set (r : Rep K F0 H0 O F H σ ρ) {v : V} {d : D} (i : Nat) (h : DR K F v d) : Rep K F0 H0 (O.set i .fz) F H (σ.set i (some v)) (ρ.set i (some d)) := by
  obtain ⟨fp, h1, h2, h3⟩ := r.sl
  obtain ⟨fq, hqT, hqF⟩ : ∃ fq : Nat → List Addr, fq i = [] ∧ ∀ j, j ≠ i → fq j = fp j := ⟨fun j => if j = i then [] else fp j, if_pos rfl, fun j hj => if_neg hj⟩
  refine ⟨r.ext, by rw [List.length_set, List.length_set]; exact r.len, fq, fun j e hj => ?_, fun j a ha => ?_, fun j l a ha hb => ?_⟩
  · by_cases hji : j = i
    · subst hji
      by_cases hl : j < ρ.length
      · rw [List.getElem?_set_self hl] at hj
        cases hj
        refine ⟨v, by rw [List.getElem?_set_self (by rw [r.len]; exact hl)], ?_⟩
        have : kd (O.set j .fz) j = .fz := by
          rw [getD_set]
          split
          · rfl
          · rename_i hn
            unfold kd
            rw [List.getD_eq_getElem?_getD, List.getElem?_eq_none (by omega)]; rfl
        rw [this, hqT]
        exact ⟨rfl, h⟩
      · rw [List.getElem?_eq_none (by rw [List.length_set]; omega)] at hj; cases hj
    · rw [List.getElem?_set_ne (Ne.symm hji)] at hj
      obtain ⟨w, hw, hs⟩ := h1 j e hj
      refine ⟨w, by rw [List.getElem?_set_ne (Ne.symm hji)]; exact hw, ?_⟩
      rw [hqF j hji, getD_set, if_neg (fun z => hji z.1)]
      exact hs
  · by_cases hji : j = i
    · rw [hji, hqT] at ha; simp at ha
    · rw [hqF j hji] at ha; exact h2 j a ha
  · by_cases hji : j = i
    · rw [hji, hqT] at ha; simp at ha
    · rw [hqF j hji] at ha
      by_cases hli : l = i
      · rw [hli, hqT] at hb; simp at hb
      · rw [hqF l hli] at hb; exact h3 j l a ha hb
theorem Rep.setFr (r : Rep K F0 H0 O F H σ ρ) {k : OK} {v : V} {dn : D} {fpn : List Addr} (i : Nat) (hi : i < O.length) (hf : ∀ a ∈ fpn, F a = none ∧ H0 a = none ∧ Mut (H a)) (hn : ∃ F1 H1, Rep K F0 H0 O F1 H1 σ ρ ∧ Same H1 H ∧ ∀ a ∈ fpn, H1 a = none) (h : SlotR K F H k v dn fpn) :
    Rep K F0 H0 (O.set i k) F H (σ.set i (some v)) (ρ.set i (some dn)) := by
  obtain ⟨fp, h1, h2, h3⟩ := r.sl
  have fre : ∀ (j : Nat) (d : D), ρ[j]? = some (some d) → ∀ a ∈ fp j, a ∉ fpn := fun j d hj a ha hp => by
    obtain ⟨F1, H1, r1, s1, n1⟩ := hn
    obtain ⟨fq, g1, g2, g3⟩ := r1.sl
    obtain ⟨w, hw, hs⟩ := h1 j d hj
    obtain ⟨w', hw', hs'⟩ := g1 j d hj
    rw [hw] at hw'
    cases hw'
    have hm : ∀ b ∈ fq j, H b = H1 b := fun b hb => by
      obtain ⟨_, _, m⟩ := g2 j b hb
      obtain ⟨u, hu, _⟩ := mut_some m
      rw [hu]; exact s1 _ _ hu
    have e := hs'.uniq hs hm
    rw [← e] at ha
    obtain ⟨_, _, m⟩ := g2 j a ha
    rw [n1 a hp] at m
    exact m.elim
  -- footprints of unset slots are forgotten
  obtain ⟨fg, gS, gN⟩ : ∃ fg : Nat → List Addr, (∀ (j : Nat) (d : D), ρ[j]? = some (some d) → fg j = fp j) ∧ ∀ j a, a ∈ fg j → ∃ d : D, ρ[j]? = some (some d) := by
    refine ⟨fun j => match ρ[j]? with | some (some _) => fp j | _ => [], fun j d e => by simp only [e], fun j a ha => ?_⟩
    cases q : ρ[j]? with
    | none => simp [q] at ha
    | some o =>
      cases o with
      | none => simp [q] at ha
      | some d => exact ⟨d, rfl⟩
  obtain ⟨fq, hqT, hqF⟩ : ∃ fq : Nat → List Addr, fq i = fpn ∧ ∀ j, j ≠ i → fq j = fg j := ⟨fun j => if j = i then fpn else fg j, if_pos rfl, fun j hj => if_neg hj⟩
  have key : ∀ (j : Nat) (a : Addr), a ∈ fg j → a ∈ fp j ∧ a ∉ fpn := fun j a ha => by
    obtain ⟨d, hd⟩ := gN j a ha
    rw [gS j d hd] at ha
    exact ⟨ha, fre j d hd a ha⟩
  refine ⟨r.ext, by rw [List.length_set, List.length_set]; exact r.len, fq, fun j e hj => ?_, fun j a ha => ?_, fun j l a ha hb => ?_⟩
  · by_cases hji : j = i
    · subst hji
      by_cases hl : j < ρ.length
      · rw [List.getElem?_set_self hl] at hj
        cases hj
        refine ⟨_, by rw [List.getElem?_set_self (by rw [r.len]; exact hl)], ?_⟩
        rw [getD_set, if_pos ⟨rfl, hi⟩, hqT]
        exact h
      · rw [List.getElem?_eq_none (by rw [List.length_set]; omega)] at hj; cases hj
    · rw [List.getElem?_set_ne (Ne.symm hji)] at hj
      obtain ⟨w, hw, hs⟩ := h1 j e hj
      refine ⟨w, by rw [List.getElem?_set_ne (Ne.symm hji)]; exact hw, ?_⟩
      rw [hqF j hji, getD_set, if_neg (fun z => hji z.1), gS j e hj]
      exact hs
  · by_cases hji : j = i
    · rw [hji, hqT] at ha
      exact hf a ha
    · rw [hqF j hji] at ha
      exact h2 j a (key j a ha).1
  · by_cases hji : j = i
    · rw [hji, hqT] at ha
      by_cases hli : l = i
      · rw [hji, hli]
      · rw [hqF l hli] at hb
        exact absurd ha (key l a hb).2
    · rw [hqF j hji] at ha
      have k1 := key j a ha
      by_cases hli : l = i
      · rw [hli, hqT] at hb
        exact absurd hb k1.2
      · rw [hqF l hli] at hb
        exact h3 j l a k1.1 (key l a hb).1
theorem Rep.setO (r : Rep K F0 H0 O F H σ ρ) {p : Addr} {vs : List V} {ds : List D} (i : Nat) (hi : i < O.length) (hf : F p = none) (h0 : H0 p = none) (hp : H p = some (.lst vs)) (hn : ∃ F1 H1, Rep K F0 H0 O F1 H1 σ ρ ∧ Same H1 H ∧ H1 p = none) (h : DRs K F vs ds) :
    Rep K F0 H0 (O.set i .ol) F H (σ.set i (some (.ref p))) (ρ.set i (some (.lst ds))) := by
  obtain ⟨F1, H1, a, b, c⟩ := hn
  refine r.setFr (fpn := [p]) i hi (fun a ha => ?_) ⟨F1, H1, a, b, fun x hx => ?_⟩ ⟨p, vs, ds, rfl, rfl, rfl, hp, h⟩
  · have e : a = p := by simpa using ha
    subst e
    exact ⟨hf, h0, by rw [hp]; trivial⟩
  · have e : x = p := by simpa using hx
    subst e
    exact c
theorem Rep.setNew (r : Rep K F0 H0 O F H σ ρ) {p : Addr} {vs : List V} {ds : List D} {F' H' : Hp} (i : Nat) (hi : i < O.length) (e : Ext F H F' H') (hn : H p = none) (hf : F' p = none) (hp : H' p = some (.lst vs)) (h : DRs K F' vs ds) :
    Rep K F0 H0 (O.set i .ol) F' H' (σ.set i (some (.ref p))) (ρ.set i (some (.lst ds))) :=
  (r.grow e).setO i hi hf (r.ext.hh.free hn) hp ⟨F, H, r, e.hh, hn⟩ h
def leB : List OK → List OK → Bool
  | _, [] => true
  | [], k :: O' => decide (k = .fz) && leB [] O'
  | k :: O, k' :: O' => (decide (k' = .fz) || decide (k' = k)) && leB O O'
theorem leB_get : ∀ {O O' : List OK}, leB O O' = true → ∀ i, kd O' i = .fz ∨ kd O' i = kd O i
  | _, [], _, i => .inl (by simp [kd])
  | [], k :: O', h, 0 => by
    simp only [leB, Bool.and_eq_true, decide_eq_true_eq] at h
    exact .inl (by simp [kd, h.1])
  | [], k :: O', h, i + 1 => by
    simp only [leB, Bool.and_eq_true] at h
    have := leB_get h.2 i
    simpa [kd] using this
  | k :: O, k' :: O', h, 0 => by
    simp only [leB, Bool.and_eq_true, Bool.or_eq_true, decide_eq_true_eq] at h
    simpa [kd] using h.1
  | k :: O, k' :: O', h, i + 1 => by
    simp only [leB, Bool.and_eq_true] at h
    have := leB_get h.2 i
    simpa [kd] using this
open Classical in
theorem Rep.weak (r : Rep K F0 H0 O F H σ ρ) (h : leB O O' = true) : ∃ F', Same F F' ∧ Rep K F0 H0 O' F' H σ ρ := by
  obtain ⟨fp, h1, h2, h3⟩ := r.sl
  let fr : Addr → Prop := fun a => ∃ i, a ∈ fp i ∧ kd O' i = .fz
  let G : Hp := fun b => if fr b then H b else F b
  have gO : ∀ b, fr b → G b = H b := fun b hb => if_pos hb
  have gN : ∀ b, ¬ fr b → G b = F b := fun b hb => if_neg hb
  have sFG : Same F G := fun b o e => by
    by_cases hb : fr b
    · obtain ⟨i, hi, _⟩ := hb
      rw [(h2 i b hi).1] at e; cases e
    · rw [gN b hb]; exact e
  have sGH : Same G H := fun b o e => by
    by_cases hb : fr b
    · rw [gO b hb] at e; exact e
    · rw [gN b hb] at e; exact r.same _ _ e
  obtain ⟨fq, hqT, hqF⟩ : ∃ fq : Nat → List Addr, (∀ i, kd O' i = .fz → fq i = []) ∧ ∀ i, kd O' i ≠ .fz → fq i = fp i := ⟨fun i => if kd O' i = .fz then [] else fp i, fun i h => if_pos h, fun i h => if_neg h⟩
  refine ⟨G, sFG, ⟨⟨r.ext.ff.trans sFG, sGH, r.ext.hh, fun a ha => ?_, fun a w xs q => ?_⟩, r.len, fq, fun i d hi => ?_, fun i a ha => ?_, fun i j a ha hb => ?_⟩⟩
  · by_cases hb : fr a
    · obtain ⟨i, hi, _⟩ := hb
      exact .inr (nmut (h2 i a hi).2.1)
    · rw [gN a hb] at ha; exact r.ext.new a ha
  · by_cases hb : fr a
    · obtain ⟨i, hi, _⟩ := id hb
      obtain ⟨_, _, m⟩ := h2 i a hi
      rw [gO a hb] at q
      rw [q] at m
      exact m.elim
    · rw [gN a hb] at q; exact r.ext.nf _ _ _ q
  · obtain ⟨v, hv, hs⟩ := h1 i d hi
    refine ⟨v, hv, ?_⟩
    by_cases hk : kd O' i = .fz
    · rw [hqT i hk, hk]
      exact ⟨rfl, hs.freeze sFG fun a ha => gO a ⟨i, ha, hk⟩⟩
    · rw [hqF i hk]
      rcases leB_get h i with z | z
      · exact absurd z hk
      · rw [z]; exact hs.stable sFG fun _ _ => rfl
  · by_cases hk : kd O' i = .fz
    · rw [hqT i hk] at ha; simp at ha
    · rw [hqF i hk] at ha
      obtain ⟨a1, a2, m⟩ := h2 i a ha
      refine ⟨?_, a2, m⟩
      rw [gN a fun ⟨j, hj, hkj⟩ => ?_]
      · exact a1
      · rw [h3 i j a ha hj] at hk; exact hk hkj
  · by_cases hk : kd O' i = .fz
    · rw [hqT i hk] at ha; simp at ha
    · rw [hqF i hk] at ha
      by_cases hk2 : kd O' j = .fz
      · rw [hqT j hk2] at hb; simp at hb
      · rw [hqF j hk2] at hb; exact h3 i j a ha hb
theorem Rep.write (r : Rep K F0 H0 O F H σ ρ) {i : Nat} {ds : List D} (hk : kd O i = .ol) (hd : ρ[i]? = some (some (.lst ds))) :
    ∃ p vs, σ[i]? = some (some (.ref p)) ∧ H p = some (.lst vs) ∧ F p = none ∧ H0 p = none ∧ DRs K F vs ds ∧ ∀ ws es, DRs K F ws es → Rep K F0 H0 O F (upd H p (.lst ws)) σ (ρ.set i (some (.lst es))) := by
  obtain ⟨fp, h1, h2, h3⟩ := r.sl
  obtain ⟨v, hv, hs⟩ := h1 i _ hd
  rw [hk] at hs
  obtain ⟨p, vs, ds', rfl, hds, hfp, hp, hr⟩ := hs
  cases hds
  have hm : p ∈ fp i := by rw [hfp]; simp
  obtain ⟨a1, a2, m⟩ := h2 i p hm
  have hlt : i < ρ.length := (List.getElem?_eq_some_iff.mp hd).1
  refine ⟨p, vs, hv, hp, a1, a2, hr, fun ws es hw => ⟨⟨r.ext.ff, fun b o e => ?_, fun b o e => ?_, r.ext.new, r.ext.nf⟩, by rw [List.length_set]; exact r.len, fp, fun j d hj => ?_, fun j a ha => ?_, h3⟩⟩
  · rw [upd_ne (fun z => by rw [z, a1] at e; cases e)]; exact r.same _ _ e
  · rw [upd_ne (fun z => by rw [z, a2] at e; cases e)]; exact r.ext.hh _ _ e
  · by_cases hji : j = i
    · subst hji
      rw [List.getElem?_set_self hlt] at hj
      cases hj
      refine ⟨_, hv, ?_⟩
      rw [hk]
      exact ⟨p, ws, es, rfl, rfl, hfp, upd_same, hw⟩
    · rw [List.getElem?_set_ne (Ne.symm hji)] at hj
      obtain ⟨w, hw', hs⟩ := h1 j d hj
      refine ⟨w, hw', hs.stable (Same.refl _) fun a ha => upd_ne fun z => ?_⟩
      subst z
      exact hji (h3 j i a ha hm)
  · obtain ⟨b1, b2, b3⟩ := h2 j a ha
    refine ⟨b1, b2, ?_⟩
    by_cases hap : a = p
    · subst hap; rw [upd_same]; trivial
    · rw [upd_ne hap]; exact b3
end
structure OX where
  nx : List OK
  bk : List OK
  ct : List OK
  ex : List OK
def RetR (ro : Bool) (K : PySem.W.Frag) (H0 F H : Hp) (v : V) (d : D) : Prop :=
  match ro with
  | true => ∃ a vs ds, v = .ref a ∧ d = .lst ds ∧ H a = some (.lst vs) ∧ F a = none ∧ H0 a = none ∧ DRs K F vs ds
  | false => DR K F v d
def PostS (K : PySem.W.Frag) (mg : Str → Option Value) (W : WX) (F0 H0 : Hp) (P : OX) (ro : Bool) (T : Ends) : Fl → Prop
  | .nx ρ => ∀ F H σ, Rep K F0 H0 P.nx F H σ ρ → T.nx σ H
  | .bk ρ => ∀ F H σ, Rep K F0 H0 P.bk F H σ ρ → T.bk σ H
  | .ct ρ => ∀ F H σ, Rep K F0 H0 P.ct F H σ ρ → T.ct σ H
  | .ret d => ∀ v F H, Ext F0 H0 F H → RetR ro K H0 F H v d → T.rt v H
  | .exc x ρ => ∀ c dd F H σ, Rep K F0 H0 P.ex F H σ ρ → ExR mg K F x c dd → W c dd σ H
  | .stuck => False
def dS (K : PySem.W.Frag) (mg : Str → Option Value) (W : WX) (O : List OK) (P : OX) (ro : Bool) (f : Env → Fl) : TS := fun T σ H => ∃ F0 H0 F ρ, Rep K F0 H0 O F H σ ρ ∧ PostS K mg W F0 H0 P ro T (f ρ)
def SS (X : Cx) (W : WX) (O : List OK) (P : OX) (ro : Bool) (st : Stmt) (f : Env → Fl) : Prop := PS X st (dS X.K X.mg W O P ro f)
def SB (X : Cx) (W : WX) (O : List OK) (P : OX) (ro : Bool) (sts : List Stmt) (f : Env → Fl) : Prop := PSs X sts (dS X.K X.mg W O P ro f)

section
variable {X : Cx} {W : WX} {O O1 : List OK} {P : OX} {ro : Bool} {st : Stmt} {sts : List Stmt} {f g : Env → Fl} {e c : Expr} {es : List Expr} {pos : Pos} {ev ew : Env → Out D} {t : Env → Out Bool}
theorem SS.of {r : TS} (h : PS X st r) (hs : ∀ F0 H0 F H σ ρ T, Rep X.K F0 H0 O F H σ ρ → PostS X.K X.mg W F0 H0 P ro T (f ρ) → r T σ H) : SS X W O P ro st f :=
  ⟨fun pins s σ H T I ⟨F0, H0, F, ρ, h1, h2⟩ => h.run pins s σ H T I (hs F0 H0 F H σ ρ T h1 h2)⟩
theorem SB.of {r : TS} (h : PSs X sts r) (hs : ∀ F0 H0 F H σ ρ T, Rep X.K F0 H0 O F H σ ρ → PostS X.K X.mg W F0 H0 P ro T (f ρ) → r T σ H) : SB X W O P ro sts f :=
  ⟨fun pins s σ H T I ⟨F0, H0, F, ρ, h1, h2⟩ => h.run pins s σ H T I (hs F0 H0 F H σ ρ T h1 h2)⟩
theorem SB.fre (h : SB X W O1 P ro sts f) (hl : leB O O1 = true := by rfl) : SB X W O P ro sts f := .of h fun F0 H0 F H σ ρ T r q => by
  obtain ⟨F', s, r'⟩ := r.weak hl
  exact ⟨F0, H0, F', ρ, r', q⟩
theorem SS.fre (h : SS X W O1 P ro st f) (hl : leB O O1 = true := by rfl) : SS X W O P ro st f := .of h fun F0 H0 F H σ ρ T r q => by
  obtain ⟨F', s, r'⟩ := r.weak hl
  exact ⟨F0, H0, F', ρ, r', q⟩
def fNx : Env → Fl := fun ρ => .nx ρ
def fSeq (f g : Env → Fl) : Env → Fl := fun ρ => match f ρ with
  | .nx ρ' => g ρ'
  | o => o
theorem sb_nil (hl : leB O P.nx = true := by rfl) : SB X W O P ro [] fNx := .of pss_nil fun F0 H0 F H σ ρ T r q => by
  obtain ⟨F', s, r'⟩ := r.weak hl
  exact q F' H σ r'
theorem sb_cons (h1 : SS X W O { P with nx := O1 } ro st f) (h2 : SB X W O1 P ro sts g) : SB X W O P ro (st :: sts) (fSeq f g) := .of (pss_cons h1 h2) fun F0 H0 F H σ ρ T r q => by
  refine ⟨F0, H0, F, ρ, r, ?_⟩
  unfold fSeq at q
  cases e : f ρ with
  | nx ρ' =>
    rw [e] at q
    exact fun F H σ r' => ⟨F0, H0, F, ρ', r', q⟩
  | ret d => rw [e] at q; exact q
  | bk d => rw [e] at q; exact q
  | ct d => rw [e] at q; exact q
  | exc x d => rw [e] at q; exact q
  | stuck => rw [e] at q; exact q
theorem sb_one (h1 : SS X W O P ro st f) : SB X W O P ro [st] f := .of (pss_one h1) fun F0 H0 F H σ ρ T r q => ⟨F0, H0, F, ρ, r, q⟩
theorem Rep.post {K : PySem.W.Frag} {mg : Str → Option Value} {α β : Type} {R : Hp → β → α → Prop} {F0 H0 F H : Hp} {σ : St} {ρ : Env} {Q : β → Hp → Prop} {o : Out α} (r : Rep K F0 H0 O F H σ ρ) (hns : o ≠ .stuck)
    (hok : ∀ d v F' H', o = .ok d → Ext F H F' H' → Rep K F0 H0 O F' H' σ ρ → R F' v d → Q v H')
    (hex : ∀ x c dd F' H', o = .exc x → Rep K F0 H0 O F' H' σ ρ → ExR mg K F' x c dd → W c dd σ H') : Post K mg R W F H σ Q o := by
  cases o with
  | ok d => exact fun v F' H' e q => hok d v F' H' rfl e (r.grow e) q
  | exc x => exact fun c dd F' H' e q => hex x c dd F' H' rfl (r.grow e) q
  | stuck => exact hns rfl
theorem Rep.postO {K : PySem.W.Frag} {mg : Str → Option Value} {F0 H0 F H : Hp} {σ : St} {ρ : Env} {Q : VK} {o : Out (List D)} (r : Rep K F0 H0 O F H σ ρ) (hns : o ≠ .stuck)
    (hok : ∀ ds p vs F' H', o = .ok ds → Ext F H F' H' → H p = none → F' p = none → H' p = some (.lst vs) → DRs K F' vs ds → Q (.ref p) H')
    (hex : ∀ x c dd F' H', o = .exc x → Rep K F0 H0 O F' H' σ ρ → ExR mg K F' x c dd → W c dd σ H') : PostO K mg W F H σ Q o := by
  cases o with
  | ok d => exact fun p vs F' H' e a b c r => hok d p vs F' H' rfl e a b c r
  | exc x => exact fun c dd F' H' e q => hex x c dd F' H' rfl (r.grow e) q
  | stuck => exact hns rfl
def fE {α : Type} (o : Out α) (ρ : Env) (k : α → Fl) : Fl := match o with
  | .ok d => k d
  | .exc x => .exc x ρ
  | .stuck => .stuck
@[simp] theorem fE_ok {α : Type} (a : α) (ρ : Env) (k : α → Fl) : fE (.ok a) ρ k = k a := (rfl)
@[simp] theorem fE_exc {α : Type} (x : D) (ρ : Env) (k : α → Fl) : fE (.exc x : Out α) ρ k = .exc x ρ := (rfl)
@[simp] theorem fE_stuck {α : Type} (ρ : Env) (k : α → Fl) : fE (.stuck : Out α) ρ k = .stuck := (rfl)
def lfO : Out D → Out D
  | .ok d => if lf d then .ok d else .stuck
  | .exc x => .exc x
  | .stuck => .stuck
@[simp] theorem lfO_ok (d : D) : lfO (.ok d) = if lf d then .ok d else .stuck := (rfl)
@[simp] theorem lfO_exc (d : D) : lfO (.exc d) = .exc d := (rfl)
@[simp] theorem lfO_stuck : lfO .stuck = .stuck := (rfl)
def lfsO : Out (List D) → Out (List D)
  | .ok d => if lfs d then .ok d else .stuck
  | .exc x => .exc x
  | .stuck => .stuck
@[simp] theorem lfsO_ok (d : List D) : lfsO (.ok d) = if lfs d then .ok d else .stuck := (rfl)
@[simp] theorem lfsO_exc (d : D) : lfsO (.exc d) = .exc d := (rfl)
@[simp] theorem lfsO_stuck : lfsO .stuck = .stuck := (rfl)
theorem PostS.exc {K : PySem.W.Frag} {mg : Str → Option Value} {F0 H0 F H : Hp} {σ : St} {ρ : Env} {T : Ends} {x : D} {c : Value} {dd : Option Addr} (q : PostS K mg W F0 H0 P ro T (.exc x ρ)) (r : Rep K F0 H0 O F H σ ρ) (hl : leB O P.ex = true) (hx : ExR mg K F x c dd) : W c dd σ H := by
  obtain ⟨F', s, r'⟩ := r.weak hl
  exact q c dd F' H σ r' (hx.mono s)
theorem PostS.nxt {K : PySem.W.Frag} {mg : Str → Option Value} {F0 H0 F H : Hp} {σ : St} {ρ : Env} {T : Ends} (q : PostS K mg W F0 H0 P ro T (.nx ρ)) (r : Rep K F0 H0 O F H σ ρ) (hl : leB O P.nx = true) : T.nx σ H := by
  obtain ⟨F', s, r'⟩ := r.weak hl
  exact q F' H σ r'
def fIf (t : Env → Out Bool) (f g : Env → Fl) : Env → Fl := fun ρ => fE (t ρ) ρ fun b => if b then f ρ else g ρ
theorem ss_if {a b : List Stmt} (hc : ST X W c t) (ha : SB X W O P ro a f) (hb : SB X W O P ro b g) (hx : leB [] P.ex = true := by rfl) : SS X W O P ro (.If c a b pos) (fIf t f g) := .of (ps_if hc ha hb) fun F0 H0 F H σ ρ T r q => by
  obtain ⟨G, rf, sFG, back⟩ := r.lend
  refine ⟨G, ρ, rf, ?_⟩
  unfold fIf at q
  cases e : t ρ with
  | ok v =>
    rw [e] at q
    intro v' G' H' e' hv
    cases hv
    obtain ⟨_, F', r', _⟩ := back G' H' e'
    cases v with
    | true => exact iteT ⟨F0, H0, F', ρ, r', q⟩
    | false => exact iteF ⟨F0, H0, F', ρ, r', q⟩
  | exc x =>
    rw [e] at q
    intro c dd G' H' e' hx'
    exact PostS.exc q (back G' H' e').1 hx hx'
  | stuck => rw [e] at q; exact q.elim
def fDrop (ev : Env → Out D) : Env → Fl := fun ρ => fE (ev ρ) ρ fun _ => .nx ρ
def fRet (ev : Env → Out D) : Env → Fl := fun ρ => fE (ev ρ) ρ fun d => .ret d
theorem ss_ret (he : SE X W e ev) (hx : leB [] P.ex = true := by rfl) : SS X W O P false (.Return (some e) pos) (fRet ev) := .of (ps_ret he) fun F0 H0 F H σ ρ T r q => by
  obtain ⟨G, rf, sFG, back⟩ := r.lend
  refine ⟨G, ρ, rf, ?_⟩
  unfold fRet at q
  cases e1 : ev ρ with
  | ok v =>
    rw [e1] at q
    intro v' G' H' e' hv
    exact q v' G' H' (back G' H' e').1.ext hv
  | exc x =>
    rw [e1] at q
    intro c dd G' H' e' hx'
    exact PostS.exc q (back G' H' e').1 hx hx'
  | stuck => rw [e1] at q; exact q.elim
def fRetN : Env → Fl := fun _ => .ret .non
def fRetO (ev : Env → Out (List D)) : Env → Fl := fun ρ => fE (ev ρ) ρ fun d => .ret (.lst d)
theorem ss_retO {eo : Env → Out (List D)} (he : SO X W e eo) (hx : leB [] P.ex = true := by rfl) : SS X W O P true (.Return (some e) pos) (fRetO eo) := .of (ps_ret he) fun F0 H0 F H σ ρ T r q => by
  obtain ⟨G, rf, sFG, back⟩ := r.lend
  refine ⟨G, ρ, rf, ?_⟩
  unfold fRetO at q
  cases e1 : eo ρ with
  | ok v =>
    rw [e1] at q
    intro p vs G' H' e' hp hf hl hr
    have x := (back G' H' e').1.ext
    exact q _ G' H' x ⟨p, vs, v, rfl, rfl, hl, hf, r.ext.hh.free hp, hr⟩
  | exc x =>
    rw [e1] at q
    intro c dd G' H' e' hx'
    exact PostS.exc q (back G' H' e').1 hx hx'
  | stuck => rw [e1] at q; exact q.elim
def fRetV (i : Nat) : Env → Fl := fun ρ => match ρ[i]? with
  | some (some (.lst ds)) => .ret (.lst ds)
  | _ => .stuck
theorem ss_retV (i : Nat) {x : Str} {p : Pos} (hk : kd O i = .ol := by rfl) (hN : X.N[i]? = some x := by rfl) (hv : Vis X.env.scope x := by first | exact Or.inl rfl | exact Or.inr (Or.inl rfl) | exact Or.inr (Or.inr rfl)) (hd : (x == ("__debug__" : Str)) = false := by decide)
    (hcd : (x == ("__classdict__" : Str)) = false := by decide) : SS X W O P true (.Return (some (.Name x p)) pos) (fRetV i) := .of (ps_ret (pe_var (i := i) hN hv hd hcd)) fun F0 H0 F H σ ρ T r q => by
  unfold fRetV at q
  split at q
  · rename_i ds hds
    obtain ⟨p, vs, e1, e2, e3, e4, e5, _⟩ := r.write hk hds
    exact ⟨_, e1, q _ F H r.ext ⟨p, vs, ds, rfl, rfl, e2, e3, e4, e5⟩⟩
  · exact q.elim
def fAsg (O : List OK) (i : Nat) (ev : Env → Out D) : Env → Fl := fun ρ => fE (ev (hide O ρ)) ρ fun d => .nx (ρ.set i (some d))
theorem ss_asg (i : Nat) {x : Str} {p : Pos} (hN : X.N.Nodup) (he : SE X W e ev) (hl : leB (O.set i .fz) P.nx = true := by rfl) (hx : leB O P.ex = true := by rfl) (hi : X.N[i]? = some x := by rfl) (hL : Loc X.env.scope x := by first | exact Or.inl rfl | exact Or.inr rfl)
    (hs : swapsWith e (some (.Name x p)) pos.line X.env = pure false := by rfl) (hf : X.fn x = true ∨ X.env.scope.names.lookup x = some .local := by first | exact .inl rfl | exact .inr rfl) : SS X W O P ro (.Assign [.Name x p] e pos) (fAsg O i ev) :=
  .of (ps_set hN hi hL he hs hf) fun F0 H0 F H σ ρ T r q => by
  refine ⟨F, hide O ρ, r.hid, ?_⟩
  unfold fAsg at q
  refine r.post (fun z => by rw [z] at q; exact q.elim) (fun d v F' H' eo e' r' rd => ?_) (fun x c dd F' H' eo r' hx' => ?_)
  · rw [eo] at q
    exact PostS.nxt q (r'.set i rd) hl
  · rw [eo] at q
    exact PostS.exc q r' hx hx'
def fAsgB (i : Nat) (ev : Env → Out D) : Env → Fl := fun ρ => fE (lfO (ev ρ)) ρ fun d => .nx (ρ.set i (some d))
theorem ss_asgB (i : Nat) {x : Str} {p : Pos} (hN : X.N.Nodup) (he : SE X W e ev) (hl : leB (O.set i .fz) P.nx = true := by rfl) (hx : leB [] P.ex = true := by rfl) (hi : X.N[i]? = some x := by rfl) (hL : Loc X.env.scope x := by first | exact Or.inl rfl | exact Or.inr rfl)
    (hs : swapsWith e (some (.Name x p)) pos.line X.env = pure false := by rfl) (hf : X.fn x = true ∨ X.env.scope.names.lookup x = some .local := by first | exact .inl rfl | exact .inr rfl) : SS X W O P ro (.Assign [.Name x p] e pos) (fAsgB i ev) :=
  .of (ps_set hN hi hL he hs hf) fun F0 H0 F H σ ρ T r q => by
  obtain ⟨G, rf, sFG, back⟩ := r.lend
  refine ⟨G, ρ, rf, ?_⟩
  unfold fAsgB at q
  cases e1 : ev ρ with
  | ok d =>
    rw [e1, lfO_ok] at q
    split at q
    · rename_i hlf
      intro v' G' H' e' hv
      obtain ⟨_, F', r', _, b1, _⟩ := back G' H' e'
      exact PostS.nxt q (r'.set i (b1 v' d hlf hv)) hl
    · exact q.elim
  | exc x =>
    rw [e1] at q
    intro c dd G' H' e' hx'
    exact PostS.exc q (back G' H' e').1 hx hx'
  | stuck => rw [e1] at q; exact q.elim
def fAsgO (O : List OK) (i : Nat) (ev : Env → Out (List D)) : Env → Fl := fun ρ => fE (ev (hide O ρ)) ρ fun d => .nx (ρ.set i (some (.lst d)))
theorem ss_asgO (i : Nat) {x : Str} {p : Pos} {eo : Env → Out (List D)} (hN : X.N.Nodup) (he : SO X W e eo) (hiO : i < O.length := by decide) (hl : leB (O.set i .ol) P.nx = true := by rfl) (hx : leB O P.ex = true := by rfl) (hi : X.N[i]? = some x := by rfl) (hL : Loc X.env.scope x := by first | exact Or.inl rfl | exact Or.inr rfl)
    (hs : swapsWith e (some (.Name x p)) pos.line X.env = pure false := by rfl) (hf : X.fn x = true ∨ X.env.scope.names.lookup x = some .local := by first | exact .inl rfl | exact .inr rfl) : SS X W O P ro (.Assign [.Name x p] e pos) (fAsgO O i eo) :=
  .of (ps_set hN hi hL he hs hf) fun F0 H0 F H σ ρ T r q => by
  refine ⟨F, hide O ρ, r.hid, ?_⟩
  unfold fAsgO at q
  refine r.postO (fun z => by rw [z] at q; exact q.elim) (fun ds p vs F' H' eo e' hp hf hl' rd => ?_) (fun x c dd F' H' eo r' hx' => ?_)
  · rw [eo] at q
    exact PostS.nxt q (r.setNew i hiO e' hp hf hl' rd) hl
  · rw [eo] at q
    exact PostS.exc q r' hx hx'
def fAsgOB (i : Nat) (ev : Env → Out (List D)) : Env → Fl := fun ρ => fE (lfsO (ev ρ)) ρ fun d => .nx (ρ.set i (some (.lst d)))
def setsS (σ : St) : List (Nat × V) → St
  | [] => σ
  | (i, v) :: r => setsS (σ.set i (some v)) r
def setsE (ρ : Env) : List (Nat × D) → Env
  | [] => ρ
  | (i, v) :: r => setsE (ρ.set i (some v)) r
@[simp] theorem setsE_nil (ρ : Env) : setsE ρ [] = ρ := (rfl)
@[simp] theorem setsE_cons (ρ : Env) (i d r) : setsE ρ ((i, d) :: r) = setsE (ρ.set i (some d)) r := (rfl)
def dG (K : PySem.W.Frag) (is : List Nat) (asg : D → Option (List D)) : TG := fun v σ H Q => ∃ F d ds, Same F H ∧ DR K F v d ∧ asg d = some ds ∧ ∀ us : List V, DRs K F us ds → Q (setsS σ (is.zip us)) H
def SG (X : Cx) (tg : Expr) (is : List Nat) (asg : D → Option (List D)) : Prop := PG X tg (dG X.K is asg)
def gN : D → Option (List D) := fun d => some [d]
theorem sg_name (i : Nat) {x : Str} (hN : X.N.Nodup) (hi : X.N[i]? = some x := by rfl) (hL : Loc X.env.scope x := by first | exact Or.inl rfl | exact Or.inr rfl) (hf : X.fn x = true ∨ X.env.scope.names.lookup x = some .local := by first | exact .inl rfl | exact .inr rfl) : SG X (.Name x pos) [i] gN :=
  ⟨fun pins s σ H v u Q I r h => (pg_name hN hi hL hf).run pins s σ H v u Q I r (by
    obtain ⟨F, d, ds, hs, hd, ha, q⟩ := h
    cases ha
    exact q [v] (.one hd))⟩
def gT (n : Nat) : D → Option (List D) := fun d => match d with
  | .tup ds => if ds.length = n then some ds else none
  | _ => none
inductive Names' (X : Cx) : List Expr → List Nat → Prop
  | nil : Names' X [] []
  | cons {i : Nat} {x : Str} {p : Pos} {es : List Expr} {is : List Nat} : X.N[i]? = some x → Loc X.env.scope x → (X.fn x = true ∨ X.env.scope.names.lookup x = some .local) → Names' X es is → Names' X (.Name x p :: es) (i :: is)
end
end CW
namespace CW
open PySem PySem.Spec PyProof.Rows L2
theorem meets_enumerate_newT (l : Addr) (items : Array Value) (n : Nat) (dct : Option Addr) (sl : Array (Option Value)) :
    Meets (Builtin.«enumerate.__new__» ⟨[.type "enumerate", .ref l], []⟩) (fun _ R s => s.heap.get? l = some { cls := .type "tuple", dict := dct, data := .seq items n, slots := sl } ∧
      R (.ok (.ret (.ref (s.heap.push { cls := .type "tuple_iterator", data := .fields #[.ref l, .int 0 0] }).objs.size)))
        { s with heap := (s.heap.push { cls := .type "tuple_iterator", data := .fields #[.ref l, .int 0 0] }).push { cls := .type "enumerate", data := .fields #[.none, .bool false, .ref s.heap.objs.size, rawInt 0, .none, .none] } }) :=
  .of_wp fun prog w A R s h => by
    obtain ⟨hp, g, d, tk, os⟩ := s; obtain ⟨hl, h⟩ := h
    have hsub := sub_enumerate
    have hL : Heap.IsTuple (Shared.heap ⟨hp, g, d, tk, os⟩) l items := ⟨_, hl, rfl, n, rfl⟩
    wp_walk using AutoSeq1.wpAny_loadPart' hl
    refine wpAny_stack_any fun st => wpAny_pure ?_
    split
    · rename_i c _ _ _ _ _
      cases (c == Value.type "enumerate")
      · wp_walk using AutoSeq1.wpAny_loadPart' hl, wpAny_pyIter_tuple hL
        exact ⟨_, rfl, h⟩
      · wp_walk using AutoSeq1.wpAny_loadPart' hl, wpAny_pyIter_tuple hL
        exact ⟨_, rfl, h⟩
    · wp_walk using AutoSeq1.wpAny_loadPart' hl, wpAny_pyIter_tuple hL
      exact ⟨_, rfl, h⟩
section
variable {prog : Program} {w : World} {A : Around} {E : Value → Shared → Prop} {s : Shared}
theorem call_enumerate_tuple {l : Addr} {items : Array Value} {Q : Value → Shared → Prop} (hL : s.heap.IsTuple l items)
    (h : ∀ h', IsEnum h' (s.heap.objs.size + 1) s.heap.objs.size 0 .none → h'.IsTupleIter s.heap.objs.size l 0 → h'.objs.size = s.heap.objs.size + 2 →
      (∀ b o, s.heap.get? b = some o → h'.get? b = some o) → Q (.ref (s.heap.objs.size + 1)) { s with heap := h' }) :
    wpAny (model prog w) A (call (.type "enumerate") [.ref l]) Q E s := by
  obtain ⟨⟨c, dct, dt, sl⟩, hl, hc, n, hd⟩ := hL
  replace hc : c = .type "tuple" := hc
  replace hd : dt = .seq items n := hd
  subst hc hd
  refine callType_new F.called_enumerate (by decide) (F.typeCall_enumerate_1 _) (F.newCall_enumerate_1 _) (fun obj => F.args_object_init_2 obj _) F.entry_enumerate_new
    (meets_enumerate_newT l items n dct sl) ⟨hl, ?_⟩
  have hz : (s.heap.push { cls := .type "tuple_iterator", data := .fields #[.ref l, .int 0 0] }).objs.size = s.heap.objs.size + 1 := Heap.size_push ..
  show _ ∧ _
  rw [hz]
  have he : IsEnum ((s.heap.push { cls := .type "tuple_iterator", data := .fields #[.ref l, .int 0 0] }).push
      { cls := .type "enumerate", data := .fields #[.none, .bool false, .ref s.heap.objs.size, rawInt 0, .none, .none] }) (s.heap.objs.size + 1) s.heap.objs.size 0 .none := by
    have := Heap.get?_push_size (s.heap.push { cls := .type "tuple_iterator", data := .fields #[.ref l, .int 0 0] })
      (o := { cls := .type "enumerate", data := .fields #[.none, .bool false, .ref s.heap.objs.size, rawInt 0, .none, .none] }) rfl
    rw [hz] at this; exact this
  refine ⟨⟨_, he, rfl⟩, h _ he ⟨_, Heap.get?_push_of_some _ (Heap.get?_push_size _ rfl), rfl, rfl⟩ (by rw [Heap.size_push, hz]) fun b o x => Heap.get?_push_of_some _ (Heap.get?_push_of_some _ x)⟩
end
def IteT (K : PySem.W.Frag) (a : Addr) : It :=
  ⟨fun i H => ∃ (xs : List V) (x : V), SqT K H a xs ∧ xs[i]? = some x, fun i H v H' => ∃ T x, v = .ref T ∧ H T = none ∧ H' = upd H T (.tup [.int (i : Nat), x]) ∧ ∀ xs, SqT K H a xs → xs[i]? = some x, fun i H => ∃ xs : List V, SqT K H a xs ∧ xs.length ≤ i⟩
theorem turn_enumT {P : Program} {w : World} {K : PySem.W.Frag} {elts : List Expr} {kk : Nat} {tpos : Pos} (a e it : Addr) (hai : a ≠ it) (hae : a ≠ e) :
    Turn P w K (.Tuple elts kk tpos) (IteT K a) [e, it] e (fun i h => (∃ old, IsEnum h e it ((i : Nat) : Int) old) ∧ h.IsTupleIter it a i ∧ e ≠ it) where
  mem := by simp
  obj := fun i h st b hb => by
    obtain ⟨⟨old, he⟩, ⟨o, ho, hc, hd⟩, _⟩ := st
    have e' : b = e ∨ b = it := by simpa using hb
    rcases e' with z | z
    · rw [z]; exact ⟨_, he, fun v q => nomatch q⟩
    · rw [z]; exact ⟨o, ho, fun v q => by rw [hd] at q; cases q⟩
  keep := fun i h h' st k => let ⟨⟨old, he⟩, hi, hne⟩ := st; ⟨⟨old, k e (by simp) _ he⟩, hi.at fun o q => k it (by simp) o q, hne⟩
  item := by
    intro X hP hw hK hc i pins s σ H E I hf st hg
    subst hP hw hK
    obtain ⟨⟨old, he⟩, hit, hne⟩ := st
    obtain ⟨xs, x, hq, hx⟩ := hg
    obtain ⟨its, rv, p, hz⟩ := I.tuple hq
    obtain ⟨u, hu, ru⟩ := rv.get hx
    have hel : e < s.heap.objs.size := Heap.lt_size he
    have hil : it < s.heap.objs.size := by obtain ⟨_, q, _⟩ := hit; exact Heap.lt_size q
    have hp : s.heap.IsTuple a its.toArray := p
    have hlt : i < its.toArray.size := by
      have := (List.getElem?_eq_some_iff.mp hu).1
      simpa using this
    refine wpAny_pyNext_enum_itemD (Draws.tuple (A := X.A.in1) (I.ok.hd hc) it a hai its.toArray) he ⟨hit, hp⟩ hlt hne (by simp [hne, Ne.symm hae]) fun x' h' tk hxe ho hit' hT hsz hk => ?_
    have exu : x' = u := by
      have h1 : its.toArray[i]? = some x' := hxe
      have h2 : its.toArray[i]? = some u := by simpa using hu
      rw [h2] at h1
      exact (Option.some.inj h1).symm
    subst exu
    refine ⟨_, rfl, wpAny_letOwnedTupleGo_enum (s := { s with heap := h', toks := tk + 1 }) ho fun h'' he' sb => ?_⟩
    have hT2 : h''.get? s.heap.objs.size = some { cls := .type "tuple", data := .seq #[.int i tk, x'] } := (sb.2 _ (Nat.ne_of_gt hel)).trans hT
    have new : ObjOk X.prog X.w (upd H s.heap.objs.size (.tup [.int (i : Nat), x])) h'' s.heap.objs.size (.tup [.int (i : Nat), x]) :=
      ⟨by show 2 ≤ sizeLine; decide, [.int i tk, x'], .cons ⟨_, rfl⟩ (.cons ru .nil), ⟨_, hT2, rfl, _, rfl⟩⟩
    have I1 : Inv X pins σ (upd H s.heap.objs.size (.tup [.int (i : Nat), x])) { s with heap := h'', toks := tk + 1 } :=
      I.turnedNew (ch := [e, it]) (fun b ob hb q => (sb.2 b (fun z => hb (by simp [z]))).trans (hk b ob (fun z => hb (by simp [z])) (fun z => hb (by simp [z])) q)) hf (Nat.le_refl _) new
    refine ⟨.ref s.heap.objs.size, _, I1, rfl, ⟨_, x, rfl, I.hok.fresh (Nat.le_refl _), rfl, fun ys hy => by rw [I.tuple_inj hy hq]; exact hx⟩, ⟨⟨x', ?_⟩, hit'.1.at fun o q => (sb.2 it (Ne.symm hne)).trans q, hne⟩, fun b hb => ?_⟩
    · have e1 : ((i + 1 : Nat) : Int) = (i : Int) + 1 := by omega
      rw [e1]; exact he'
    · have hb' : b < s.heap.objs.size := by
        have e' : b = e ∨ b = it := by simpa using hb
        rcases e' with z | z
        · rw [z]; exact hel
        · rw [z]; exact hil
      rw [upd_ne (Nat.ne_of_lt hb')]
      exact (hf b hb).1
  done := by
    intro X hP hw hK hc i pins s σ H E I hf st hg
    subst hP hw hK
    obtain ⟨⟨old, he⟩, hit, hne⟩ := st
    obtain ⟨xs, hq, hx⟩ := hg
    obtain ⟨its, rv, p, hz⟩ := I.tuple hq
    obtain ⟨f0, f1, f2, f3, f4, f5⟩ := hf it (by simp)
    have hl := rv.length
    have hT : s.TypeIs (.ref e) "enumerate" := ⟨_, he, rfl⟩
    unfold pyNext
    refine wpAny_bind (wpAny_attempt (wpAny_callSpecial?_slot (name := Str.ofString "__next__") hT F.slot_enumerate_next
      (wpAny_call_entry F.slot_enumerate_next hT F.entry_enumerate_next ?_ (F.args_enumerate_next_1 _))))
    show wpAny _ _ (field (.ref e) 2 >>= _) _ _ _
    refine wpAny_bind (wpAny_field he rfl (x := .ref it) rfl ?_)
    refine wpAny_bind (wpAny_nextOf_tuple_end (A := X.A.in1) (I.ok.hd hc) hit (show s.heap.IsTuple a its.toArray from p) (by simp; omega) fun h' x he' hx' => ?_)
    obtain ⟨o, ho, hc'⟩ := hx'
    refine wpAny_bind (wpAny_isInstance (T := "StopIteration") (b := true) ⟨o, ho, hc'⟩ isSubtype_stop ?_)
    exact wpAny_pure ⟨rfl, I.turned (t' := s.toks) (fun b o hb q => he' b o hb q) f0 f1 f3 f4 f5⟩
  self := fun A i s Q E st h => let ⟨⟨_, he⟩, _⟩ := st; wpAny_pyIter_enum he h
def iEnumT (K : PySem.W.Frag) (ta : TA) : TI := fun σ H R => ta σ H fun vs H1 => ∃ a xs, vs = [.ref a] ∧ SqT K H1 a xs ∧ R (IteT K a) H1
theorem pi_enumT {X : Cx} {e : Expr} {ta : TA} {p pos tpos : Pos} {elts : List Expr} {kk : Nat} (hg : Gl X "enumerate") (hm : X.mg "enumerate" = none) (ha : PA X [e] ta) (hs : starEach [e] X.env = [(false, eval e X.env)] := by rfl) :
    PI X (.Tuple elts kk tpos) (.Call (.Name "enumerate" p) [e] [] pos) (iEnumT X.K ta) := by
  refine ⟨fun pins s σ H R I h => ?_⟩
  refine Call_ (ld_blt I hg hm boot_enumerate (PyProof.Rows.callWith_type1 (thn (ha.run pos pins s σ H _ I h) fun us s1 ⟨vs, H1, I1, r1, q1⟩ => ?_) hs rfl))
  obtain ⟨a, xs, ex, hq, q⟩ := q1
  subst ex
  cases r1 with
  | cons r rr =>
    cases rr
    cases r
    obtain ⟨its, rv, p', hz⟩ := I1.tuple hq
    have hal : a < s1.heap.objs.size := p'.lt
    refine call_enumerate_tuple (show s1.heap.IsTuple a its.toArray from p') fun h' he hit hsz hk => wpAny_pyIter_enum he ?_
    have I2 : Inv X pins σ H1 { s1 with heap := h' } := I1.kept (t' := s1.toks) hk
    refine ⟨s1.heap.objs.size + 1, [s1.heap.objs.size + 1, s1.heap.objs.size], _, _, H1, rfl, I2, turn_enumT a (s1.heap.objs.size + 1) s1.heap.objs.size (Nat.ne_of_lt hal) (Nat.ne_of_lt (Nat.lt_succ_of_lt hal)), ⟨⟨.none, he⟩, hit, Nat.succ_ne_self _⟩, fun b hb => ?_, q⟩
    have e' : b = s1.heap.objs.size + 1 ∨ b = s1.heap.objs.size := by simpa using hb
    have hle : s1.heap.objs.size ≤ b := by
      rcases e' with z | z
      · rw [z]; exact Nat.le_add_right _ _
      · rw [z]; exact Nat.le_refl _
    exact I1.fpOk hle (I1.hok.fresh hle)
end CW
namespace CW
open PySem PySem.Spec PyProof.Rows L2

section
variable {X : Cx} {W : WX} {O O1 : List OK} {P : OX} {ro : Bool} {st : Stmt} {sts : List Stmt} {f g : Env → Fl} {e c : Expr} {es : List Expr} {pos : Pos} {ev ew : Env → Out D} {t : Env → Out Bool}
theorem setsS_ok {K : PySem.W.Frag} {F0 H0 F H : Hp} : ∀ {is : List Nat} {us : List V} {ds : List D} {O : List OK} {σ : St} {ρ : Env}, Rep K F0 H0 O F H σ ρ → DRs K F us ds → (∀ i ∈ is, kd O i = .fz) → Rep K F0 H0 O F H (setsS σ (is.zip us)) (setsE ρ (is.zip ds))
  | [], us, ds, O, σ, ρ, r, h, hk => by simpa [setsS, setsE] using r
  | i :: is, [], ds, O, σ, ρ, r, h, hk => by cases h; simpa [setsS, setsE] using r
  | i :: is, u :: us, ds, O, σ, ρ, r, h, hk => by
    cases h with
    | cons h1 h2 =>
      rename_i d ds
      have r1 := r.set i h1
      have e : O.set i .fz = O := by
        by_cases hi : i < O.length
        · have := hk i List.mem_cons_self
          unfold kd at this
          rw [List.getD_eq_getElem?_getD, List.getElem?_eq_getElem hi] at this
          exact List.ext_getElem (by simp) fun j h1 h2 => by
            rw [List.getElem_set]
            split
            · rename_i hij; subst hij; exact this.symm
            · rfl
        · rw [List.set_eq_of_length_le (by omega)]
      rw [e] at r1
      show Rep K F0 H0 O F H (setsS (σ.set i (some u)) (is.zip us)) (setsE (ρ.set i (some d)) (is.zip ds))
      exact setsS_ok r1 h2 fun j hj => hk j (List.mem_cons_of_mem _ hj)
theorem setsS_rf {K : PySem.W.Frag} {F H : Hp} : ∀ {is : List Nat} {us : List V} {ds : List D} {σ : St} {ρ : Env}, RF K F H σ ρ → DRs K F us ds → RF K F H (setsS σ (is.zip us)) (setsE ρ (is.zip ds))
  | [], us, ds, σ, ρ, r, h => by simpa [setsS, setsE] using r
  | i :: is, [], ds, σ, ρ, r, h => by cases h; simpa [setsS, setsE] using r
  | i :: is, u :: us, ds, σ, ρ, r, h => by
    cases h with
    | cons h1 h2 =>
      rename_i d ds
      refine setsS_rf (σ := σ.set i (some u)) (ρ := ρ.set i (some d)) ⟨r.1, by rw [List.length_set, List.length_set]; exact r.2.1, fun j x hj => ?_⟩ h2
      by_cases hji : j = i
      · subst hji
        by_cases hl : j < ρ.length
        · rw [List.getElem?_set_self hl] at hj
          cases hj
          exact ⟨u, by rw [List.getElem?_set_self (by rw [r.2.1]; exact hl)], h1⟩
        · rw [List.getElem?_eq_none (by rw [List.length_set]; omega)] at hj; cases hj
      · rw [List.getElem?_set_ne (Ne.symm hji)] at hj
        obtain ⟨w, a, b⟩ := r.2.2 j x hj
        exact ⟨w, by rw [List.getElem?_set_ne (Ne.symm hji)]; exact a, b⟩
inductive Nms (X : Cx) : List Expr → List Nat → Prop
  | nil : Nms X [] []
  | cons {i : Nat} {x : Str} {p : Pos} {es : List Expr} {is : List Nat} (hi : X.N[i]? = some x) (hL : Loc X.env.scope x) (hf : X.fn x = true ∨ X.env.scope.names.lookup x = some .local)
      (hs : (assignEach (.Name x p :: es) X.env).map (·.2) = assign (.Name x p) X.env :: (assignEach es X.env).map (·.2)) (r : Nms X es is) : Nms X (.Name x p :: es) (i :: is)
theorem nm_cons (i : Nat) {x : Str} {p : Pos} {es : List Expr} {is : List Nat} (r : Nms X es is) (hi : X.N[i]? = some x := by rfl) (hL : Loc X.env.scope x := by first | exact Or.inl rfl | exact Or.inr rfl) (hf : X.fn x = true ∨ X.env.scope.names.lookup x = some .local := by first | exact .inl rfl | exact .inr rfl)
    (hs : (assignEach (.Name x p :: es) X.env).map (·.2) = assign (.Name x p) X.env :: (assignEach es X.env).map (·.2) := by rfl) : Nms X (.Name x p :: es) (i :: is) := .cons hi hL hf hs r
def gNs : List Nat → TGs := fun is vs σ H Q => vs.length = is.length ∧ Q (setsS σ (is.zip vs)) H
theorem Nms.pgs (hN : X.N.Nodup) : ∀ {es : List Expr} {is : List Nat}, Nms X es is → PGs X es (gNs is)
  | _, _, .nil => ⟨fun pins s σ H vs us Q I r h => pgs_nil.run pins s σ H vs us Q I r ⟨List.length_eq_zero_iff.mp h.1, by have e := List.length_eq_zero_iff.mp h.1; subst e; exact h.2⟩⟩
  | _, _, .cons (i := i) hi hL hf hs r => ⟨fun pins s σ H vs us Q I rr h => (pgs_cons (pg_name hN hi hL hf) (Nms.pgs hN r) hs).run pins s σ H vs us Q I rr (by
      cases vs with
      | nil => exact absurd h.1 (by simp)
      | cons v vs => exact ⟨v, vs, rfl, by simpa using h.1, h.2⟩)⟩
theorem sg_tup {k : Nat} {is : List Nat} {n : Nat} (hN : X.N.Nodup) (hc : X.calm = true) (h : Nms X es is) (hn : (assignEach es X.env).length = n := by rfl) (hst : (assignEach es X.env).findIdx? (·.1) = none := by rfl) (hl : is.length = n := by rfl) : SG X (.Tuple es k pos) is (gT n) :=
  ⟨fun pins s σ H v u Q I r hw => (pg_tup hc (h.pgs hN) hn hst).run pins s σ H v u Q I r (by
    obtain ⟨F, d, ds, hs, hd, ha, q⟩ := hw
    cases hd with
    | @tup a xs ds' h1 h2 =>
      have ha' : (if ds'.length = n then some ds' else none) = some ds := ha
      split at ha'
      · rename_i hz
        cases ha'
        exact ⟨a, xs, rfl, (Sub.of_same hs).sqP h1, by rw [h2.length]; exact hz, by rw [h2.length, hl]; exact hz, q xs h2⟩
      · cases ha'
    | _ => cases ha)⟩
def allFz (O : List OK) (is : List Nat) : Bool := is.all fun i => decide (kd O i = .fz)
theorem allFz_get {O : List OK} {is : List Nat} (h : allFz O is = true) : ∀ i ∈ is, kd O i = .fz := fun i hi => by
  unfold allFz at h
  rw [List.all_eq_true] at h
  simpa using h i hi
def fAsgT (O : List OK) (is : List Nat) (asg : D → Option (List D)) (ev : Env → Out D) : Env → Fl := fun ρ => fE (ev (hide O ρ)) ρ fun d => match asg d with
  | some ds => .nx (setsE ρ (is.zip ds))
  | none => .stuck
theorem ss_asgT {tg : Expr} {is : List Nat} {asg : D → Option (List D)} (hg : SG X tg is asg) (he : SE X W e ev) (hk : allFz O is = true := by rfl) (hl : leB O P.nx = true := by rfl) (hx : leB O P.ex = true := by rfl)
    (hs : swapsWithSole [tg] e pos.line X.env = pure false := by rfl) (hw : swappedStores [tg] e X.env = pure none := by rfl) (h1 : (assignEach [tg] X.env).map (·.2) = [assign tg X.env] := by rfl) : SS X W O P ro (.Assign [tg] e pos) (fAsgT O is asg ev) :=
  .of (ps_asg he hg hs hw h1) fun F0 H0 F H σ ρ T r q => by
  refine ⟨F, hide O ρ, r.hid, ?_⟩
  unfold fAsgT at q
  refine r.post (fun z => by rw [z] at q; exact q.elim) (fun d v F' H' eo e' r' rd => ?_) (fun x c dd F' H' eo r' hx' => ?_)
  · rw [eo, fE_ok] at q
    cases ha : asg d with
    | none => rw [ha] at q; exact q.elim
    | some ds =>
      rw [ha] at q
      exact ⟨F', d, ds, e'.fh, rd, ha, fun us hu => PostS.nxt q (setsS_ok r' hu (allFz_get hk)) hl⟩
  · rw [eo] at q
    exact PostS.exc q r' hx hx'
def fAsgTB (is : List Nat) (asg : D → Option (List D)) (ev : Env → Out D) : Env → Fl := fun ρ => fE (lfO (ev ρ)) ρ fun d => match asg d with
  | some ds => .nx (setsE ρ (is.zip ds))
  | none => .stuck
def ItOk (K : PySem.W.Frag) (F : Hp) (J : It) (ds : List D) : Prop := ∀ (i : Nat) (Fi H : Hp), Same F Fi → Same Fi H →
  (∀ d, ds[i]? = some d → J.go i H ∧ ∀ x H', J.yld i H x H' → ∃ Fx, Ext Fi H Fx H' ∧ DR K Fx x d) ∧ (i = ds.length → J.stop i H)
def PostI (K : PySem.W.Frag) (mg : Str → Option Value) (W : WX) (F H : Hp) (σ : St) (R : It → Hp → Prop) : Out (List D) → Prop
  | .ok ds => ∀ J F' H', Ext F H F' H' → ItOk K F' J ds → R J H'
  | .exc x => ∀ c dd F' H', Ext F H F' H' → ExR mg K F' x c dd → W c dd σ H'
  | .stuck => False
def dI (K : PySem.W.Frag) (mg : Str → Option Value) (W : WX) (ev : Env → Out (List D)) : TI := fun σ H R => ∃ F ρ, RF K F H σ ρ ∧ PostI K mg W F H σ R (ev ρ)
def SI (X : Cx) (W : WX) (tg e : Expr) (ev : Env → Out (List D)) : Prop := PI X tg e (dI X.K X.mg W ev)
variable {tg : Expr}
theorem SI.of {r : TI} {ei : Env → Out (List D)} (h : PI X tg e r) (hs : ∀ F H σ ρ R, RF X.K F H σ ρ → PostI X.K X.mg W F H σ R (ei ρ) → r σ H R) : SI X W tg e ei :=
  ⟨fun pins s σ H R I ⟨F, ρ, h1, h2⟩ => h.run pins s σ H R I (hs F H σ ρ R h1 h2)⟩
theorem PI.or {r r' : TI} (h : PI X tg e r) (h' : PI X tg e r') : PI X tg e fun σ H R => r σ H R ∨ r' σ H R :=
  ⟨fun pins s σ H R I q => q.elim (h.run pins s σ H R I) (h'.run pins s σ H R I)⟩
theorem PostI.bind {γ δ : Type} {K : PySem.W.Frag} {mg : Str → Option Value} {R' : Hp → δ → γ → Prop} {F H : Hp} {σ : St} {R : It → Hp → Prop} {Q' : δ → Hp → Prop} {o : Out γ} {k : γ → Out (List D)}
    (h : PostI K mg W F H σ R (o.bind k)) (hk : ∀ d v F1 H1, o = .ok d → Ext F H F1 H1 → R' F1 v d → PostI K mg W F1 H1 σ R (k d) → Q' v H1) : Post K mg R' W F H σ Q' o := by
  cases o with
  | ok d =>
    intro v F1 H1 e r
    refine hk d v F1 H1 rfl e r ?_
    have h' : PostI K mg W F H σ R (k d) := h
    revert h'
    cases k d with
    | ok ds => exact fun h J F' H' e' => h J F' H' (e.trans e')
    | exc x => exact fun h c dd F' H' e' r => h c dd F' H' (e.trans e') r
    | stuck => exact id
  | exc x => exact h
  | stuck => exact h
def iSeq : D → Out (List D)
  | .lst ds => .ok ds
  | .tup ds => .ok ds
  | .scr ns => .ok (ns.map D.int)
  | .str z => .ok (z.cps.toList.map fun c => .str ⟨#[c]⟩)
  | _ => .stuck
def eI (ea : Env → Out D) : Env → Out (List D) := fun ρ => (ea ρ).bind iSeq
theorem itOk_list {K : PySem.W.Frag} {F : Hp} {a : Addr} {vs : List V} {ds : List D} (h : SqL K F a vs) (r : DRs K F vs ds) : ItOk K F (Itl K a) ds := fun i Fi H s1 s2 => by
  have hH := (Sub.of_same (s1.trans s2)).sqL h
  refine ⟨fun d hd => ?_, fun hi => ⟨vs, hH, by rw [r.length, hi]; exact Nat.le_refl _⟩⟩
  obtain ⟨v, hv, rv⟩ := r.get hd
  refine ⟨⟨vs, v, hH, hv⟩, fun x H' hy => ?_⟩
  obtain ⟨rfl, hx⟩ := hy
  have := hx vs hH
  rw [hv] at this
  cases this
  exact ⟨Fi, .refl s2, rv.mono (Sub.of_same s1)⟩
theorem itOk_tup {K : PySem.W.Frag} {F : Hp} {a : Addr} {vs : List V} {ds : List D} (h : SqT K F a vs) (r : DRs K F vs ds) : ItOk K F (Itt K a) ds := fun i Fi H s1 s2 => by
  have hH := (Sub.of_same (s1.trans s2)).sqT h
  refine ⟨fun d hd => ?_, fun hi => ⟨vs, hH, by rw [r.length, hi]; exact Nat.le_refl _⟩⟩
  obtain ⟨v, hv, rv⟩ := r.get hd
  refine ⟨⟨vs, v, hH, hv⟩, fun x H' hy => ?_⟩
  obtain ⟨rfl, hx⟩ := hy
  have := hx vs hH
  rw [hv] at this
  cases this
  exact ⟨Fi, .refl s2, rv.mono (Sub.of_same s1)⟩
theorem si_seq (he : SE X W e ev) : SI X W tg e (eI ev) := by
  refine .of (PI.or (pi_list he) (PI.or (pi_tup he) (pi_str he))) fun F H σ ρ R h1 h2 => ?_
  have key : ∀ d, ev ρ = .ok d → PostI X.K X.mg W F H σ R (iSeq d) := fun d hd => by
    unfold eI at h2; rw [hd] at h2; exact h2
  cases hd : ev ρ with
  | ok d =>
    have k := key d hd
    cases d with
    | lst ds => exact .inl ⟨F, ρ, h1, PostI.bind (R' := DR X.K) h2 fun d' v F1 H1 ed e1 r1 q1 => by
        rw [hd] at ed; cases ed
        cases r1 with
        | @lst p vs ds g1 g2 => exact ⟨p, rfl, ⟨vs, .inl (rd_of e1.fh g1)⟩, q1 _ F1 H1 (.refl e1.fh) (itOk_list (.inl g1) g2)⟩⟩
    | scr ns => exact .inl ⟨F, ρ, h1, PostI.bind (R' := DR X.K) h2 fun d' v F1 H1 ed e1 r1 q1 => by
        rw [hd] at ed; cases ed
        cases r1 with
        | @scr p ns g1 => exact ⟨p, rfl, ⟨_, (Sub.of_same e1.fh).sqL g1⟩, q1 _ F1 H1 (.refl e1.fh) (itOk_list g1 (DRs.ints _))⟩⟩
    | tup ds => exact .inr (.inl ⟨F, ρ, h1, PostI.bind (R' := DR X.K) h2 fun d' v F1 H1 ed e1 r1 q1 => by
        rw [hd] at ed; cases ed
        cases r1 with
        | @tup p vs ds g1 g2 => exact ⟨p, rfl, ⟨vs, (Sub.of_same e1.fh).sqP g1⟩, q1 _ F1 H1 (.refl e1.fh) (itOk_tup (.inl (.inl g1)) g2)⟩⟩)
    | str z => exact .inr (.inr ⟨F, ρ, h1, PostI.bind (R' := DR X.K) h2 fun d' v F1 H1 ed e1 r1 q1 => by
        rw [hd] at ed; cases ed
        cases r1
        refine ⟨z, rfl, q1 _ F1 H1 (.refl e1.fh) fun i Fi H s1 s2 => ⟨fun d hd => ?_, fun hi => ?_⟩⟩
        · rw [List.getElem?_map] at hd
          cases hc : z.cps.toList[i]? with
          | none => rw [hc] at hd; cases hd
          | some c =>
            rw [hc] at hd
            cases hd
            have hc' : z.cps[i]? = some c := by rw [← hc]; simp
            refine ⟨(Array.getElem?_eq_some_iff.mp hc').1, fun x H' hy => ?_⟩
            obtain ⟨rfl, c', h1, rfl⟩ := hy
            rw [hc'] at h1
            cases h1
            exact ⟨Fi, .refl s2, .str _⟩
        · show z.cps.size ≤ i
          rw [hi]; simp⟩)
    | _ => exact False.elim k
  | exc x => exact .inl ⟨F, ρ, h1, PostI.bind (R' := DR X.K) h2 fun d' v F1 H1 ed => by rw [hd] at ed; cases ed⟩
  | stuck => unfold eI at h2; rw [hd] at h2; exact h2.elim
def rngL (lo hi : Int) : List D := (List.range (hi - lo).toNat).map fun (k : Nat) => .int (lo + (k : Int))
def iRg1 (ea : Env → Out (List D)) : Env → Out (List D) := fun ρ => (ea ρ).bind fun ds => match ds with
  | [.int n] => if -(2 ^ 62) ≤ n ∧ n < 2 ^ 62 then .ok (rngL 0 n) else .stuck
  | _ => .stuck
def iRg2 (ea : Env → Out (List D)) : Env → Out (List D) := fun ρ => (ea ρ).bind fun ds => match ds with
  | [.int m, .int n] => if -(2 ^ 62) ≤ m ∧ m < 2 ^ 62 ∧ -(2 ^ 62) ≤ n ∧ n < 2 ^ 62 then .ok (rngL m n) else .stuck
  | _ => .stuck
theorem itOk_rng {K : PySem.W.Frag} {F : Hp} (lo hi : Int) : ItOk K F (Itr lo (hi - lo).toNat) (rngL lo hi) := fun i Fi H s1 s2 => by
  refine ⟨fun d hd => ?_, fun hi => ?_⟩
  · unfold rngL at hd
    rw [List.getElem?_map] at hd
    by_cases h : i < (hi - lo).toNat
    · rw [List.getElem?_eq_getElem (by simpa using h)] at hd
      simp at hd
      subst hd
      refine ⟨h, fun x H' hy => ?_⟩
      obtain ⟨rfl, rfl⟩ := hy
      exact ⟨Fi, .refl s2, .int _⟩
    · rw [List.getElem?_eq_none (by simpa using h)] at hd
      cases hd
  · unfold rngL at hi
    rw [hi]
    show _ ≤ _
    simp
theorem si_rng1 {a : Expr} {p : Pos} {ea : Env → Out (List D)} (hm : X.mg "range" = none) (ha : SA X W [a] ea) (hg : Gl X "range" := by rfl) (hs : starEach [a] X.env = [(false, eval a X.env)] := by rfl) : SI X W tg (.Call (.Name "range" p) [a] [] pos) (iRg1 ea) :=
  .of (pi_range1 hg hm ha hs) fun F H σ ρ R h1 h2 => ⟨F, ρ, h1, PostI.bind h2 fun ds vs F1 H1 ed e1 r1 q1 => by
    split at q1
    · rename_i n
      obtain ⟨v, rfl, r2⟩ := one_of r1
      cases r2
      split at q1
      · rename_i hb
        refine ⟨n, rfl, hb.1, hb.2, q1 _ F1 H1 (.refl e1.fh) ?_⟩
        have := itOk_rng (K := X.K) (F := F1) 0 n
        rwa [Int.sub_zero] at this
      · exact q1.elim
    · exact q1.elim⟩
def enumL (ds : List D) : List D := ds.zipIdx.map fun p => .tup [.int (p.2 : Int), p.1]
def enumD : List D → Out (List D)
  | [.lst es] => .ok (enumL es)
  | [.tup es] => .ok (enumL es)
  | _ => .stuck
def iEn (ea : Env → Out (List D)) : Env → Out (List D) := fun ρ => (ea ρ).bind enumD
theorem enumL_get {ds : List D} {i : Nat} {d : D} (h : (enumL ds)[i]? = some d) : ∃ x, ds[i]? = some x ∧ d = .tup [.int (i : Int), x] := by
  unfold enumL at h
  rw [List.getElem?_map, List.getElem?_zipIdx] at h
  cases e : ds[i]? with
  | none => rw [e] at h; cases h
  | some x =>
    rw [e] at h
    refine ⟨x, rfl, ?_⟩
    simp at h
    exact h.symm
theorem enumL_len (ds : List D) : (enumL ds).length = ds.length := by simp [enumL]
theorem ext_tup {F H : Hp} {T : Addr} {xs : List V} (s : Same F H) (n : H T = none) : Ext F H (upd F T (.tup xs)) (upd H T (.tup xs)) := .put s n
theorem itOk_enum {K : PySem.W.Frag} {F : Hp} {a : Addr} {vs : List V} {ds : List D} (h : SqL K F a vs) (r : DRs K F vs ds) : ItOk K F (Ite K a) (enumL ds) := fun i Fi H s1 s2 => by
  have hH := (Sub.of_same (s1.trans s2)).sqL h
  refine ⟨fun d hd => ?_, fun hi => ⟨vs, hH, by rw [r.length, hi, enumL_len]; exact Nat.le_refl _⟩⟩
  obtain ⟨x, hx, rfl⟩ := enumL_get hd
  obtain ⟨v, hv, rv⟩ := r.get hx
  refine ⟨⟨vs, v, hH, hv⟩, fun y H' hy => ?_⟩
  obtain ⟨T, x', rfl, nT, rfl, hx'⟩ := hy
  have := hx' vs hH
  rw [hv] at this
  cases this
  have nF := s2.free nT
  refine ⟨_, ext_tup s2 nT, .tup upd_same (.cons (.int _) (.one ((rv.mono (Sub.of_same s1)).mono (Sub.of_same (same_new nF)))))⟩
theorem itOk_enumT {K : PySem.W.Frag} {F : Hp} {a : Addr} {vs : List V} {ds : List D} (h : SqT K F a vs) (r : DRs K F vs ds) : ItOk K F (IteT K a) (enumL ds) := fun i Fi H s1 s2 => by
  have hH := (Sub.of_same (s1.trans s2)).sqT h
  refine ⟨fun d hd => ?_, fun hi => ⟨vs, hH, by rw [r.length, hi, enumL_len]; exact Nat.le_refl _⟩⟩
  obtain ⟨x, hx, rfl⟩ := enumL_get hd
  obtain ⟨v, hv, rv⟩ := r.get hx
  refine ⟨⟨vs, v, hH, hv⟩, fun y H' hy => ?_⟩
  obtain ⟨T, x', rfl, nT, rfl, hx'⟩ := hy
  have := hx' vs hH
  rw [hv] at this
  cases this
  have nF := s2.free nT
  refine ⟨_, ext_tup s2 nT, .tup upd_same (.cons (.int _) (.one ((rv.mono (Sub.of_same s1)).mono (Sub.of_same (same_new nF)))))⟩
theorem si_enum {a : Expr} {p tpos : Pos} {kk : Nat} {elts : List Expr} {ea : Env → Out (List D)} (hm : X.mg "enumerate" = none) (ha : SA X W [a] ea) (hg : Gl X "enumerate" := by rfl) (hs : starEach [a] X.env = [(false, eval a X.env)] := by rfl) :
    SI X W (.Tuple elts kk tpos) (.Call (.Name "enumerate" p) [a] [] pos) (iEn ea) := by
  refine .of (PI.or (pi_enum hg hm ha hs) (pi_enumT hg hm ha hs)) fun F H σ ρ R h1 h2 => ?_
  unfold iEn at h2
  cases hd : ea ρ with
  | ok ds =>
    have h3 := h2
    rw [hd] at h3
    have k : PostI X.K X.mg W F H σ R (enumD ds) := h3
    unfold enumD at k
    split at k
    · rename_i es
      exact .inl ⟨F, ρ, h1, PostI.bind (R' := DRs X.K) h2 fun d' v F1 H1 ed e1 r1 q1 => by
        rw [hd] at ed; cases ed
        obtain ⟨v, rfl, r2⟩ := one_of r1
        cases r2 with
        | @lst p vs ds g1 g2 => exact ⟨p, vs, rfl, .inl (rd_of e1.fh g1), q1 _ F1 H1 (.refl e1.fh) (itOk_enum (.inl g1) g2)⟩⟩
    · rename_i es
      exact .inr ⟨F, ρ, h1, PostI.bind (R' := DRs X.K) h2 fun d' v F1 H1 ed e1 r1 q1 => by
        rw [hd] at ed; cases ed
        obtain ⟨v, rfl, r2⟩ := one_of r1
        cases r2 with
        | @tup p vs ds g1 g2 => exact ⟨p, vs, rfl, (Sub.of_same e1.fh).sqP g1, q1 _ F1 H1 (.refl e1.fh) (itOk_enumT (.inl (.inl g1)) g2)⟩⟩
    · exact k.elim
  | exc x => exact .inl ⟨F, ρ, h1, PostI.bind (R' := DRs X.K) h2 fun d' v F1 H1 ed => by rw [hd] at ed; cases ed⟩
  | stuck => rw [hd] at h2; exact h2.elim
def zipL : List D → List D → List D
  | x :: xs, y :: ys => .tup [x, y] :: zipL xs ys
  | _, _ => []
theorem zipL_get : ∀ {xs ys : List D} {i : Nat} {d : D}, (zipL xs ys)[i]? = some d → ∃ x y, xs[i]? = some x ∧ ys[i]? = some y ∧ d = .tup [x, y]
  | [], _, _, _, h => by simp [zipL] at h
  | _ :: _, [], _, _, h => by simp [zipL] at h
  | x :: xs, y :: ys, 0, d, h => ⟨x, y, rfl, rfl, by simpa [zipL] using h.symm⟩
  | x :: xs, y :: ys, i + 1, d, h => by
    obtain ⟨a, b, h1, h2, h3⟩ := zipL_get (xs := xs) (ys := ys) (i := i) (by simpa [zipL] using h)
    exact ⟨a, b, by simpa using h1, by simpa using h2, h3⟩
theorem zipL_len : ∀ (xs ys : List D), (zipL xs ys).length = min xs.length ys.length
  | [], ys => by simp [zipL]
  | _ :: _, [] => by simp [zipL]
  | x :: xs, y :: ys => by
    have := zipL_len xs ys
    simp only [zipL, List.length_cons, this]
    omega
def iZp (ea : Env → Out (List D)) : Env → Out (List D) := fun ρ => (ea ρ).bind fun ds => match ds with
  | [.lst es, .lst fs] => .ok (zipL es fs)
  | _ => .stuck
theorem si_zip {a b : Expr} {p tpos : Pos} {kk : Nat} {elts : List Expr} {ea : Env → Out (List D)} (hm : X.mg "zip" = none) (ha : SA X W [a, b] ea) (hg : Gl X "zip" := by rfl)
    (hs : starEach [a, b] X.env = (false, eval a X.env) :: starEach [b] X.env := by rfl) (hpl : (backTo pos (starEach [b] X.env)).any (·.1) = false := by rfl) :
    SI X W (.Tuple elts kk tpos) (.Call (.Name "zip" p) [a, b] [] pos) (iZp ea) :=
  .of (pi_zip hg hm ha hs hpl) fun F H σ ρ R h1 h2 => ⟨F, ρ, h1, PostI.bind h2 fun ds vs F1 H1 ed e1 r1 q1 => by
    split at q1
    · obtain ⟨v, w, rfl, r2, r3⟩ := two_of r1
      cases r2 with
      | @lst p vs ds g1 g2 =>
        cases r3 with
        | @lst p' vs' ds' g1' g2' =>
          refine ⟨p, p', vs, vs', rfl, .inl (rd_of e1.fh g1), .inl (rd_of e1.fh g1'), q1 _ F1 H1 (.refl e1.fh) fun i Fi H s1 s2 => ?_⟩
          have hH : SqL X.K H p vs := .inl (rd_of (s1.trans s2) g1)
          have hH' : SqL X.K H p' vs' := .inl (rd_of (s1.trans s2) g1')
          refine ⟨fun d hd => ?_, fun hi => ⟨vs, vs', hH, hH', ?_⟩⟩
          · obtain ⟨x, y, hx, hy, rfl⟩ := zipL_get hd
            obtain ⟨v1, hv1, rv1⟩ := g2.get hx
            obtain ⟨v2, hv2, rv2⟩ := g2'.get hy
            refine ⟨⟨vs, vs', v1, v2, hH, hH', hv1, hv2⟩, fun z H' hz => ?_⟩
            obtain ⟨T, x', y', rfl, nT, rfl, k1, k2⟩ := hz
            have z1 := k1 vs hH
            have z2 := k2 vs' hH'
            rw [hv1] at z1
            rw [hv2] at z2
            cases z1
            cases z2
            have nF := s2.free nT
            have mn := fun {v : V} {d : D} (h : DR X.K F1 v d) => (h.mono (Sub.of_same s1)).mono (Sub.of_same (same_new (o := .tup [v1, v2]) nF))
            exact ⟨_, ext_tup s2 nT, .tup upd_same (.cons (mn rv1) (.one (mn rv2)))⟩
          · rw [g2.length, g2'.length]
            rw [zipL_len] at hi
            omega
    · exact q1.elim⟩
theorem Ext.rebase {F0 H0 F H F' H' : Hp} (a : Ext F0 H0 F H) (b : Ext F H0 F' H') : Ext F0 H0 F' H' := ⟨a.ff.trans b.ff, b.fh, b.hh, fun x h => by
  rcases b.new x h with h | h
  · exact a.new x h
  · exact .inr h, fun x o xs h => a.nf _ _ _ (b.nf _ _ _ h)⟩
theorem Rep.toBase {K : PySem.W.Frag} {F0 H0 F H F' H' : Hp} {σ : St} {ρ : Env} (a : Ext F0 H0 F H) (r : Rep K F H0 O F' H' σ ρ) : Rep K F0 H0 O F' H' σ ρ := ⟨a.rebase r.ext, r.len, r.sl⟩
theorem Rep.atBase {K : PySem.W.Frag} {F0 H0 F H : Hp} {σ : St} {ρ : Env} (r : Rep K F0 H0 O F H σ ρ) : Rep K F H0 O F H σ ρ := ⟨⟨Same.refl _, r.ext.fh, r.ext.hh, fun _ h => .inl h, fun _ _ _ h => h⟩, r.len, r.sl⟩

def forL (is : List Nat) (asg : D → Option (List D)) (b : Env → Fl) : List D → Env → Fl
  | [], ρ => .nx ρ
  | d :: r, ρ => match asg d with
    | none => .stuck
    | some ds => match b (setsE ρ (is.zip ds)) with
      | .nx ρ' => forL is asg b r ρ'
      | .ct ρ' => forL is asg b r ρ'
      | .bk ρ' => .nx ρ'
      | o => o
def fFor (O : List OK) (is : List Nat) (asg : D → Option (List D)) (ei : Env → Out (List D)) (b : Env → Fl) : Env → Fl := fun ρ => fE (ei (hide O ρ)) ρ fun ds => forL is asg b ds ρ
theorem ss_for {body : List Stmt} {is : List Nat} {asg : D → Option (List D)} {ei : Env → Out (List D)} {b : Env → Fl} (hp : PassesOwn (model X.prog X.w) X.A X.env X.xe) (hc : X.calm = true) (hi : SI X W tg e ei) (hg : SG X tg is asg)
    (hb : SB X W O { nx := O, bk := P.nx, ct := O, ex := P.ex } ro body b) (hk : allFz O is = true := by rfl) (hl : leB O P.nx = true := by rfl) (hx : leB O P.ex = true := by rfl) (hs : ∀ x, foldedSetIterable e X.env x = pure x := by intro _; rfl) :
    SS X W O P ro (.For tg e body [] pos) (fFor O is asg ei b) := .of (ps_for hp hc hi hg hb hs) fun F0 H0 F H σ ρ T r q => by
  refine ⟨F, hide O ρ, r.hid, ?_⟩
  unfold fFor at q
  cases e1 : ei (hide O ρ) with
  | stuck => rw [e1] at q; exact q.elim
  | exc x =>
    rw [e1] at q
    intro c dd F' H' e' hx'
    exact PostS.exc q (r.grow e') hx hx'
  | ok ds =>
    rw [e1, fE_ok] at q
    intro J Fl H1 e' hJ
    refine ⟨fun i m σ' H' => ∃ Fi ρi, i + m = ds.length ∧ Same Fl Fi ∧ Rep X.K F0 H0 O Fi H' σ' ρi ∧ PostS X.K X.mg W F0 H0 P ro T (forL is asg b (ds.drop i) ρi), ⟨ds.length, Fl, ρ, by omega, Same.refl _, r.grow e', q⟩, ?_⟩
    rintro i m σ' H' ⟨Fi, ρi, him, sF, ri, qi⟩
    obtain ⟨j1, j2⟩ := hJ i Fi H' sF ri.same
    by_cases hlt : i < ds.length
    · obtain ⟨go, yl⟩ := j1 ds[i] (List.getElem?_eq_getElem hlt)
      refine .inr ⟨go, fun σ2 H2 => ∃ F2 ρ2, Same Fl F2 ∧ Rep X.K F0 H0 O F2 H2 σ2 ρ2 ∧ PostS X.K X.mg W F0 H0 P ro T (forL is asg b (ds.drop (i + 1)) ρ2), ?_, fun x H2 hy => ?_⟩
      · rintro σ2 H2 ⟨F2, ρ2, s2, r2, q2⟩
        exact ⟨m - 1, by omega, F2, ρ2, by omega, s2, r2, q2⟩
      · obtain ⟨Fx, ex, rx⟩ := yl x H2 hy
        have hd : ds.drop i = ds[i] :: ds.drop (i + 1) := List.drop_eq_getElem_cons hlt
        rw [hd] at qi
        unfold forL at qi
        cases ha : asg ds[i] with
        | none => rw [ha] at qi; exact qi.elim
        | some as =>
          rw [ha] at qi
          refine ⟨Fx, ds[i], as, ex.fh, rx, ha, fun us hu => ?_⟩
          have rx2 := ri.grow ex
          refine ⟨Fx, H0, Fx, _, (setsS_ok rx2 hu (allFz_get hk)).atBase, ?_⟩
          have qi' : PostS X.K X.mg W F0 H0 P ro T (match b (setsE ρi (is.zip as)) with
            | .nx ρ' => forL is asg b (ds.drop (i + 1)) ρ'
            | .ct ρ' => forL is asg b (ds.drop (i + 1)) ρ'
            | .bk ρ' => .nx ρ'
            | o => o) := qi
          have sx : Same Fl Fx := sF.trans ex.ff
          cases hb' : b (setsE ρi (is.zip as)) with
          | nx ρ' => rw [hb'] at qi'; exact fun F3 H3 σ3 r3 => ⟨F3, ρ', sx.trans r3.ext.ff, r3.toBase rx2.ext, qi'⟩
          | ct ρ' => rw [hb'] at qi'; exact fun F3 H3 σ3 r3 => ⟨F3, ρ', sx.trans r3.ext.ff, r3.toBase rx2.ext, qi'⟩
          | bk ρ' => rw [hb'] at qi'; exact fun F3 H3 σ3 r3 => qi' F3 H3 σ3 (r3.toBase rx2.ext)
          | ret d => rw [hb'] at qi'; exact fun v F3 H3 e3 h3 => qi' v F3 H3 (rx2.ext.rebase e3) h3
          | exc x ρ' => rw [hb'] at qi'; exact fun c dd F3 H3 σ3 r3 h3 => qi' c dd F3 H3 σ3 (r3.toBase rx2.ext) h3
          | stuck => rw [hb'] at qi'; exact qi'
    · have hie : i = ds.length := by omega
      refine .inl ⟨j2 hie, ?_⟩
      rw [hie, List.drop_length] at qi
      exact PostS.nxt qi ri hl
end
end CW
namespace CW
open PySem PySem.Spec PyProof.Rows L2
def whN (t : Env → Out Bool) (b : Env → Fl) : Nat → Env → Fl
  | 0, _ => .stuck
  | n + 1, ρ => fE (t ρ) ρ fun c => match c with
    | true => match b ρ with
      | .nx ρ' => whN t b n ρ'
      | .ct ρ' => whN t b n ρ'
      | .bk ρ' => .nx ρ'
      | o => o
    | false => .nx ρ
theorem whN_succ (t : Env → Out Bool) (b : Env → Fl) (n : Nat) (ρ : Env) : whN t b (n + 1) ρ = fE (t ρ) ρ fun c => match c with
    | true => match b ρ with
      | .nx ρ' => whN t b n ρ'
      | .ct ρ' => whN t b n ρ'
      | .bk ρ' => .nx ρ'
      | o => o
    | false => .nx ρ := rfl
theorem whN_mono (t : Env → Out Bool) (b : Env → Fl) : ∀ (n : Nat) (ρ : Env), whN t b n ρ ≠ .stuck → whN t b (n + 1) ρ = whN t b n ρ
  | 0, ρ, h => absurd rfl h
  | n + 1, ρ, h => by
    rw [whN_succ] at h
    rw [whN_succ t b (n + 1), whN_succ t b n]
    cases ht : t ρ with
    | ok c =>
      rw [ht] at h
      cases c with
      | false => rfl
      | true =>
        simp only [fE_ok] at h ⊢
        cases hb : b ρ with
        | nx ρ' => rw [hb] at h; exact whN_mono t b n ρ' h
        | ct ρ' => rw [hb] at h; exact whN_mono t b n ρ' h
        | _ => rfl
    | _ => rfl
theorem whN_le {t : Env → Out Bool} {b : Env → Fl} {n : Nat} {ρ : Env} (h : whN t b n ρ ≠ .stuck) : ∀ m, whN t b (n + m) ρ = whN t b n ρ
  | 0 => rfl
  | m + 1 => by
    have ih := whN_le h m
    rw [← Nat.add_assoc, whN_mono t b (n + m) ρ (by rw [ih]; exact h), ih]
open Classical in
noncomputable def wh (t : Env → Out Bool) (b : Env → Fl) (ρ : Env) : Fl := if h : ∃ n, whN t b n ρ ≠ .stuck then whN t b h.choose ρ else .stuck
theorem wh_of {t : Env → Out Bool} {b : Env → Fl} {n : Nat} {ρ : Env} (h : whN t b n ρ ≠ .stuck) : wh t b ρ = whN t b n ρ := by
  have hx : ∃ n, whN t b n ρ ≠ .stuck := ⟨n, h⟩
  unfold wh
  rw [dif_pos hx]
  have hc := hx.choose_spec
  rcases Nat.le_total hx.choose n with hl | hl
  · obtain ⟨m, rfl⟩ := Nat.exists_eq_add_of_le hl
    exact (whN_le hc m).symm
  · obtain ⟨m, hm⟩ := Nat.exists_eq_add_of_le hl
    rw [hm] at hc ⊢
    exact whN_le h m
theorem wh_ex {t : Env → Out Bool} {b : Env → Fl} {ρ : Env} (h : wh t b ρ ≠ .stuck) : ∃ n, wh t b ρ = whN t b n ρ := by
  unfold wh at h ⊢
  split at h
  · rename_i hx; rw [dif_pos hx]; exact ⟨_, rfl⟩
  · exact absurd rfl h
theorem wh_eq (t : Env → Out Bool) (b : Env → Fl) (ρ : Env) : wh t b ρ = fE (t ρ) ρ fun c => match c with
    | true => match b ρ with
      | .nx ρ' => wh t b ρ'
      | .ct ρ' => wh t b ρ'
      | .bk ρ' => .nx ρ'
      | o => o
    | false => .nx ρ := by
  cases ht : t ρ with
  | exc x => rw [wh_of (n := 1) (by rw [whN, ht]; simp)]; rw [whN, ht]; rfl
  | stuck =>
    have : ∀ n, whN t b n ρ = .stuck := fun n => by cases n <;> simp [whN, ht]
    unfold wh
    rw [dif_neg (fun ⟨n, h⟩ => h (this n))]; rfl
  | ok c =>
    cases c with
    | false => rw [wh_of (n := 1) (by rw [whN, ht]; simp)]; rw [whN, ht]; rfl
    | true =>
      simp only [fE_ok]
      have key : ∀ ρ', (∀ n, whN t b (n + 1) ρ = whN t b n ρ') → wh t b ρ = wh t b ρ' := fun ρ' hk => by
        by_cases hx : ∃ n, whN t b n ρ' ≠ .stuck
        · obtain ⟨n, hn⟩ := hx
          rw [wh_of hn, wh_of (n := n + 1) (by rw [hk]; exact hn), hk]
        · have h1 : ¬ ∃ n, whN t b n ρ ≠ .stuck := fun ⟨n, hn⟩ => by
            cases n with
            | zero => exact hn rfl
            | succ n => rw [hk] at hn; exact hx ⟨n, hn⟩
          unfold wh
          rw [dif_neg hx, dif_neg h1]
      cases hb : b ρ with
      | nx ρ' => exact key ρ' fun n => by rw [whN, ht]; simp [hb]
      | ct ρ' => exact key ρ' fun n => by rw [whN, ht]; simp [hb]
      | bk ρ' => rw [wh_of (n := 1) (by rw [whN, ht]; simp [hb])]; rw [whN, ht]; simp [hb]
      | ret d => rw [wh_of (n := 1) (by rw [whN, ht]; simp [hb])]; rw [whN, ht]; simp [hb]
      | exc x d => rw [wh_of (n := 1) (by rw [whN, ht]; simp [hb])]; rw [whN, ht]; simp [hb]
      | stuck =>
        have : ∀ n, whN t b n ρ = .stuck := fun n => by cases n <;> simp [whN, ht, hb]
        unfold wh
        rw [dif_neg (fun ⟨n, h⟩ => h (this n))]

section
variable {X : Cx} {W : WX} {O O1 : List OK} {P : OX} {ro : Bool} {st : Stmt} {sts : List Stmt} {f g : Env → Fl} {e c : Expr} {es : List Expr} {pos : Pos} {ev ew : Env → Out D} {t : Env → Out Bool}
theorem ss_while {body : List Stmt} {b : Env → Fl} (hp : PassesOwn (model X.prog X.w) X.A X.env X.xe) (hc : ST X W c t) (hb : SB X W O { nx := O, bk := P.nx, ct := O, ex := P.ex } ro body b)
    (hl : leB O P.nx = true := by rfl) (hx : leB [] P.ex = true := by rfl) : SS X W O P ro (.While c body [] pos) (wh t b) := .of (ps_while hp hc hb) fun F0 H0 F H σ ρ T r q => by
  obtain ⟨n0, hn0⟩ := wh_ex (t := t) (b := b) (ρ := ρ) (fun z => by rw [z] at q; exact q.elim)
  rw [hn0] at q
  refine ⟨fun m σ' H' => ∃ Fi ρi, Rep X.K F0 H0 O Fi H' σ' ρi ∧ PostS X.K X.mg W F0 H0 P ro T (whN t b m ρi), ⟨n0, F, ρ, r, q⟩, ?_⟩
  rintro m σ' H' ⟨Fi, ρi, ri, qi⟩
  cases m with
  | zero => exact qi.elim
  | succ m =>
    obtain ⟨G, rf, sFG, back⟩ := ri.lend
    refine ⟨G, ρi, rf, ?_⟩
    rw [whN] at qi
    cases ht : t ρi with
    | stuck => rw [ht] at qi; exact qi.elim
    | exc x =>
      rw [ht] at qi
      intro c dd G' H2 e' hx'
      exact PostS.exc qi (back G' H2 e').1 hx hx'
    | ok v =>
      rw [ht, fE_ok] at qi
      intro v' G' H2 e' hv
      cases hv
      obtain ⟨_, F', r', _⟩ := back G' H2 e'
      cases v with
      | false => exact iteF (PostS.nxt qi r' hl)
      | true =>
        refine iteT ⟨fun σ2 H2 => ∃ F2 ρ2, Rep X.K F0 H0 O F2 H2 σ2 ρ2 ∧ PostS X.K X.mg W F0 H0 P ro T (whN t b m ρ2), ?_, F0, H0, F', ρi, r', ?_⟩
        · rintro σ2 H2 ⟨F2, ρ2, r2, q2⟩
          exact ⟨m, Nat.lt_succ_self _, F2, ρ2, r2, q2⟩
        · have qi' : PostS X.K X.mg W F0 H0 P ro T (match b ρi with
            | .nx ρ' => whN t b m ρ'
            | .ct ρ' => whN t b m ρ'
            | .bk ρ' => .nx ρ'
            | o => o) := qi
          cases hb' : b ρi with
          | nx ρ' => rw [hb'] at qi'; exact fun F3 H3 σ3 r3 => ⟨F3, ρ', r3, qi'⟩
          | ct ρ' => rw [hb'] at qi'; exact fun F3 H3 σ3 r3 => ⟨F3, ρ', r3, qi'⟩
          | bk ρ' => rw [hb'] at qi'; exact qi'
          | ret d => rw [hb'] at qi'; exact qi'
          | exc x ρ' => rw [hb'] at qi'; exact qi'
          | stuck => rw [hb'] at qi'; exact qi'
def fBk : Env → Fl := fun ρ => .bk ρ
def fCt : Env → Fl := fun ρ => .ct ρ
def fAug (i : Nat) (ev : Env → Out D) : Env → Fl := fun ρ => match ρ[i]? with
  | some (some (.int a)) => fE (ev ρ) ρ fun d => match d with
    | .int b => .nx (ρ.set i (some (.int (a + b))))
    | _ => .stuck
  | _ => .stuck
def fApp (O : List OK) (i : Nat) (ev : Env → Out D) : Env → Fl := fun ρ => match ρ[i]? with
  | some (some (.lst ds)) => fE (ev (hide O ρ)) ρ fun d => if ds.length < sizeLine then .nx (ρ.set i (some (.lst (ds ++ [d])))) else .stuck
  | _ => .stuck
def fAppB (i : Nat) (ev : Env → Out D) : Env → Fl := fun ρ => match ρ[i]? with
  | some (some (.lst ds)) => fE (lfO (ev ρ)) ρ fun d => if ds.length < sizeLine then .nx (ρ.set i (some (.lst (ds ++ [d])))) else .stuck
  | _ => .stuck
theorem rep_slot {K : PySem.W.Frag} {F0 H0 F H : Hp} {σ : St} {ρ : Env} {i : Nat} {ds : List D} (r : Rep K F0 H0 O F H σ ρ) (hk : kd O i = .ol) (h : ρ[i]? = some (some (.lst ds))) : ∃ p vs, σ[i]? = some (some (.ref p)) ∧ H p = some (.lst vs) ∧ F p = none ∧ H0 p = none ∧ DRs K F vs ds := by
  obtain ⟨p, vs, a, b, c, d, e, _⟩ := r.write hk h
  exact ⟨p, vs, a, b, c, d, e⟩
theorem ss_app (i : Nat) {x : Str} {p apos cpos : Pos} (he : SE X W e ev) (hk : kd O i = .ol := by rfl) (hl : leB O P.nx = true := by rfl) (hx : leB O P.ex = true := by rfl) (hN : X.N[i]? = some x := by rfl) (hv : Vis X.env.scope x := by first | exact Or.inl rfl | exact Or.inr (Or.inl rfl) | exact Or.inr (Or.inr rfl))
    (hd : (x == ("__debug__" : Str)) = false := by decide) (hcd : (x == ("__classdict__" : Str)) = false := by decide)
    (hbase : attributeBase (.Name x p) "append" X.env (eval (.Name x p) X.env) = eval (.Name x p) X.env := by rfl)
    (hfew : ((backTo cpos (starEach [e] X.env)).all (fun x => !x.1) && (backToKw cpos (keywordEach [] X.env)).all (fun x => x.1.isSome)
      && decide (([e] : List Expr).length + ([] : List Keyword).length + (if ([] : List Keyword).isEmpty then 0 else 1) < 30)) = true := by rfl)
    (hline : (apos.endLine == cpos.line) = true := by rfl) (hs : starEach [e] X.env = (false, eval e X.env) :: starEach [] X.env := by rfl) (hplain : (backTo cpos (starEach [] X.env)).any (·.1) = false := by rfl)
    (hsw : swapsWith (.Call (.Attribute (.Name x p) "append" apos) [e] [] cpos) none pos.line X.env = pure false := by rfl) :
    SS X W O P ro (.Expr (.Call (.Attribute (.Name x p) "append" apos) [e] [] cpos) pos) (fApp O i ev) :=
  .of (ps_expr (pe_bm PySem.F.plainAttrs_list PySem.F.slot_list_append PySem.F.type_list_append mt_append (pe_var (i := i) hN hv hd hcd) (pa_cons he pa_nil hs) hbase hfew hline hs hplain) hsw) fun F0 H0 F H σ ρ T r q => by
  unfold fApp at q
  split at q
  · rename_i ds hds
    obtain ⟨p, vs, a1, a2, a3, a4, a5⟩ := rep_slot r hk hds
    refine ⟨_, a1, .inl ⟨rfl, vs, .inl (.inl a2)⟩, F, hide O ρ, r.hid, ?_⟩
    cases e1 : ev (hide O ρ) with
    | stuck => rw [e1] at q; exact q.elim
    | exc x' =>
      rw [e1] at q
      intro c dd F' H' e' hx'
      exact PostS.exc q (r.grow e') hx hx'
    | ok d =>
      rw [e1, fE_ok] at q
      split at q
      · rename_i hz
        intro v F' H' e' rv
        have r' := r.grow e'
        obtain ⟨p', vs', b1, b2, b3, b4, b5, bw⟩ := r'.write hk hds
        rw [a1] at b1
        cases b1
        refine ⟨p, vs', v, rfl, rfl, b2, by rw [b5.length]; exact hz, ?_⟩
        exact PostS.nxt q (bw _ _ (b5.append (.one rv))) hl
      · exact q.elim
  · exact q.elim
end
end CW
namespace CW
open PySem PySem.Spec PyProof.Rows L2

abbrev W0 : WX := fun _ _ _ _ => False
def wipeE (ρ : Env) : List Nat → Env
  | [] => ρ
  | v :: vs => (wipeE ρ vs).set v none
@[simp] theorem wipeE_nil (ρ : Env) : wipeE ρ [] = ρ := (rfl)
@[simp] theorem wipeE_cons (ρ : Env) (v vs) : wipeE ρ (v :: vs) = (wipeE ρ vs).set v none := (rfl)
theorem wipeE_len (ρ : Env) : ∀ vs : List Nat, (wipeE ρ vs).length = ρ.length
  | [] => rfl
  | v :: vs => by simp [wipeE_len ρ vs]
theorem RF.wipe {K : PySem.W.Frag} {F H : Hp} {σ : St} {ρ : Env} (r : RF K F H σ ρ) : ∀ vs : List Nat, RF K F H (wipe σ vs) (wipeE ρ vs)
  | [] => r
  | v :: vs => by
    have ih := r.wipe vs
    refine ⟨ih.1, by rw [wipe_length, wipeE_len]; exact r.2.1, fun i d hi => ?_⟩
    by_cases hiv : i = v
    · subst hiv
      rw [wipeE_cons] at hi
      by_cases hl : i < (wipeE ρ vs).length
      · rw [List.getElem?_set_self hl] at hi; cases hi
      · rw [List.getElem?_eq_none (by rw [List.length_set]; omega)] at hi; cases hi
    · rw [wipeE_cons, List.getElem?_set_ne (Ne.symm hiv)] at hi
      obtain ⟨w, a, b⟩ := ih.2.2 i d hi
      refine ⟨w, ?_, b⟩
      show ((L2.wipe σ vs).set v none)[i]? = _
      rw [List.getElem?_set_ne (Ne.symm hiv)]; exact a
theorem wipe_set {σ : St} {x : Option V} {i : Nat} : ∀ {vs : List Nat}, i ∈ vs → L2.wipe (σ.set i x) vs = L2.wipe σ vs
  | [], h => by simp at h
  | v :: vs, h => by
    show (L2.wipe (σ.set i x) vs).set v none = (L2.wipe σ vs).set v none
    by_cases hm : i ∈ vs
    · rw [wipe_set hm]
    · have hv : i = v := by
        rcases List.mem_cons.mp h with e | e
        · exact e
        · exact absurd e hm
      subst hv
      have : ∀ ws : List Nat, i ∉ ws → L2.wipe (σ.set i x) ws = (L2.wipe σ ws).set i x := fun ws => by
        induction ws with
        | nil => intro _; rfl
        | cons u us ih =>
          intro hn
          simp only [List.mem_cons, not_or] at hn
          show (L2.wipe (σ.set i x) us).set u none = ((L2.wipe σ us).set u none).set i x
          rw [ih hn.2, List.set_comm _ _ hn.1]
      rw [this vs hm, List.set_set]
theorem wipe_sets {vs : List Nat} : ∀ {is : List Nat} {us : List V} {σ : St}, (∀ i ∈ is, i ∈ vs) → L2.wipe (setsS σ (is.zip us)) vs = L2.wipe σ vs
  | [], us, σ, h => by simp [setsS]
  | i :: is, [], σ, h => by simp [setsS]
  | i :: is, u :: us, σ, h => by
    show L2.wipe (setsS (σ.set i (some u)) (is.zip us)) vs = _
    rw [wipe_sets fun j hj => h j (List.mem_cons_of_mem _ hj), wipe_set (h i List.mem_cons_self)]
def compL (is : List Nat) (asg : D → Option (List D)) (c : Env → Out Bool) (ev : Env → Out D) (ρ : Env) : List D → Out (List D)
  | [] => .ok []
  | d :: r => match asg d with
    | none => .stuck
    | some ds => (noX (c (setsE ρ (is.zip ds)))).bind fun b => match b with
      | true => (noX (ev (setsE ρ (is.zip ds)))).bind fun y => (compL is asg c ev ρ r).bind fun ys => .ok (y :: ys)
      | false => compL is asg c ev ρ r
def oLc (vs is : List Nat) (ei : Env → Out (List D)) (asg : D → Option (List D)) (c : Env → Out Bool) (ev : Env → Out D) : Env → Out (List D) := fun ρ => (ei ρ).bind fun ds => if ds.length ≤ sizeLine then compL is asg c ev (wipeE ρ vs) ds else .stuck
theorem compL_exc {is : List Nat} {asg : D → Option (List D)} {c : Env → Out Bool} {ev : Env → Out D} {ρ : Env} {x : D} : ∀ {ds : List D}, compL is asg c ev ρ ds ≠ .exc x
  | [], h => by simp [compL] at h
  | d :: r, h => by
    unfold compL at h
    cases ha : asg d with
    | none => rw [ha] at h; cases h
    | some ds =>
      rw [ha] at h
      simp only at h
      cases hc : c (setsE ρ (is.zip ds)) with
      | ok b =>
        rw [hc] at h
        simp only [noX_ok, Out.bind_ok] at h
        cases b with
        | false => exact compL_exc h
        | true =>
          simp only at h
          cases he : ev (setsE ρ (is.zip ds)) with
          | ok y =>
            rw [he] at h
            simp only [noX_ok, Out.bind_ok] at h
            cases hr : compL is asg c ev ρ r with
            | ok ys => rw [hr] at h; cases h
            | exc z => exact compL_exc hr
            | stuck => rw [hr] at h; cases h
          | exc z => rw [he] at h; cases h
          | stuck => rw [he] at h; cases h
      | exc z => rw [hc] at h; cases h
      | stuck => rw [hc] at h; cases h
def STs (X : Cx) (W : WX) (ifs : List Expr) (c : Env → Out Bool) : Prop := PTs X ifs (dT X.K X.mg W c)
def cYes : Env → Out Bool := fun _ => .ok true
section
variable {X : Cx} {W : WX}
theorem sts_nil : STs X W [] cYes := ⟨fun pins s σ H Q I ⟨F, ρ, h1, h2⟩ => pts_nil.run pins s σ H Q I (h2.ok h1.1 rfl)⟩
theorem sts_one {a : Expr} {c : Env → Out Bool} (h : ST X W a c) : STs X W [a] c := pts_one h
theorem lc_sub {K : PySem.W.Frag} {mg : Str → Option Value} {vs is : List Nat} {ei : Env → Out (List D)} {asg : D → Option (List D)} {c : Env → Out Bool} {ev : Env → Out D} (hio' : ∀ i ∈ is, i ∈ vs) {F H : Hp} {σ : St} {ρ : Env} {Q : VK} (h1 : RF K F H σ ρ) (h2 : PostO K mg W F H σ Q (oLc vs is ei asg c ev ρ)) :
    tLc (dI K mg W ei) (dG K is asg) (dT K mg W0 c) (dE K mg W0 ev) vs σ H Q := by
  refine ⟨F, ρ, h1, ?_⟩
  unfold oLc at h2
  cases e1 : ei ρ with
  | exc x => rw [e1] at h2; exact h2
  | stuck => rw [e1] at h2; exact h2.elim
  | ok ds =>
    rw [e1] at h2
    have h3 : PostO K mg W F H σ Q (if ds.length ≤ sizeLine then compL is asg c ev (wipeE ρ vs) ds else .stuck) := h2
    split at h3
    · rename_i hz
      intro J Fl H1 e' hJ D0 hD
      cases hr : compL is asg c ev (wipeE ρ vs) ds with
      | exc x => exact absurd hr compL_exc
      | stuck => rw [hr] at h3; exact h3.elim
      | ok ys =>
        rw [hr] at h3
        have rw0 : RF K Fl H1 (L2.wipe σ vs) (wipeE ρ vs) := (h1.ext e').wipe vs
        have hDF : Fl D0 = none := rw0.1.free hD
        refine ⟨fun i m H' => ∃ Fi accV accD rest, i + m = ds.length ∧ Ext Fl H1 Fi H' ∧ Fi D0 = none ∧ H' D0 = some (.lst accV) ∧ DRs K Fi accV accD ∧ accD.length ≤ i ∧ compL is asg c ev (wipeE ρ vs) (ds.drop i) = .ok rest ∧ accD ++ rest = ys,
          ⟨ds.length, Fl, [], [], ys, by omega, ⟨Same.refl _, rw0.1.trans (same_new hD), same_new hD, fun _ h => .inl h, fun _ _ _ h => h⟩, hDF, upd_same, .nil, by simp, by simpa using hr, rfl⟩, ?_⟩
        rintro i m H' ⟨Fi, accV, accD, rest, him, ei', hFD, hHD, hacc, hlen, hrest, hys⟩
        obtain ⟨j1, j2⟩ := hJ i Fi H' ei'.ff ei'.fh
        by_cases hlt : i < ds.length
        · obtain ⟨go, yl⟩ := j1 ds[i] (List.getElem?_eq_getElem hlt)
          refine .inr ⟨go, fun H2 => ∃ F2 accV accD rest, Ext Fl H1 F2 H2 ∧ F2 D0 = none ∧ H2 D0 = some (.lst accV) ∧ DRs K F2 accV accD ∧ accD.length ≤ i + 1 ∧ compL is asg c ev (wipeE ρ vs) (ds.drop (i + 1)) = .ok rest ∧ accD ++ rest = ys, ?_, fun x H2 hy => ?_⟩
          · rintro H2 ⟨F2, aV, aD, r2, q1, q2, q3, q4, q5, q6, q7⟩
            exact ⟨m - 1, by omega, F2, aV, aD, r2, by omega, q1, q2, q3, q4, q5, q6, q7⟩
          · obtain ⟨Fx, ex, rx⟩ := yl x H2 hy
            have hd : ds.drop i = ds[i] :: ds.drop (i + 1) := List.drop_eq_getElem_cons hlt
            rw [hd] at hrest
            unfold compL at hrest
            cases ha : asg ds[i] with
            | none => rw [ha] at hrest; cases hrest
            | some as =>
              rw [ha] at hrest
              simp only at hrest
              refine ⟨Fx, ds[i], as, ex.fh, rx, ha, fun us hu => ⟨?_, ?_⟩⟩
              · rw [wipe_sets hio']
                have : ∀ σ : St, L2.wipe (L2.wipe σ vs) vs = L2.wipe σ vs := fun σ => by
                  have key : ∀ (us ws : List Nat) (σ : St), (∀ v ∈ us, v ∈ ws) → L2.wipe (L2.wipe σ us) ws = L2.wipe σ ws := fun us => by
                    induction us with
                    | nil => intro ws σ _; rfl
                    | cons u us ih =>
                      intro ws σ h
                      show L2.wipe ((L2.wipe σ us).set u none) ws = _
                      rw [wipe_set (h u List.mem_cons_self), ih ws σ fun v hv => h v (List.mem_cons_of_mem _ hv)]
                  exact key vs vs σ fun _ h => h
                exact this σ
              · have rfx : RF K Fx H2 (setsS (L2.wipe σ vs) (is.zip us)) (setsE (wipeE ρ vs) (is.zip as)) := setsS_rf ((rw0.ext ei').ext ex) hu
                refine ⟨Fx, _, rfx, ?_⟩
                cases hcc : c (setsE (wipeE ρ vs) (is.zip as)) with
                | exc z => rw [hcc] at hrest; cases hrest
                | stuck => rw [hcc] at hrest; cases hrest
                | ok b =>
                  rw [hcc, noX_ok, Out.bind_ok] at hrest
                  intro b' F3 H3 e3 hb
                  subst hb
                  have xt : Ext Fl H1 F3 H3 := ei'.trans (ex.trans e3)
                  have xi : Ext Fi H' F3 H3 := ex.trans e3
                  have hFD3 : F3 D0 = none := by
                    cases q : F3 D0 with
                    | none => rfl
                    | some o =>
                      rcases xi.new D0 (by rw [q]; simp) with z | z
                      · exact absurd hFD z
                      · rw [hHD] at z; exact (z trivial).elim
                  cases b' with
                  | false => exact iteF ⟨F3, accV, accD, rest, xt, hFD3, xi.hh _ _ hHD, hacc.mono (Sub.of_same xi.ff), by omega, hrest, hys⟩
                  | true =>
                    refine iteT ⟨F3, _, rfx.ext e3, ?_⟩
                    simp only at hrest
                    cases hev : ev (setsE (wipeE ρ vs) (is.zip as)) with
                    | exc z => rw [hev] at hrest; cases hrest
                    | stuck => rw [hev] at hrest; cases hrest
                    | ok y =>
                      rw [hev, noX_ok, Out.bind_ok] at hrest
                      intro v F4 H4 e4 rv
                      cases hr2 : compL is asg c ev (wipeE ρ vs) (ds.drop (i + 1)) with
                      | exc z => exact absurd hr2 compL_exc
                      | stuck => rw [hr2] at hrest; cases hrest
                      | ok ys' =>
                        have hr2' := hr2
                        rw [hr2, Out.bind_ok] at hrest
                        cases hrest
                        have xi4 : Ext Fi H' F4 H4 := xi.trans e4
                        have xt4 : Ext Fl H1 F4 H4 := xt.trans e4
                        have hFD4 : F4 D0 = none := by
                          cases q : F4 D0 with
                          | none => rfl
                          | some o =>
                            rcases xi4.new D0 (by rw [q]; simp) with z | z
                            · exact absurd hFD z
                            · rw [hHD] at z; exact (z trivial).elim
                        have hac4 := hacc.mono (Sub.of_same xi4.ff)
                        refine ⟨accV, xi4.hh _ _ hHD, ?_, F4, accV ++ [v], accD ++ [y], ys', ⟨xt4.ff, fun b o q => ?_, fun b o q => ?_, xt4.new, xt4.nf⟩, hFD4, upd_same, hac4.append (.one rv), by simp; omega, rfl, by simpa using hys⟩
                        · rw [hacc.length]; omega
                        · rw [upd_ne (fun z => by rw [z, hFD4] at q; cases q)]; exact xt4.fh _ _ q
                        · rw [upd_ne (fun z => by rw [z, hD] at q; cases q)]; exact xt4.hh _ _ q
        · have hie : i = ds.length := by omega
          refine .inl ⟨j2 hie, ?_⟩
          rw [hie, List.drop_length] at hrest
          simp only [compL, Out.ok.injEq] at hrest
          subst hrest
          rw [List.append_nil] at hys
          subst hys
          exact h3 D0 accV Fi H' (e'.trans ei') (e'.hh.free hD) hFD hHD hacc
    · exact h3.elim
theorem so_lc {elt tg iter : Expr} {ifs : List Expr} {scope : Scope} (own : List (Str × Nat)) {pos : Pos} {is : List Nat} {asg : D → Option (List D)} {ei : Env → Out (List D)} {c : Env → Out Bool} {ev : Env → Out D}
    (hc : X.calm = true) (hN : X.N.Nodup) (hi : SI X W tg iter ei) (ok : BlkOk X.N X.env.scope scope own)
    (hg : ∀ (s : Shared) (H : Hp) (C : Addr) (cl : List (Str × Addr)) (fp : List Addr), SG (X.blk s H scope (compEnvC scope cl C X.env) fp) tg is asg)
    (ht : ∀ (s : Shared) (H : Hp) (C : Addr) (cl : List (Str × Addr)) (fp : List Addr), STs (X.blk s H scope (compEnvC scope cl C X.env) fp) W0 ifs c)
    (he : ∀ (s : Shared) (H : Hp) (C : Addr) (cl : List (Str × Addr)) (fp : List Addr), SE (X.blk s H scope (compEnvC scope cl C X.env) fp) W0 elt ev)
    (hio : (is.all fun i => decide (i ∈ own.map (·.2))) = true := by decide) (hs : ∀ x, foldedSetIterable iter X.env x = pure x := by intro _; rfl) :
    SO X W (.ListComp elt [⟨tg, iter, ifs, 0⟩] scope pos) (oLc (own.map (·.2)) is ei asg c ev) := by
  refine .of (pe_lc (te := dE X.K X.mg W0 ev) (tt := dT X.K X.mg W0 c) (g := dG X.K is asg) hc hN hi ok hg ht he hs) fun F H σ ρ Q h1 h2 => ?_
  have hio' : ∀ i ∈ is, i ∈ own.map (·.2) := fun i hi => by
    rw [List.all_eq_true] at hio
    simpa using hio i hi
  exact lc_sub hio' h1 h2
theorem soa_lc (i : Nat) {y : Str} {py spos : Pos} {elt tg iter : Expr} {ifs : List Expr} {scope : Scope} (own : List (Str × Nat)) {pos : Pos} {is : List Nat} {asg : D → Option (List D)} {ei : Env → Out (List D)} {c : Env → Out Bool} {ev : Env → Out D}
    (hc : X.calm = true) (hN : X.N.Nodup) (hi : SI X W tg iter ei) (ok : BlkOk X.N X.env.scope scope own)
    (hg : ∀ (s : Shared) (H : Hp) (C : Addr) (cl : List (Str × Addr)) (fp : List Addr), SG (X.blk s H scope (compEnvC scope cl C X.env) fp) tg is asg)
    (ht : ∀ (s : Shared) (H : Hp) (C : Addr) (cl : List (Str × Addr)) (fp : List Addr), STs (X.blk s H scope (compEnvC scope cl C X.env) fp) W0 ifs c)
    (he : ∀ (s : Shared) (H : Hp) (C : Addr) (cl : List (Str × Addr)) (fp : List Addr), SE (X.blk s H scope (compEnvC scope cl C X.env) fp) W0 elt ev)
    (hio : (is.all fun i => decide (i ∈ own.map (·.2))) = true := by decide) (hs : ∀ x, foldedSetIterable iter X.env x = pure x := by intro _; rfl)
    (hy : X.N[i]? = some y := by rfl) (hyl : X.env.scope.names.lookup y = some .local := by rfl) (hk : X.env.scope.kind = .function := by rfl) (hln : (py.line == pos.line) = true := by rfl) (hln2 : (py.line == spos.line) = true := by rfl)
    (hsa : (scope.names.any fun (n, k) => n == y && (k == .local || k == .cell)) = false := by decide +kernel) :
    PS X (.Assign [.Name y py] (.ListComp elt [⟨tg, iter, ifs, 0⟩] scope pos) spos) (tAsg (dO X.K X.mg W (oLc (own.map (·.2)) is ei asg c ev)) (gName i)) := by
  have hio' : ∀ i ∈ is, i ∈ own.map (·.2) := fun i hi => by
    rw [List.all_eq_true] at hio
    simpa using hio i hi
  refine ⟨fun pins s σ H D I h => (ps_setLc (te := dE X.K X.mg W0 ev) (tt := dT X.K X.mg W0 c) (g := dG X.K is asg) hc hN hy hyl (sw_true hk hyl hln hsa) hi ok hg ht he hs).run pins s σ H D I ?_⟩
  obtain ⟨F, ρ, h1, h2⟩ := h
  exact lc_sub hio' h1 h2
end
def runF (n p : Nat) (den : Env → Fl) : List D → Out D := fun ds => if ds.length = p then match den (ds.map some ++ List.replicate (n - p) none) with
  | .nx _ => .ok .non
  | .ret d => .ok d
  | _ => .stuck else .stuck
def runL (n p : Nat) (den : Env → Fl) : List D → Out (List D) := fun ds => if ds.length = p then match den (ds.map some ++ List.replicate (n - p) none) with
  | .ret (.lst es) => .ok es
  | _ => .stuck else .stuck
def fzs (O : List OK) : Bool := O.all fun k => decide (k = .fz)
theorem start_get {vs : List V} {n : Nat} {ds : List D} {N : List Str} (hl : vs.length = ds.length) {i : Nat} {d : D} (h : (ds.map some ++ List.replicate (n - ds.length) none)[i]? = some (some d)) : i < ds.length ∧ ds[i]? = some d ∧ (L2.start N vs)[i]? = vs[i]?.map some := by
  by_cases hi : i < ds.length
  · rw [List.getElem?_append_left (by simpa using hi), List.getElem?_map] at h
    refine ⟨hi, ?_, ?_⟩
    · cases e : ds[i]? with
      | none => rw [e] at h; cases h
      | some x => rw [e] at h; simpa using h
    · unfold L2.start
      rw [List.getElem?_append_left (by simp; omega), List.getElem?_map]
  · rw [List.getElem?_append_right (by simp; omega), List.getElem?_replicate] at h
    split at h <;> cases h
theorem rep_start {K : PySem.W.Frag} {F H : Hp} {vs : List V} {ds : List D} {N : List Str} {O : List OK} (s : Same F H) (r : DRs K F vs ds) (hz : fzs (O.take ds.length) = true) (hn : ds.length ≤ N.length) :
    Rep K F H O F H (L2.start N vs) (ds.map some ++ List.replicate (N.length - ds.length) none) := by
  refine ⟨⟨Same.refl _, s, Same.refl _, fun _ h => .inl h, fun _ _ _ h => h⟩, ?_, fun _ => [], fun i d hi => ?_, fun i a ha => by simp at ha, fun i j a ha => by simp at ha⟩
  · unfold L2.start
    simp [r.length]
  · obtain ⟨h1, h2, h3⟩ := start_get (N := N) r.length hi
    obtain ⟨v, hv, rv⟩ := r.get h2
    refine ⟨v, by rw [h3, hv]; rfl, ?_⟩
    have hk : kd O i = .fz := by
      unfold fzs at hz
      rw [List.all_eq_true] at hz
      unfold kd
      rw [List.getD_eq_getElem?_getD]
      by_cases hO : i < O.length
      · rw [List.getElem?_eq_getElem hO]
        have := hz O[i] (List.mem_iff_getElem.mpr ⟨i, by simp; omega, by simp⟩)
        simpa using this
      · rw [List.getElem?_eq_none (by omega)]; rfl
    rw [hk]
    exact ⟨rfl, rv⟩
structure DefAt (K : PySem.W.Frag) (mg : Str → Option Value) (x : Str) (st : Stmt) (ps : List Str) : Prop where
  ex : ∃ f fd, Fun K x x st f fd ∧ mg x = some (.ref f) ∧ Binds K fd ps []
section
variable {P : Program} {w : World} {K : PySem.W.Frag} {mg : Str → Option Value} {base : Heap} {x : Str} {st : Stmt} {N ps : List Str} {k : Nat} {Pp : OX} {den : Env → Fl}
theorem fnD_of (O : List OK) (Df : DefAt K mg x st ps) (S : FnScope N ps (defScope st)) (hz : fzs (O.take ps.length) = true)
    (body : ∀ (f : Addr) (cdv : Value) (A : Around) (outer : List PySem.Env) (s : Shared) (H : Hp) (E : XK), Room k (A.deeper (envOfC x (defScope st) s.heap.objs.size f cdv)) →
      SB ((cxOf CX0 P w K mg base N x (defScope st) f cdv A outer s H E).nox) W0 O Pp false (defBody st) den) : FnD P w K mg base (k + 1) x (runF N.length ps.length den) := by
  obtain ⟨f, fd, F, hm, hb⟩ := Df.ex
  have hpl : ps.length ≤ N.length := by have := congrArg List.length S.pre; rw [List.length_take] at this; omega
  refine ⟨f, fd, ps, F.ok S (fun vs H Q E h => ?_) (fun cdv A outer s H vs Q E hr h => ?_), hm, F.kp, hb⟩
  · obtain ⟨F, ds, h1, h2, h3⟩ := h
    unfold runF at h3
    split at h3
    · rename_i hl; rw [h2.length, hl]
    · exact h3.elim
  · obtain ⟨F1, ds, h1, h2, h3⟩ := h
    unfold runF at h3
    split at h3
    · rename_i hl
      refine ⟨_, body f cdv A outer s H E hr, F1, H, F1, _, rep_start h1 h2 (by rw [hl]; exact hz) (by rw [hl]; exact hpl), ?_⟩
      rw [hl]
      cases e : den (ds.map some ++ List.replicate (N.length - ps.length) none) with
      | nx ρ => rw [e] at h3; exact fun F2 H2 σ2 r2 => h3 _ F2 H2 r2.ext .non
      | ret d => rw [e] at h3; exact fun v F2 H2 e2 rv => h3 v F2 H2 e2 rv
      | exc y ρ => rw [e] at h3; exact h3.elim
      | bk ρ => rw [e] at h3; exact h3.elim
      | ct ρ => rw [e] at h3; exact h3.elim
      | stuck => rw [e] at h3; exact h3.elim
    · exact h3.elim
theorem fnL_of (O : List OK) (Df : DefAt K mg x st ps) (S : FnScope N ps (defScope st)) (hz : fzs (O.take ps.length) = true)
    (body : ∀ (f : Addr) (cdv : Value) (A : Around) (outer : List PySem.Env) (s : Shared) (H : Hp) (E : XK), Room k (A.deeper (envOfC x (defScope st) s.heap.objs.size f cdv)) →
      SB ((cxOf CX0 P w K mg base N x (defScope st) f cdv A outer s H E).nox) W0 O Pp true (defBody st) den) : FnL P w K mg base (k + 1) x (runL N.length ps.length den) := by
  obtain ⟨f, fd, F, hm, hb⟩ := Df.ex
  have hpl : ps.length ≤ N.length := by have := congrArg List.length S.pre; rw [List.length_take] at this; omega
  refine ⟨f, fd, ps, F.ok S (fun vs H Q E h => ?_) (fun cdv A outer s H vs Q E hr h => ?_), hm, F.kp, hb⟩
  · obtain ⟨F, ds, h1, h2, h3⟩ := h
    unfold runL at h3
    split at h3
    · rename_i hl; rw [h2.length, hl]
    · exact h3.elim
  · obtain ⟨F1, ds, h1, h2, h3⟩ := h
    unfold runL at h3
    split at h3
    · rename_i hl
      refine ⟨_, body f cdv A outer s H E hr, F1, H, F1, _, rep_start h1 h2 (by rw [hl]; exact hz) (by rw [hl]; exact hpl), ?_⟩
      rw [hl]
      cases e : den (ds.map some ++ List.replicate (N.length - ps.length) none) with
      | nx ρ => rw [e] at h3; exact h3.elim
      | ret d =>
        rw [e] at h3
        intro v F2 H2 e2 rv
        obtain ⟨a, vs2, ds2, rfl, rfl, q1, q2, q3, q4⟩ := rv
        exact h3 a vs2 F2 H2 e2 q3 q2 q1 q4
      | exc y ρ => rw [e] at h3; exact h3.elim
      | bk ρ => rw [e] at h3; exact h3.elim
      | ct ρ => rw [e] at h3; exact h3.elim
      | stuck => rw [e] at h3; exact h3.elim
    · exact h3.elim
theorem FnD.mono {k' : Nat} {fn : List D → Out D} (h : FnD P w K mg base k x fn) (hk : k ≤ k') : FnD P w K mg base k' x fn := by
  obtain ⟨f, fd, ps, F, r⟩ := h.ex
  exact ⟨f, fd, ps, F.mono hk, r⟩
theorem FnL.mono {k' : Nat} {fn : List D → Out (List D)} (h : FnL P w K mg base k x fn) (hk : k ≤ k') : FnL P w K mg base k' x fn := by
  obtain ⟨f, fd, ps, F, r⟩ := h.ex
  exact ⟨f, fd, ps, F.mono hk, r⟩
end
end CW
namespace CW
open PySem PySem.Spec PyProof.Rows L2

section
variable {X : Cx} {W : WX} {O O1 : List OK} {P : OX} {ro : Bool} {a b c e : Expr} {es : List Expr} {ea eb ec : Env → Out D} {pos : Pos}
inductive Ty where
  | bool | int | str | tuple | list | dict
  deriving DecidableEq
def Ty.nm : Ty → String
  | .bool => "bool" | .int => "int" | .str => "str" | .tuple => "tuple" | .list => "list" | .dict => "dict"
def tyOf : D → Option String
  | .non => some "NoneType" | .bl _ => some "bool" | .int _ => some "int" | .str _ => some "str" | .tup _ => some "tuple"
  | .lst _ => some "list" | .dic _ _ _ _ => none | .exn _ _ => none | .scr _ => some "list" | .cst _ => none | .obj _ => none
def isTy (t : Ty) (d : D) : Option Bool := match tyOf d with
  | some n => kitB n t.nm
  | none => none
def isD (t : Ty) : D → Out D := fun d => match isTy t d with
  | some b => .ok (.bl b)
  | none => .stuck
theorem tyX_of {K : PySem.W.Frag} {F H : Hp} {v : V} {d : D} {n : String} (s : Same F H) (r : DR K F v d) (h : tyOf d = some n) : TyX K H v (.type n) := by
  cases r with
  | non => cases h; exact .base .non
  | bl b => cases h; exact .base (.bl b)
  | int b => cases h; exact .base (.int b)
  | str b => cases h; exact .base (.str b)
  | @tup p xs ds h1 h2 =>
    have e : n = "tuple" := (Option.some.inj h).symm
    subst e
    exact .base (.tup (s _ _ h1))
  | @lst p xs ds h1 h2 =>
    cases h
    rcases rd_of s h1 with q | ⟨o, q⟩
    · exact .base (.lst q)
    · exact .base (.frz q)
  | @scr p ns h1 =>
    cases h
    rcases h1 with h1 | ⟨_, _, _, h1, h2, _⟩
    · rcases rd_of s h1 with q | ⟨o, q⟩
      · exact .base (.lst q)
      · exact .base (.frz q)
    · exact .kList h1 h2
  | dK _ _ => cases h
  | dT _ _ => cases h
  | exn _ _ _ _ => cases h
  | cst _ => cases h
  | obj _ _ _ => cases h
theorem se_isi {t : Ty} {p p2 : Pos} {x : Str} (h1 : X.mg "isinstance" = none) (h2 : X.mg x = none) (ha : SE X W a ea) (hx : bootBuiltins x = some (.type t.nm) := by decide +kernel) (hg : Gl X "isinstance" := by rfl) (hg2 : Gl X x := by rfl)
    (hn : x ≠ "__name__" := by decide) (hd : (x == ("__debug__" : Str)) = false := by decide)
    (he : starEach [a, .Name x p2] X.env = (false, eval a X.env) :: starEach [.Name x p2] X.env := by rfl) (hpl : (backTo pos (starEach [.Name x p2] X.env)).any (·.1) = false := by rfl)
    (he2 : starEach [.Name x p2] X.env = (false, eval (.Name x p2) X.env) :: starEach [] X.env := by rfl) :
    SE X W (.Call (.Name "isinstance" p) [a, .Name x p2] [] pos) (eUn (isD t) ea) := by
  refine .of (pe_callB call_isi hg h1 (by decide +kernel) (pa_cons ha (pa_cons (pe_bltn (v := .ty t.nm) hg2 h2 hx rfl hn hd) pa_nil he2) he) (by decide) (by decide) he hpl) fun F H σ ρ Q h1 h2 => ?_
  refine ⟨F, ρ, h1, Post.bind h2 fun d v F1 H1 e1 r1 q1 => ?_⟩
  unfold isD isTy at q1
  cases ht : tyOf d with
  | none => rw [ht] at q1; exact q1.elim
  | some n =>
    rw [ht] at q1
    have q2 : Post X.K X.mg (DR X.K) W F1 H1 σ Q (match kitB n t.nm with | some b => .ok (.bl b) | none => .stuck) := q1
    cases hk : kitB n t.nm with
    | none => rw [hk] at q2; exact q2.elim
    | some b =>
      rw [hk] at q2
      exact ⟨v, .ty t.nm, .type n, .type t.nm, b, rfl, .ty _, tyX_of e1.fh r1 ht, kit_ty hk, q2.ok e1.fh (.bl b)⟩
def oIsB (x y : D) : Out D := match x, y with
  | .bl a, .bl b => .ok (.bl (a == b))
  | _, _ => .stuck
def oNotB (x y : D) : Out D := match x, y with
  | .bl a, .bl b => .ok (.bl (!(a == b)))
  | _, _ => .stuck
def eChain (g g' : D → D → Out D) (a b c : Env → Out D) : Env → Out D := fun ρ => (a ρ).bind fun x => (b ρ).bind fun y => (g x y).bind fun z => match z with
  | .bl true => (c ρ).bind fun w => g' y w
  | .bl false => .ok (.bl false)
  | _ => .stuck
section
variable {st : Stmt} {eo : Env → Out (List D)}
theorem ss_asgOC (i : Nat) (h : PS X st (tAsg (dO X.K X.mg W eo) (gName i))) (hiO : i < O.length := by decide) (hl : leB (O.set i .ol) P.nx = true := by rfl) (hx : leB O P.ex = true := by rfl) : SS X W O P ro st (fAsgO O i eo) :=
  .of h fun F0 H0 F H σ ρ T r q => by
  refine ⟨F, hide O ρ, r.hid, ?_⟩
  unfold fAsgO at q
  refine r.postO (fun z => by rw [z] at q; exact q.elim) (fun ds p vs F' H' eo e' hp hf hl' rd => ?_) (fun x c dd F' H' eo r' hx' => ?_)
  · rw [eo] at q
    exact PostS.nxt q (r.setNew i hiO e' hp hf hl' rd) hl
  · rw [eo] at q
    exact PostS.exc q r' hx hx'
theorem ss_asgC (i : Nat) (h : PS X st (tAsg (dO X.K X.mg W eo) (gName i))) (hl : leB (O.set i .fz) P.nx = true := by rfl) (hx : leB O P.ex = true := by rfl) : SS X W O P ro st (fAsg O i (eL eo)) :=
  .of h fun F0 H0 F H σ ρ T r q => by
  refine ⟨F, hide O ρ, r.hid, Post.frozen ?_⟩
  unfold fAsg at q
  refine r.post (fun z => by unfold eL at q; rw [z] at q; exact q.elim) (fun d v F' H' eo e' r' rd => ?_) (fun x c dd F' H' eo r' hx' => ?_)
  · unfold eL at q
    rw [eo] at q
    exact PostS.nxt q (r'.set i rd) hl
  · unfold eL at q
    rw [eo] at q
    exact PostS.exc q r' hx hx'
end
def mBitLen : D → Out D
  | .int i => .ok (.int (Builtin.Int.intBits i : Nat))
  | _ => .stuck
def strsOf : List D → Option (List Str)
  | [] => some []
  | .str i :: r => (strsOf r).map (i :: ·)
  | _ => none
@[simp] theorem strsOf_nil : strsOf [] = some [] := (rfl)
@[simp] theorem strsOf_cons (i r) : strsOf (.str i :: r) = (strsOf r).map (i :: ·) := (rfl)
@[simp] theorem strsOf_map (ns : List Str) : strsOf (ns.map D.str) = some ns := by
  induction ns with
  | nil => rfl
  | cons n ns ih => simp [strsOf, ih]
@[simp] theorem strsOf_map' {α : Type} (f : α → Str) (xs : List α) : strsOf (xs.map fun x => D.str (f x)) = some (xs.map f) := by
  have := strsOf_map (xs.map f)
  rwa [List.map_map] at this
def isStrD : D → Bool
  | .str _ => true
  | _ => false
def isLstD : D → Bool
  | .lst _ => true
  | _ => false
def eM (k : D → Bool) (g : D → D → Out D) (a b : Env → Out D) : Env → Out D := fun ρ => (a ρ).bind fun x => if k x then (b ρ).bind fun y => g x y else .stuck
def oM (k : D → Bool) (g : D → D → Out (List D)) (a b : Env → Out D) : Env → Out (List D) := fun ρ => (a ρ).bind fun x => if k x then (b ρ).bind fun y => g x y else .stuck
def idxD (y : D) : List D → Option Nat
  | [] => none
  | d :: ds => if eqD d y then some 0 else (idxD y ds).map (· + 1)
def mIndex : D → D → Out D
  | .lst ds, y => if flatD y && ds.all flatD then match idxD y ds with
    | some j => .ok (.int j)
    | none => .stuck else .stuck
  | _, _ => .stuck
theorem idxD_DR {F : Hp} {y : V} {dy : D} (ry : DR X.K F y dy) (fy : flatD dy = true) : ∀ {vs : List V} {ds : List D} {j : Nat}, DRs X.K F vs ds → ds.all flatD = true → idxD dy ds = some j → ∃ z, vs[j]? = some z ∧ eqV z y = true ∧ ∀ (m : Nat) (z' : V), m < j → vs[m]? = some z' → eqV z' y = false
  | _, _, _, .nil, _, h => by cases h
  | v :: vs, d :: ds, j, .cons r t, hf, h => by
    rw [List.all_cons, Bool.and_eq_true] at hf
    unfold idxD at h
    have e := eqV_of r ry hf.1 fy
    split at h
    · rename_i he
      cases h
      exact ⟨v, rfl, by rw [e]; exact he, fun m z' hm => absurd hm (Nat.not_lt_zero m)⟩
    · rename_i he
      cases hi : idxD dy ds with
      | none => rw [hi] at h; cases h
      | some i =>
        rw [hi] at h
        cases h
        obtain ⟨z, h1, h2, h3⟩ := idxD_DR ry fy t hf.2 hi
        refine ⟨z, by simpa using h1, h2, fun m z' hm hz => ?_⟩
        cases m with
        | zero =>
          simp at hz
          subst hz
          rw [e]; exact eq_false_of_ne_true he
        | succ m => exact h3 m z' (Nat.lt_of_succ_lt_succ hm) (by simpa using hz)
theorem all_flat {F : Hp} : ∀ {vs : List V} {ds : List D}, DRs X.K F vs ds → ds.all flatD = true → vs.all flatV = true
  | _, _, .nil, _ => rfl
  | _, _, .cons r t, h => by
    rw [List.all_cons, Bool.and_eq_true] at h
    rw [List.all_cons, flat_of r h.1, all_flat t h.2]; rfl
theorem se_index {apos : Pos} (ha : SE X W a ea) (hb : SE X W b eb)
    (hbase : attributeBase a "index" X.env (eval a X.env) = eval a X.env := by rfl)
    (hfew : ((backTo pos (starEach [b] X.env)).all (fun x => !x.1) && (backToKw pos (keywordEach [] X.env)).all (fun x => x.1.isSome)
      && decide (([b] : List Expr).length + ([] : List Keyword).length + (if ([] : List Keyword).isEmpty then 0 else 1) < 30)) = true := by rfl)
    (hline : (apos.endLine == pos.line) = true := by rfl) (hs : starEach [b] X.env = (false, eval b X.env) :: starEach [] X.env := by rfl) (hplain : (backTo pos (starEach [] X.env)).any (·.1) = false := by rfl) :
    SE X W (.Call (.Attribute a "index" apos) [b] [] pos) (eM isLstD mIndex ea eb) :=
  .of (pe_bm PySem.F.plainAttrs_list PySem.F.slot_list_index PySem.F.type_list_index mt_index ha (pa_cons hb pa_nil hs) hbase hfew hline hs hplain) fun F H σ ρ Q h1 h2 => ⟨F, ρ, h1, Post.bind h2 fun d v F1 H1 e1 r1 q1 => by
    cases r1 with
    | @lst p vs ds g1 g2 =>
      refine ⟨.inl ⟨rfl, vs, .inl (rd_of e1.fh g1)⟩, F1, ρ, h1.ext e1, Post.bind q1 fun d2 v2 F2 H2 e2 r2 q2 => ?_⟩
      have q3 : Post X.K X.mg (DR X.K) W F2 H2 σ Q (if flatD d2 && ds.all flatD then match idxD d2 ds with | some j => .ok (.int j) | none => .stuck else .stuck) := q2
      split at q3
      · rename_i hf
        rw [Bool.and_eq_true] at hf
        split at q3
        · rename_i j hj
          have g2' := g2.mono (Sub.of_same e2.ff)
          obtain ⟨z, k1, k2, k3⟩ := idxD_DR r2 hf.1 g2' hf.2 hj
          exact ⟨p, vs, v2, j, z, rfl, rfl, .inl (rd_of e2.fh (rd_of e2.ff g1)), flat_of r2 hf.1, all_flat g2' hf.2, k1, k2, k3, q3.ok e2.fh (.int _)⟩
        · exact q3.elim
      · exact q3.elim
    | _ => exact False.elim q1⟩
def fClr (i : Nat) : Env → Fl := fun ρ => match ρ[i]? with
  | some (some (.lst _)) => .nx (ρ.set i (some (.lst [])))
  | _ => .stuck
def fExt (O : List OK) (i : Nat) (ev : Env → Out (List D)) : Env → Fl := fun ρ => match ρ[i]? with
  | some (some (.lst ds)) => fE (ev (hide O ρ)) ρ fun es => if ds.length + es.length ≤ sizeLine then .nx (ρ.set i (some (.lst (ds ++ es)))) else .stuck
  | _ => .stuck
theorem ss_ext (i : Nat) {eo : Env → Out (List D)} {x : Str} {p apos cpos : Pos} (he : SO X W e eo) (hk : kd O i = .ol := by rfl) (hl : leB O P.nx = true := by rfl) (hx : leB O P.ex = true := by rfl) (hN : X.N[i]? = some x := by rfl) (hv : Vis X.env.scope x := by first | exact Or.inl rfl | exact Or.inr (Or.inl rfl) | exact Or.inr (Or.inr rfl))
    (hd : (x == ("__debug__" : Str)) = false := by decide) (hcd : (x == ("__classdict__" : Str)) = false := by decide)
    (hbase : attributeBase (.Name x p) "extend" X.env (eval (.Name x p) X.env) = eval (.Name x p) X.env := by rfl)
    (hfew : ((backTo cpos (starEach [e] X.env)).all (fun x => !x.1) && (backToKw cpos (keywordEach [] X.env)).all (fun x => x.1.isSome)
      && decide (([e] : List Expr).length + ([] : List Keyword).length + (if ([] : List Keyword).isEmpty then 0 else 1) < 30)) = true := by rfl)
    (hline : (apos.endLine == cpos.line) = true := by rfl) (hs : starEach [e] X.env = (false, eval e X.env) :: starEach [] X.env := by rfl) (hplain : (backTo cpos (starEach [] X.env)).any (·.1) = false := by rfl)
    (hsw : swapsWith (.Call (.Attribute (.Name x p) "extend" apos) [e] [] cpos) none pos.line X.env = pure false := by rfl) :
    SS X W O P ro (.Expr (.Call (.Attribute (.Name x p) "extend" apos) [e] [] cpos) pos) (fExt O i eo) :=
  .of (ps_expr (pe_bm PySem.F.plainAttrs_list PySem.F.slot_list_extend PySem.F.type_list_extend mt_extend (pe_var (i := i) hN hv hd hcd) (pa_cons he pa_nil hs) hbase hfew hline hs hplain) hsw) fun F0 H0 F H σ ρ T r q => by
  unfold fExt at q
  split at q
  · rename_i ds hds
    obtain ⟨p, vs, a1, a2, a3, a4, a5⟩ := rep_slot r hk hds
    refine ⟨_, a1, .inl ⟨rfl, vs, .inl (.inl a2)⟩, F, hide O ρ, r.hid, ?_⟩
    refine r.postO (fun z => by rw [z] at q; exact q.elim) (fun es b us F' H' eo e' hp hf hl' rd => ?_) (fun x c dd F' H' eo r' hx' => ?_)
    · rw [eo, fE_ok] at q
      split at q
      · rename_i hz
        have r' := r.grow e'
        obtain ⟨p', vs', b1, b2, b3, b4, b5, bw⟩ := r'.write hk hds
        rw [a1] at b1
        cases b1
        refine ⟨p, b, vs', us, rfl, rfl, b2, hl', by rw [b5.length, rd.length]; exact hz, ?_⟩
        exact PostS.nxt q (bw _ _ (b5.append rd)) hl
      · exact q.elim
    · rw [eo] at q
      exact PostS.exc q r' hx hx'
  · exact q.elim
end
theorem spF_none {mg : Str → Option Value} {K : PySem.W.Frag} {vs : List V} {H : Hp} {Q : VK} {E : XK} : ¬ spF mg K (fun _ => .stuck) vs H Q E := fun ⟨_, _, _, _, h⟩ => h
theorem spO_none {mg : Str → Option Value} {K : PySem.W.Frag} {vs : List V} {H : Hp} {Q : VK} {E : XK} : ¬ spO mg K (fun _ => .stuck) vs H Q E := fun ⟨_, _, _, _, h⟩ => h
theorem defAt_of {K : PySem.W.Frag} {mg : Str → Option Value} {x : Str} {st : Stmt} {ps : List Str} {f : Addr} (hm : mg x = some (.ref f)) (c : ∃ fd, FunD K x x (defArgs st) (defBody st) (defScope st) [] [] f fd)
    (h : ∀ (kV doc pm : Value) (an : Option Addr) (cdv ct : Value) (us : List Value), us.length = ps.length → bindArgs (PySem.W.fnOf x x (defArgs st) (defBody st) (defScope st) .none kV doc pm an cdv ct) ⟨us, []⟩ = pure (ps.zip us)) : DefAt K mg x st ps := by
  obtain ⟨fd, F⟩ := c
  have b := F.bindsN h
  obtain ⟨oc, od, dV, kV, doc, pm, an, cdv, ct, osl, e, lk, hcd, hD, _⟩ := F.ex
  rcases hD with ⟨_, rfl⟩ | ⟨q, _⟩
  · exact ⟨f, fd, ⟨⟨oc, od, kV, doc, pm, an, cdv, ct, osl, e, lk, hcd⟩, F.kp⟩, hm, b⟩
  · exact absurd rfl q
section
variable {P : Program} {w : World} {K : PySem.W.Frag} {mg : Str → Option Value} {base : Heap} {x : Str} {st : Stmt} {N ps : List Str} {k : Nat}
theorem FnD.none (Df : DefAt K mg x st ps) (S : FnScope N ps (defScope st)) : FnD P w K mg base (k + 1) x (fun _ => .stuck) := by
  obtain ⟨f, fd, F, hm, hb⟩ := Df.ex
  exact ⟨f, fd, ps, F.ok S (fun vs H Q E h => absurd h spF_none) (fun cdv A outer s H vs Q E hr h => absurd h spF_none), hm, F.kp, hb⟩
theorem FnL.none (Df : DefAt K mg x st ps) (S : FnScope N ps (defScope st)) : FnL P w K mg base (k + 1) x (fun _ => .stuck) := by
  obtain ⟨f, fd, F, hm, hb⟩ := Df.ex
  exact ⟨f, fd, ps, F.ok S (fun vs H Q E h => absurd h spO_none) (fun cdv A outer s H vs Q E hr h => absurd h spO_none), hm, F.kp, hb⟩
end
theorem law_sp {mg : Str → Option Value} {K : PySem.W.Frag} {fn : List D → Out D} {H : Hp} {a : Addr} {ns : List Int} (L : fn [.scr ns] = .ok (.bl true)) (hS : SqL K H a (ns.map V.int)) : spF mg K fn [.ref a] H (fun v _ => v = .bl true) fun _ _ _ => False := by
  refine ⟨H, [.scr ns], Same.refl _, .one (.scr hS), ?_⟩
  rw [L]
  intro v F' H' _ r
  cases r
  rfl
theorem fnOk_of {P : Program} {w : World} {K : PySem.W.Frag} {mg : Str → Option Value} {base : Heap} {x : Str} {st : Stmt} {N ps : List Str} {k : Nat} {Pp : OX} {den : Env → Fl} {f : Addr} {fd : FuncData} (O : List OK) (F : Fun K x x st f fd) (S : FnScope N ps (defScope st)) (hz : fzs (O.take ps.length) = true)
    (body : ∀ (f : Addr) (cdv : Value) (A : Around) (outer : List PySem.Env) (s : Shared) (H : Hp) (E : XK), Room k (A.deeper (envOfC x (defScope st) s.heap.objs.size f cdv)) →
      SB ((cxOf CX0 P w K mg base N x (defScope st) f cdv A outer s H E).nox) W0 O Pp false (defBody st) den) : FnOk P w K mg base CX0 (k + 1) f fd ps (spF mg K (runF N.length ps.length den)) := by
  have hpl : ps.length ≤ N.length := by have := congrArg List.length S.pre; rw [List.length_take] at this; omega
  refine F.ok S (fun vs H Q E h => ?_) (fun cdv A outer s H vs Q E hr h => ?_)
  · obtain ⟨F, ds, h1, h2, h3⟩ := h
    unfold runF at h3
    split at h3
    · rename_i hl; rw [h2.length, hl]
    · exact h3.elim
  · obtain ⟨F1, ds, h1, h2, h3⟩ := h
    unfold runF at h3
    split at h3
    · rename_i hl
      refine ⟨_, body f cdv A outer s H E hr, F1, H, F1, _, rep_start h1 h2 (by rw [hl]; exact hz) (by rw [hl]; exact hpl), ?_⟩
      rw [hl]
      cases e : den (ds.map some ++ List.replicate (N.length - ps.length) none) with
      | nx ρ => rw [e] at h3; exact fun F2 H2 σ2 r2 => h3 _ F2 H2 r2.ext .non
      | ret d => rw [e] at h3; exact fun v F2 H2 e2 rv => h3 v F2 H2 e2 rv
      | exc y ρ => rw [e] at h3; exact h3.elim
      | bk ρ => rw [e] at h3; exact h3.elim
      | ct ρ => rw [e] at h3; exact h3.elim
      | stuck => rw [e] at h3; exact h3.elim
    · exact h3.elim
theorem fun_of {K : PySem.W.Frag} {x : Str} {st : Stmt} {f : Addr} {fd : FuncData} (F : FunD K x x (defArgs st) (defBody st) (defScope st) [] [] f fd) : Fun K x x st f fd := by
  obtain ⟨oc, od, dV, kV, doc, pm, an, cdv, ct, osl, e, lk, hcd, hD, _⟩ := F.ex
  rcases hD with ⟨_, rfl⟩ | ⟨q, _⟩
  · exact ⟨⟨oc, od, kV, doc, pm, an, cdv, ct, osl, e, lk, hcd⟩, F.kp⟩
  · exact absurd rfl q
end CW
namespace CW
open PySem PySem.Spec PyProof.Rows L2
section
variable {α : Type} (ρ : Env) (a b c : Env → Out D) (r : Env → Out (List D)) (t u : Env → Out Bool) (f g : Env → Fl)
def getO : Option (Option D) → Out D
  | some (some d) => .ok d
  | _ => .stuck
@[simp] theorem getO_some (d : D) : getO (some (some d)) = .ok d := (rfl)
theorem q_eV' (i : Nat) : eV i ρ = getO ρ[i]? := by
  unfold eV getO
  generalize ρ[i]? = o
  rcases o with _ | _ | d <;> rfl
@[simp] theorem q_eV (i : Nat) : eV i ρ = getO ρ[i]? := q_eV' ρ i
def seqF (o : Fl) (g : Env → Fl) : Fl := match o with
  | .nx ρ' => g ρ'
  | o => o
@[simp] theorem seqF_nx (g : Env → Fl) (r : Env) : seqF (.nx r) g = g r := (rfl)
@[simp] theorem seqF_ret (g : Env → Fl) (d : D) : seqF (.ret d) g = .ret d := (rfl)
@[simp] theorem seqF_bk (g : Env → Fl) (r : Env) : seqF (.bk r) g = .bk r := (rfl)
@[simp] theorem seqF_ct (g : Env → Fl) (r : Env) : seqF (.ct r) g = .ct r := (rfl)
@[simp] theorem seqF_exc (g : Env → Fl) (x : D) (r : Env) : seqF (.exc x r) g = .exc x r := (rfl)
def runO : Fl → Out D
  | .nx _ => .ok .non
  | .ret d => .ok d
  | _ => .stuck
@[simp] theorem runO_nx (r : Env) : runO (.nx r) = .ok .non := (rfl)
@[simp] theorem runO_ret (d : D) : runO (.ret d) = .ok d := (rfl)
def runLO : Fl → Out (List D)
  | .ret (.lst es) => .ok es
  | _ => .stuck
@[simp] theorem runLO_ret (d : List D) : runLO (.ret (.lst d)) = .ok d := (rfl)
def asgF (o : Option (List D)) (k : List D → Fl) : Fl := match o with
  | some ds => k ds
  | none => .stuck
@[simp] theorem asgF_some (ds : List D) (k : List D → Fl) : asgF (some ds) k = k ds := (rfl)
def withL (o : Option (Option D)) (k : List D → Fl) : Fl := match o with
  | some (some (.lst ds)) => k ds
  | _ => .stuck
@[simp] theorem withL_lst (ds : List D) (k : List D → Fl) : withL (some (some (.lst ds))) k = k ds := (rfl)
def withI (o : Option (Option D)) (k : Int → Fl) : Fl := match o with
  | some (some (.int i)) => k i
  | _ => .stuck
@[simp] theorem withI_int (i : Int) (k : Int → Fl) : withI (some (some (.int i))) k = k i := (rfl)
def isI (d : D) (k : Int → Fl) : Fl := match d with
  | .int i => k i
  | _ => .stuck
@[simp] theorem isI_int (i : Int) (k : Int → Fl) : isI (.int i) k = k i := (rfl)
def ixO (o : Option D) : Out D := match o with
  | some d => .ok d
  | none => .stuck
@[simp] theorem ixO_some (d : D) : ixO (some d) = .ok d := (rfl)
@[simp] theorem q_eC (d : D) : eC d ρ = .ok d := (rfl)
@[simp] theorem q_eOp (h : D → D → Out D) : eOp h a b ρ = (a ρ).bind fun x => (b ρ).bind fun y => h x y := (rfl)
@[simp] theorem q_eUn (h : D → Out D) : eUn h a ρ = (a ρ).bind h := (rfl)
def asB : D → Out Bool
  | .bl b => .ok b
  | _ => .stuck
@[simp] theorem asB_bl (x : Bool) : asB (.bl x) = .ok x := (rfl)
theorem q_tB1' : tB1 a ρ = (a ρ).bind asB := by
  unfold tB1
  congr 1
@[simp] theorem q_tB1 : tB1 a ρ = (a ρ).bind asB := q_tB1' ρ a
@[simp] theorem q_aN : aN ρ = .ok [] := (rfl)
@[simp] theorem q_aC : aC a r ρ = (a ρ).bind fun x => (r ρ).bind fun xs => .ok (x :: xs) := (rfl)
@[simp] theorem q_eTup : eTup r ρ = (r ρ).bind fun ds => if ds.length ≤ sizeLine then .ok (.tup ds) else .stuck := (rfl)
@[simp] theorem q_oLst : oLst r ρ = (r ρ).bind fun ds => if ds.length ≤ sizeLine then .ok ds else .stuck := (rfl)
@[simp] theorem q_eL : eL r ρ = (r ρ).bind fun ds => .ok (.lst ds) := (rfl)
@[simp] theorem q_pN : pN ρ = .ok none := (rfl)
def asI : D → Out (Option Int)
  | .int i => .ok (some i)
  | _ => .stuck
@[simp] theorem asI_int (x : Int) : asI (.int x) = .ok (some x) := (rfl)
@[simp] theorem q_pS : pS a ρ = (a ρ).bind asI := by
  unfold pS
  congr 1
@[simp] theorem q_eSl (l h : Env → Out (Option Int)) : eSl a l h ρ = (a ρ).bind fun x => (l ρ).bind fun l => (h ρ).bind fun h => oSl l h x := (rfl)
@[simp] theorem q_eB (h : List D → Out D) : eB h r ρ = (r ρ).bind h := (rfl)
@[simp] theorem q_oB (h : List D → Out (List D)) : oB h r ρ = (r ρ).bind h := (rfl)
@[simp] theorem q_eCall (h : List D → Out D) : eCall h r ρ = (r ρ).bind fun ds => noX (h ds) := (rfl)
@[simp] theorem q_oCall (h : List D → Out (List D)) : oCall h r ρ = (r ρ).bind fun ds => noX (h ds) := (rfl)
@[simp] theorem q_tNot : tNot' t ρ = (t ρ).bind fun b => .ok (!b) := (rfl)
@[simp] theorem q_tAnd : tAnd' t u ρ = (t ρ).bind fun b => if b then u ρ else .ok false := (rfl)
@[simp] theorem q_tOr : tOr' t u ρ = (t ρ).bind fun b => if b then .ok true else u ρ := (rfl)
@[simp] theorem q_tTru : tTru a ρ = (a ρ).bind truD := (rfl)
@[simp] theorem truD_bl (x : Bool) : truD (.bl x) = .ok x := (rfl)
@[simp] theorem truD_int (x : Int) : truD (.int x) = .ok (x != 0) := (rfl)
def andD (k : Out D) : D → Out D
  | .bl true => k
  | .bl false => .ok (.bl false)
  | _ => .stuck
def orD (k : Out D) : D → Out D
  | .bl false => k
  | .bl true => .ok (.bl true)
  | _ => .stuck
@[simp] theorem andD_t (k) : andD k (.bl true) = k := (rfl)
@[simp] theorem andD_f (k) : andD k (.bl false) = .ok (.bl false) := (rfl)
@[simp] theorem orD_f (k) : orD k (.bl false) = k := (rfl)
@[simp] theorem orD_t (k) : orD k (.bl true) = .ok (.bl true) := (rfl)
@[simp] theorem andD_ok (x y : Bool) : andD (.ok (.bl y)) (.bl x) = .ok (.bl (x && y)) := by cases x <;> rfl
@[simp] theorem orD_ok (x y : Bool) : orD (.ok (.bl y)) (.bl x) = .ok (.bl (x || y)) := by cases x <;> rfl
@[simp] theorem q_eAnd : eAnd a b ρ = (a ρ).bind (andD (b ρ)) := by
  unfold eAnd
  congr 1
@[simp] theorem q_eOr : eOr a b ρ = (a ρ).bind (orD (b ρ)) := by
  unfold eOr
  congr 1
def notD : D → Out D
  | .bl x => .ok (.bl (!x))
  | _ => .stuck
@[simp] theorem notD_bl (x : Bool) : notD (.bl x) = .ok (.bl (!x)) := (rfl)
@[simp] theorem q_eNot : eNot a ρ = (a ρ).bind notD := by
  unfold eNot
  congr 1
@[simp] theorem q_eIf : eIf t a b ρ = (t ρ).bind fun c => if c then a ρ else b ρ := (rfl)
@[simp] theorem q_eM (k : D → Bool) (h : D → D → Out D) : eM k h a b ρ = (a ρ).bind fun x => if k x then (b ρ).bind fun y => h x y else .stuck := (rfl)
@[simp] theorem q_oM (k : D → Bool) (h : D → D → Out (List D)) : oM k h a b ρ = (a ρ).bind fun x => if k x then (b ρ).bind fun y => h x y else .stuck := (rfl)
@[simp] theorem isStrD_str (z) : isStrD (.str z) = true := (rfl)
@[simp] theorem isLstD_lst (z) : isLstD (.lst z) = true := (rfl)
@[simp] theorem q_eI : eI a ρ = (a ρ).bind iSeq := (rfl)
@[simp] theorem iSeq_lst (x) : iSeq (.lst x) = .ok x := (rfl)
@[simp] theorem iSeq_tup (x) : iSeq (.tup x) = .ok x := (rfl)
@[simp] theorem iSeq_scr (x) : iSeq (.scr x) = .ok (x.map D.int) := (rfl)
@[simp] theorem iSeq_str (z : Str) : iSeq (.str z) = .ok (z.cps.toList.map fun c => .str ⟨#[c]⟩) := (rfl)
def rg1 : List D → Out (List D)
  | [.int n] => if -(2 ^ 62) ≤ n ∧ n < 2 ^ 62 then .ok (rngL 0 n) else .stuck
  | _ => .stuck
theorem rg1_int (n : Int) : rg1 [.int n] = if -(2 ^ 62) ≤ n ∧ n < 2 ^ 62 then .ok (rngL 0 n) else .stuck := rfl
def rngN (n : Nat) : List D := (List.range n).map fun (k : Nat) => .int (k : Int)
theorem rngL_0 (n : Nat) : rngL 0 (n : Int) = rngN n := by
  unfold rngL rngN
  rw [Int.sub_zero, Int.toNat_natCast]
  congr 1
  funext k
  rw [Int.zero_add]
@[simp] theorem rg1_nat {n : Nat} (h : n < 4611686018427387904) : rg1 [.int (n : Int)] = .ok (rngN n) := by
  rw [rg1_int, if_pos (by constructor <;> omega), rngL_0]
@[simp] theorem q_iRg1 : iRg1 r ρ = (r ρ).bind rg1 := by
  unfold iRg1
  congr 1
def rg2 : List D → Out (List D)
  | [.int m, .int n] => if -(2 ^ 62) ≤ m ∧ m < 2 ^ 62 ∧ -(2 ^ 62) ≤ n ∧ n < 2 ^ 62 then .ok (rngL m n) else .stuck
  | _ => .stuck
theorem rg2_int (m n : Int) : rg2 [.int m, .int n] = if -(2 ^ 62) ≤ m ∧ m < 2 ^ 62 ∧ -(2 ^ 62) ≤ n ∧ n < 2 ^ 62 then .ok (rngL m n) else .stuck := rfl
@[simp] theorem q_iRg2 : iRg2 r ρ = (r ρ).bind rg2 := by
  unfold iRg2
  congr 1
@[simp] theorem q_iEn : iEn r ρ = (r ρ).bind enumD := (rfl)
@[simp] theorem enumD_lst (es) : enumD [.lst es] = .ok (enumL es) := (rfl)
@[simp] theorem enumD_tup (es) : enumD [.tup es] = .ok (enumL es) := (rfl)
def zpD : List D → Out (List D)
  | [.lst es, .lst fs] => .ok (zipL es fs)
  | _ => .stuck
@[simp] theorem zpD_lst (es fs) : zpD [.lst es, .lst fs] = .ok (zipL es fs) := (rfl)
@[simp] theorem q_iZp : iZp r ρ = (r ρ).bind zpD := by
  unfold iZp
  congr 1
@[simp] theorem q_cYes : cYes ρ = .ok true := (rfl)
@[simp] theorem q_fNx : fNx ρ = .nx ρ := (rfl)
@[simp] theorem q_fBk : fBk ρ = .bk ρ := (rfl)
@[simp] theorem q_fCt : fCt ρ = .ct ρ := (rfl)
theorem q_fSeq' : fSeq f g ρ = seqF (f ρ) g := rfl
@[simp] theorem q_fSeq : fSeq f g ρ = seqF (f ρ) g := q_fSeq' ρ f g
@[simp] theorem q_fIf : fIf t f g ρ = fE (t ρ) ρ fun b => if b then f ρ else g ρ := (rfl)
@[simp] theorem q_fDrop : fDrop a ρ = fE (a ρ) ρ fun _ => .nx ρ := (rfl)
@[simp] theorem q_fRet : fRet a ρ = fE (a ρ) ρ fun d => .ret d := (rfl)
@[simp] theorem q_fRetN : fRetN ρ = .ret .non := (rfl)
@[simp] theorem q_fRetO : fRetO r ρ = fE (r ρ) ρ fun d => .ret (.lst d) := (rfl)
@[simp] theorem q_fRetV (i : Nat) : fRetV i ρ = withL ρ[i]? fun ds => .ret (.lst ds) := by
  unfold fRetV withL
  generalize ρ[i]? = o
  rcases o with _ | _ | d
  · rfl
  · rfl
  · cases d <;> rfl
@[simp] theorem q_fAsg (O : List OK) (i : Nat) : fAsg O i a ρ = fE (a (hide O ρ)) ρ fun d => .nx (ρ.set i (some d)) := (rfl)
@[simp] theorem q_fAsgB (i : Nat) : fAsgB i a ρ = fE (lfO (a ρ)) ρ fun d => .nx (ρ.set i (some d)) := (rfl)
@[simp] theorem q_fAsgO (O : List OK) (i : Nat) : fAsgO O i r ρ = fE (r (hide O ρ)) ρ fun d => .nx (ρ.set i (some (.lst d))) := (rfl)
@[simp] theorem q_fAsgOB (i : Nat) : fAsgOB i r ρ = fE (lfsO (r ρ)) ρ fun d => .nx (ρ.set i (some (.lst d))) := (rfl)
@[simp] theorem q_fAsgT (O : List OK) (is : List Nat) (asg : D → Option (List D)) : fAsgT O is asg a ρ = fE (a (hide O ρ)) ρ fun d => asgF (asg d) fun ds => .nx (setsE ρ (is.zip ds)) := (rfl)
@[simp] theorem q_fAsgTB (is : List Nat) (asg : D → Option (List D)) : fAsgTB is asg a ρ = fE (lfO (a ρ)) ρ fun d => asgF (asg d) fun ds => .nx (setsE ρ (is.zip ds)) := (rfl)
@[simp] theorem q_fFor (O : List OK) (is : List Nat) (asg : D → Option (List D)) : fFor O is asg r f ρ = fE (r (hide O ρ)) ρ fun ds => forL is asg f ds ρ := (rfl)
@[simp] theorem q_fAug (i : Nat) : fAug i a ρ = withI ρ[i]? fun x => fE (a ρ) ρ fun d => isI d fun y => .nx (ρ.set i (some (.int (x + y)))) := by
  unfold fAug withI
  generalize ρ[i]? = o
  rcases o with _ | _ | d
  · rfl
  · rfl
  · cases d <;> rfl
@[simp] theorem q_fApp (O : List OK) (i : Nat) : fApp O i a ρ = withL ρ[i]? fun ds => fE (a (hide O ρ)) ρ fun d => if ds.length < sizeLine then .nx (ρ.set i (some (.lst (ds ++ [d])))) else .stuck := by
  unfold fApp withL
  generalize ρ[i]? = o
  rcases o with _ | _ | d
  · rfl
  · rfl
  · cases d <;> rfl
@[simp] theorem q_fAppB (i : Nat) : fAppB i a ρ = withL ρ[i]? fun ds => fE (lfO (a ρ)) ρ fun d => if ds.length < sizeLine then .nx (ρ.set i (some (.lst (ds ++ [d])))) else .stuck := by
  unfold fAppB withL
  generalize ρ[i]? = o
  rcases o with _ | _ | d
  · rfl
  · rfl
  · cases d <;> rfl
@[simp] theorem q_fExt (O : List OK) (i : Nat) : fExt O i r ρ = withL ρ[i]? fun ds => fE (r (hide O ρ)) ρ fun es => if ds.length + es.length ≤ sizeLine then .nx (ρ.set i (some (.lst (ds ++ es)))) else .stuck := by
  unfold fExt withL
  generalize ρ[i]? = o
  rcases o with _ | _ | d
  · rfl
  · rfl
  · cases d <;> rfl
@[simp] theorem q_fClr (i : Nat) : fClr i ρ = withL ρ[i]? fun ds => .nx (ρ.set i (some (.lst []))) := by
  unfold fClr withL
  generalize ρ[i]? = o
  rcases o with _ | _ | d
  · rfl
  · rfl
  · cases d <;> rfl
@[simp] theorem hide_nil : hide [] ρ = ρ := (rfl)
@[simp] theorem hide_fz (O : List OK) (x : Option D) : hide (.fz :: O) (x :: ρ) = x :: hide O ρ := (rfl)
@[simp] theorem hide_ol (O : List OK) (x : Option D) : hide (.ol :: O) (x :: ρ) = none :: hide O ρ := (rfl)
@[simp] theorem hide_e (O : List OK) : hide O [] = [] := by cases O <;> rfl
@[simp] theorem gN_eq (d : D) : gN d = some [d] := (rfl)
@[simp] theorem gT_tup (n : Nat) (ds : List D) : gT n (.tup ds) = if ds.length = n then some ds else none := (rfl)
@[simp] theorem forL_nil (is : List Nat) (asg : D → Option (List D)) : forL is asg f [] ρ = .nx ρ := (rfl)
theorem forL_cons (is : List Nat) (asg : D → Option (List D)) (d : D) (ds : List D) : forL is asg f (d :: ds) ρ = match asg d with
    | none => .stuck
    | some es => match f (setsE ρ (is.zip es)) with
      | .nx ρ' => forL is asg f ds ρ'
      | .ct ρ' => forL is asg f ds ρ'
      | .bk ρ' => .nx ρ'
      | o => o := rfl
section
variable {is : List Nat} {asg : D → Option (List D)} {d : D} {ds es : List D} {r : Env} {x : D}
theorem forL_nx (ha : asg d = some es) (h : f (setsE ρ (is.zip es)) = .nx r) : forL is asg f (d :: ds) ρ = forL is asg f ds r := by rw [forL_cons, ha]; dsimp only; rw [h]
theorem forL_ret (ha : asg d = some es) (h : f (setsE ρ (is.zip es)) = .ret x) : forL is asg f (d :: ds) ρ = .ret x := by rw [forL_cons, ha]; dsimp only; rw [h]
end
@[simp] theorem compL_nil (is : List Nat) (asg : D → Option (List D)) : compL is asg t a ρ [] = .ok [] := (rfl)
theorem compL_cons (is : List Nat) (asg : D → Option (List D)) (d : D) (ds : List D) : compL is asg t a ρ (d :: ds) = match asg d with
    | none => .stuck
    | some es => (noX (t (setsE ρ (is.zip es)))).bind fun b => match b with
      | true => (noX (a (setsE ρ (is.zip es)))).bind fun y => (compL is asg t a ρ ds).bind fun ys => .ok (y :: ys)
      | false => compL is asg t a ρ ds := rfl
@[simp] theorem q_oLc (vs is : List Nat) (ei : Env → Out (List D)) (asg : D → Option (List D)) : oLc vs is ei asg t a ρ = (ei ρ).bind fun ds => if ds.length ≤ sizeLine then compL is asg t a (wipeE ρ vs) ds else .stuck := (rfl)
end
section
variable (i j : Int) (x y : Str) (b c : Bool)
@[simp] theorem oAdd_int : oAdd (.int i) (.int j) = .ok (.int (i + j)) := (rfl)
@[simp] theorem oAdd_str : oAdd (.str x) (.str y) = if x.length + y.length ≤ sizeLine then .ok (.str (x ++ y)) else .stuck := (rfl)
@[simp] theorem oAdd_tup (xs ys : List D) : oAdd (.tup xs) (.tup ys) = if xs.length + ys.length ≤ sizeLine then .ok (.tup (xs ++ ys)) else .stuck := (rfl)
@[simp] theorem oAdd_lst (xs ys : List D) : oAdd (.lst xs) (.lst ys) = if xs.length + ys.length ≤ sizeLine then .ok (.lst (xs ++ ys)) else .stuck := (rfl)
@[simp] theorem oSub_int : oSub (.int i) (.int j) = .ok (.int (i - j)) := (rfl)
@[simp] theorem oMul_int : oMul (.int i) (.int j) = if mulOk i j then .ok (.int (i * j)) else .stuck := (rfl)
@[simp] theorem oDiv_int : oDiv (.int i) (.int j) = if 0 < j ∧ j < 2 ^ 64 then .ok (.int (i / j)) else .stuck := (rfl)
@[simp] theorem oMod_int : oMod (.int i) (.int j) = if 0 < j then .ok (.int (i % j)) else .stuck := (rfl)
@[simp] theorem oPow_int : oPow (.int i) (.int j) = if 0 ≤ j ∧ j ≤ 1000000 ∧ i.natAbs < 2 ^ 64 then .ok (.int (i ^ j.toNat)) else .stuck := (rfl)
@[simp] theorem oShl_int : oShl (.int i) (.int j) = if 0 ≤ j ∧ j ≤ 1000000 ∧ i.natAbs < 2 ^ 64 then .ok (.int (i * 2 ^ j.toNat)) else .stuck := (rfl)
@[simp] theorem oShr_int : oShr (.int i) (.int j) = if 0 ≤ j then .ok (.int (i / 2 ^ j.toNat)) else .stuck := (rfl)
@[simp] theorem oAnd_int : oAnd (.int i) (.int j) = .ok (.int (Builtin.bitAnd i j)) := (rfl)
@[simp] theorem oOr_int : oOr (.int i) (.int j) = .ok (.int (Builtin.bitOr i j)) := (rfl)
@[simp] theorem oXor_int : oXor (.int i) (.int j) = .ok (.int (Builtin.bitXor i j)) := (rfl)
@[simp] theorem oLt_int : oLt (.int i) (.int j) = .ok (.bl (decide (i < j))) := (rfl)
@[simp] theorem oLe_int : oLe (.int i) (.int j) = .ok (.bl (decide (i ≤ j))) := (rfl)
@[simp] theorem oGt_int : oGt (.int i) (.int j) = .ok (.bl (decide (j < i))) := (rfl)
@[simp] theorem oGe_int : oGe (.int i) (.int j) = .ok (.bl (decide (j ≤ i))) := (rfl)
@[simp] theorem oNeg_int : oNeg (.int i) = .ok (.int (-i)) := (rfl)
@[simp] theorem oEq_int : oEq (.int i) (.int j) = .ok (.bl (i == j)) := by simp [oEq, eqOk, scalD]
@[simp] theorem oNe_int : oNe (.int i) (.int j) = .ok (.bl (!(i == j))) := by simp [oNe, eqOk, scalD]
@[simp] theorem oEq_bl : oEq (.bl b) (.bl c) = .ok (.bl (b == c)) := by simp [oEq, eqOk, scalD]
@[simp] theorem oNe_bl : oNe (.bl b) (.bl c) = .ok (.bl (!(b == c))) := by simp [oNe, eqOk, scalD]
@[simp] theorem oEq_str : oEq (.str x) (.str y) = .ok (.bl (x == y)) := by simp [oEq, eqOk, scalD]
@[simp] theorem oNe_str : oNe (.str x) (.str y) = .ok (.bl (!(x == y))) := by simp [oNe, eqOk, scalD]
theorem oEq_ok {d e : D} (h1 : okD 60 d = true) (h2 : okD 60 e = true) : oEq d e = .ok (.bl (eqD d e)) := by simp [oEq, eqOk, h1, h2]
theorem oNe_ok {d e : D} (h1 : okD 60 d = true) (h2 : okD 60 e = true) : oNe d e = .ok (.bl (!eqD d e)) := by simp [oNe, eqOk, h1, h2]
@[simp] theorem oEq_tup (d e : List D) : oEq (.tup d) (.tup e) = if okDs 59 d && okDs 59 e then .ok (.bl (eqDs d e)) else .stuck := by simp [oEq, eqOk, scalD]
@[simp] theorem oNe_tup (d e : List D) : oNe (.tup d) (.tup e) = if okDs 59 d && okDs 59 e then .ok (.bl (!eqDs d e)) else .stuck := by simp [oNe, eqOk, scalD]
@[simp] theorem oEq_lst (d e : List D) : oEq (.lst d) (.lst e) = if okDs 59 d && okDs 59 e then .ok (.bl (eqDs d e)) else .stuck := by simp [oEq, eqOk, scalD]
@[simp] theorem oNe_lst (d e : List D) : oNe (.lst d) (.lst e) = if okDs 59 d && okDs 59 e then .ok (.bl (!eqDs d e)) else .stuck := by simp [oNe, eqOk, scalD]
@[simp] theorem oIsN_non (d : D) : oIsN d .non = .ok (.bl (isNon d)) := (rfl)
@[simp] theorem oNotN_non (d : D) : oNotN d .non = .ok (.bl (!isNon d)) := (rfl)
@[simp] theorem oIsB_bl : oIsB (.bl b) (.bl c) = .ok (.bl (b == c)) := (rfl)
@[simp] theorem oNotB_bl : oNotB (.bl b) (.bl c) = .ok (.bl (!(b == c))) := (rfl)
@[simp] theorem isNon_non : isNon .non = true := (rfl)
@[simp] theorem isNon_tup (x) : isNon (.tup x) = false := (rfl)
@[simp] theorem isNon_int (x) : isNon (.int x) = false := (rfl)
@[simp] theorem bTuple_lst (ds) : bTuple [.lst ds] = .ok (.tup ds) := (rfl)
@[simp] theorem bTuple_tup (ds) : bTuple [.tup ds] = .ok (.tup ds) := (rfl)
@[simp] theorem bList_lst (ds) : bList [.lst ds] = .ok ds := (rfl)
@[simp] theorem bList_tup (ds) : bList [.tup ds] = .ok ds := (rfl)
theorem bSum_ints (ns : List Int) : bSum [.lst (ns.map D.int)] = .ok (.int ns.sum) := by simp [bSum]
theorem oIx_tup (ds : List D) : oIx (.tup ds) (.int i) = match atI ds i with | some d => .ok d | none => .stuck := (rfl)
theorem oIx_lst (ds : List D) : oIx (.lst ds) (.int i) = match atI ds i with | some d => .ok d | none => .stuck := (rfl)
theorem oIx_scr (ds : List Int) : oIx (.scr ds) (.int i) = match atI ds i with | some d => .ok (.int d) | none => .stuck := (rfl)
@[simp] theorem oSl_lst (l h) (ds : List D) : oSl l h (.lst ds) = .ok (.lst (cutL ds l h)) := (rfl)
@[simp] theorem oSl_tup (l h) (ds : List D) : oSl l h (.tup ds) = .ok (.tup (cutL ds l h)) := (rfl)
@[simp] theorem oSl_scr (l h) (ds : List Int) : oSl l h (.scr ds) = .ok (.lst ((cutL ds l h).map D.int)) := (rfl)
@[simp] theorem oSl_str (l h) : oSl l h (.str x) = if x.length ≤ sizeLine then .ok (.str (cutS x l h)) else .stuck := (rfl)
@[simp] theorem isD_int (t : Ty) : isD t (.int i) = .ok (.bl (t == .int)) := by cases t <;> rfl
@[simp] theorem isD_bl (t : Ty) : isD t (.bl b) = .ok (.bl (t == .bool || t == .int)) := by cases t <;> rfl
@[simp] theorem isD_str (t : Ty) : isD t (.str x) = .ok (.bl (t == .str)) := by cases t <;> rfl
@[simp] theorem isD_tup (t : Ty) (z) : isD t (.tup z) = .ok (.bl (t == .tuple)) := by cases t <;> rfl
@[simp] theorem isD_lst (t : Ty) (z) : isD t (.lst z) = .ok (.bl (t == .list)) := by cases t <;> rfl
end
@[simp] theorem q_runF (n p : Nat) (den : Env → Fl) (ds : List D) : runF n p den ds = if ds.length = p then runO (den (ds.map some ++ List.replicate (n - p) none)) else .stuck := by
  unfold runF runO
  rfl
@[simp] theorem q_runL (n p : Nat) (den : Env → Fl) (ds : List D) : runL n p den ds = if ds.length = p then runLO (den (ds.map some ++ List.replicate (n - p) none)) else .stuck := by
  unfold runL runLO
  rfl
theorem le_line {n : Nat} (h : n ≤ 1000000) : n ≤ sizeLine := Nat.le_trans h (by rw [sizeLine_eq]; decide)
theorem lt_line {n : Nat} (h : n < 1000000) : n < sizeLine := Nat.lt_of_lt_of_le h (by rw [sizeLine_eq]; decide)
@[simp] theorem le_line_t {n : Nat} (h : n ≤ 1000000) : (n ≤ sizeLine) = True := eq_true (le_line h)
@[simp] theorem lt_line_t {n : Nat} (h : n < 1000000) : (n < sizeLine) = True := eq_true (lt_line h)
end CW
namespace CW
open PySem PySem.Spec PyProof.Rows L2

abbrev RoomU := L2H.RoomH
structure FnU (P : Program) (w : World) (K : PySem.W.Frag) (mg : Str → Option Value) (base : Heap) (XT : CXT) (k : Nat) (f : Addr) (fd : FuncData) (ps : List Str) (sp : Sp) : Prop where
  lenU : ∀ vs H Q E, sp vs H Q E → vs.length = ps.length
  runU : ∀ (A : Around) (out : List PySem.Env) (s : Shared) (H : Hp) (as : Args) (us : List Value) (vs : List V) (Q : VK) (E : XK), RoomU k A → Env0 P w K mg base A out s H → BindsTo s fd as (ps.zip us) → Vals vs us → sp vs H Q E →
    codeAny (model P w) A (.call (.ref f) as) (CR XT out P w H s Q E) s
section
variable {P : Program} {w : World} {K : PySem.W.Frag} {mg : Str → Option Value} {base : Heap} {XT : CXT} {k : Nat} {f : Addr} {fd : FuncData} {ps : List Str} {sp : Sp}
theorem FnU.fnOk (F : FnU P w K mg base XT k f fd ps sp) : FnOk P w K mg base XT k f fd ps sp :=
  ⟨F.lenU, fun A out s H as us vs Q E hr => F.runU A out s H as us vs Q E (L2H.roomH_of hr)⟩
theorem FnU.mono {j : Nat} (F : FnU P w K mg base XT k f fd ps sp) (h : k ≤ j) : FnU P w K mg base XT j f fd ps sp :=
  ⟨F.lenU, fun A out s H as us vs Q E hr => F.runU A out s H as us vs Q E (hr.mono h)⟩
end
section
variable {P : Program} {w : World} {K : PySem.W.Frag} {mg : Str → Option Value} {base : Heap} {XT : CXT} {k : Nat} {f : Addr} {fd : FuncData} {N ps : List Str} {sp : Sp}
end
section
variable {X : Cx} {XT : CXT} {k : Nat} {f : Addr} {fd : FuncData} {ps : List Str} {sp : Sp} {E : St → XK} {x : Str} {q pos : Pos} {e : Expr} {es : List Expr} {t : TA}
end
structure FnDU (P : Program) (w : World) (K : PySem.W.Frag) (mg : Str → Option Value) (base : Heap) (k : Nat) (x : Str) (fn : List D → Out D) : Prop where
  ex : ∃ f fd ps, FnU P w K mg base CX0 k f fd ps (spF mg K fn) ∧ mg x = some (.ref f) ∧ PySem.W.keepIn K (.ref f) = true ∧ Binds K fd ps []
structure FnLU (P : Program) (w : World) (K : PySem.W.Frag) (mg : Str → Option Value) (base : Heap) (k : Nat) (x : Str) (fn : List D → Out (List D)) : Prop where
  ex : ∃ f fd ps, FnU P w K mg base CX0 k f fd ps (spO mg K fn) ∧ mg x = some (.ref f) ∧ PySem.W.keepIn K (.ref f) = true ∧ Binds K fd ps []
section
variable {P : Program} {w : World} {K : PySem.W.Frag} {mg : Str → Option Value} {base : Heap} {x : Str} {st : Stmt} {N ps : List Str} {k : Nat} {Pp : OX} {den : Env → Fl}
theorem FnDU.g {fn : List D → Out D} (h : FnDU P w K mg base k x fn) : FnD P w K mg base k x fn := by
  obtain ⟨f, fd, ps, F, r⟩ := h.ex
  exact ⟨f, fd, ps, F.fnOk, r⟩
theorem FnLU.g {fn : List D → Out (List D)} (h : FnLU P w K mg base k x fn) : FnL P w K mg base k x fn := by
  obtain ⟨f, fd, ps, F, r⟩ := h.ex
  exact ⟨f, fd, ps, F.fnOk, r⟩
theorem FnDU.mono {k' : Nat} {fn : List D → Out D} (h : FnDU P w K mg base k x fn) (hk : k ≤ k') : FnDU P w K mg base k' x fn := by
  obtain ⟨f, fd, ps, F, r⟩ := h.ex
  exact ⟨f, fd, ps, F.mono hk, r⟩
theorem FnLU.mono {k' : Nat} {fn : List D → Out (List D)} (h : FnLU P w K mg base k x fn) (hk : k ≤ k') : FnLU P w K mg base k' x fn := by
  obtain ⟨f, fd, ps, F, r⟩ := h.ex
  exact ⟨f, fd, ps, F.mono hk, r⟩
end
section
variable {X : Cx} {W : WX} {e : Expr} {es : List Expr} {x : Str} {p pos : Pos}
end
end CW
namespace CW
open PySem PySem.Spec PyProof.Rows L2
structure CinB (K : PySem.W.Frag) (C : Addr) : Prop where
  ga : PySem.W.specialIn K (.ref C) "__getattribute__" = some (some (.builtin "type.__getattribute__"))
  ty : PySem.W.typeIn K (.ref C) = some (.type "type")
  rd : PySem.W.readsIn K C (.type "type") = true
  fc : PySem.W.findCls K (.ref C) (.type "type") "__init__" = some (.val (.builtin "ValueError.__init__"))
structure XF (K : PySem.W.Frag) (mg : Str → Option Value) (n : Str) : Prop where
  glo : mg n = some (.ref (He.ga K n))
  oex : OexC K (He.ga K n)
  exc : ExcC K (He.ga K n)
  xf : XfC K (He.ga K n)
  fld : ∀ f ∈ fieldsOf n, PySem.W.findIn K (.ref (He.ga K n)) f = some none
def subX (n x : Str) : Bool := n == x || (x == "CalmError" || x == "ValueError")
structure XP (K : PySem.W.Frag) (n x : Str) : Prop where
  exm : PySem.W.exmOne K (.ref (He.ga K n)) (.ref (He.ga K x)) = some (subX n x)
  kit : PySem.W.kitOne K (.ref (He.ga K n)) (.ref (He.ga K x)) = some (subX n x)
end CW
namespace CW
open PySem PySem.Spec PyProof.Rows L2

section
variable {X : Cx} {W : WX} {O : List OK} {P : OX} {ro : Bool} {e : Expr} {es : List Expr} {ta : TA} {er : Env → Out (List D)}
def spI (K : PySem.W.Frag) (n : Str) : Sp := fun vs H Q _ => ∃ (a : Addr) (ws : List V), vs = .ref a :: ws ∧ ws.length = (fieldsOf n).length ∧ H a = some (exo a (He.ga K n) none) ∧
  ∀ d, H d = none → d ≠ a → Q .non (upd (upd H d (exd d ((fieldsOf n).zip ws).reverse)) a (exo a (He.ga K n) (some d)))
structure XI (P : Program) (w : World) (K : PySem.W.Frag) (mg : Str → Option Value) (base : Heap) (n : Str) : Prop where
  ex : ∃ fI fd ps, PySem.W.findIn K (.ref (He.ga K n)) "__init__" = some (some (.ref fI)) ∧ PySem.W.typeIn K (.ref fI) = some (.type "function") ∧ FnU P w K mg base CX0 1 fI fd ps (spI K n) ∧ Binds K fd ps []
def fRaise (n : Str) (ea : Env → Out (List D)) : Env → Fl := fun ρ => fE (ea ρ) ρ fun ds => if ds.length = (fieldsOf n).length then .exc (.exn n ds) ρ else .stuck
theorem flen (n : Str) : (fieldsOf n).length ≤ 3 := by
  unfold fieldsOf
  repeat' split
  all_goals simp
end
structure FnDX (P : Program) (w : World) (K : PySem.W.Frag) (mg : Str → Option Value) (base : Heap) (k : Nat) (x : Str) (fn : List D → Out D) : Prop where
  ex : ∃ f fd ps, FnOk P w K mg base (L2.CX P w) k f fd ps (spF mg K fn) ∧ mg x = some (.ref f) ∧ PySem.W.keepIn K (.ref f) = true ∧ Binds K fd ps []
structure FnLX (P : Program) (w : World) (K : PySem.W.Frag) (mg : Str → Option Value) (base : Heap) (k : Nat) (x : Str) (fn : List D → Out (List D)) : Prop where
  ex : ∃ f fd ps, FnOk P w K mg base (L2.CX P w) k f fd ps (spO mg K fn) ∧ mg x = some (.ref f) ∧ PySem.W.keepIn K (.ref f) = true ∧ Binds K fd ps []
def eCallX (fn : List D → Out D) (ea : Env → Out (List D)) : Env → Out D := fun ρ => (ea ρ).bind fn
def oCallX (fn : List D → Out (List D)) (ea : Env → Out (List D)) : Env → Out (List D) := fun ρ => (ea ρ).bind fn
section
variable {X : Cx} {W : WX} {e : Expr} {es : List Expr} {x : Str} {p pos : Pos}
end
def runFX (n p : Nat) (den : Env → Fl) : List D → Out D := fun ds => if ds.length = p then match den (ds.map some ++ List.replicate (n - p) none) with
  | .nx _ => .ok .non
  | .ret d => .ok d
  | .exc x _ => .exc x
  | _ => .stuck else .stuck
def runLX (n p : Nat) (den : Env → Fl) : List D → Out (List D) := fun ds => if ds.length = p then match den (ds.map some ++ List.replicate (n - p) none) with
  | .ret (.lst es) => .ok es
  | .exc x _ => .exc x
  | _ => .stuck else .stuck
abbrev WD (E : XK) : WX := fun c d _ H => E c d H
section
variable {P : Program} {w : World} {K : PySem.W.Frag} {mg : Str → Option Value} {base : Heap} {x : Str} {st : Stmt} {N ps : List Str} {k : Nat} {Pp : OX} {den : Env → Fl}
theorem FnDX.mono {k' : Nat} {fn : List D → Out D} (h : FnDX P w K mg base k x fn) (hk : k ≤ k') : FnDX P w K mg base k' x fn := by
  obtain ⟨f, fd, ps, F, r⟩ := h.ex
  exact ⟨f, fd, ps, F.mono hk, r⟩
theorem FnLX.mono {k' : Nat} {fn : List D → Out (List D)} (h : FnLX P w K mg base k x fn) (hk : k ≤ k') : FnLX P w K mg base k' x fn := by
  obtain ⟨f, fd, ps, F, r⟩ := h.ex
  exact ⟨f, fd, ps, F.mono hk, r⟩
end
end CW
namespace CW
open PySem PySem.Spec PyProof.Rows L2
section
variable {X : Cx} {pins : List (Addr × Obj)} {σ : St} {H : Hp} {s : Shared} {a : Addr} {cls : Value} {d : Option Addr} {oe : Obj} {vs : Array Value}
end
abbrev suT (X : Cx) (a : Addr) (pn : List (Addr × Obj)) : Cx := { X with A := X.A.mark (some (.ref a)), calm := false, pn := pn, xe := fun _ _ => False }
section
variable {X : Cx} {pins : List (Addr × Obj)} {σ : St} {H : Hp} {s : Shared}
end
def endsOff (D : Ends) : Option Nat → Ends
  | none => D
  | some i => { nx := fun σ H => D.nx (σ.set i none) H, rt := D.rt, bk := fun σ H => D.bk (σ.set i none) H, ct := fun σ H => D.ct (σ.set i none) H }
def setO {α : Type} (i : Option Nat) (v : α) (σ : List (Option α)) : List (Option α) := match i with
  | none => σ
  | some i => σ.set i (some v)
def wT (K : PySem.W.Frag) (Wout : WX) (T : Ends) : List (Value × Option Nat × (Addr → Value → Option Addr → TS)) → WX
  | [] => Wout
  | (c, i, ts) :: r => fun cls d σ H => ∃ b, PySem.W.exmOne K cls c = some b ∧ (b = true → ∀ a, H a = none → ts a cls d (endsOff T i) (setO i (.ref a) σ) (upd H a (exH false cls d a))) ∧ (b = false → wT K Wout T r cls d σ H)
inductive HdT (X : Cx) : List ExceptHandler → List (Value × Option Nat × (Addr → Value → Option Addr → TS)) → Prop
  | nil : HdT X [] []
  | cons {x : Str} {c : Value} {ts : Addr → Value → Option Addr → TS} {b₀ : Stmt} {suite : List Stmt} {np pos' : Pos} {hds : List ExceptHandler} {l : List (Value × Option Nat × (Addr → Value → Option Addr → TS))} (hc : Names X x c)
      (hsu : ∀ (a : Addr) (cls : Value) (d : Option Addr) (pn : List (Addr × Obj)), PSs (suT X a pn) (b₀ :: suite) (ts a cls d)) (r : HdT X hds l) : HdT X (.ExceptHandler (some (.Name x np)) none (b₀ :: suite) pos' :: hds) ((c, none, ts) :: l)
  | as {x n : Str} {i : Nat} {c : Value} {ts : Addr → Value → Option Addr → TS} {b₀ : Stmt} {suite : List Stmt} {np pos' : Pos} {hds : List ExceptHandler} {l : List (Value × Option Nat × (Addr → Value → Option Addr → TS))} (hN : X.N.Nodup) (hi : X.N[i]? = some n) (hln : X.env.kindOf n = some .local) (hc : Names X x c)
      (hsu : ∀ (a : Addr) (cls : Value) (d : Option Addr) (pn : List (Addr × Obj)), PSs (suT X a pn) (b₀ :: suite) (ts a cls d)) (r : HdT X hds l) : HdT X (.ExceptHandler (some (.Name x np)) (some n) (b₀ :: suite) pos' :: hds) ((c, some i, ts) :: l)
section
variable {X : Cx} {body : List Stmt} {h₀ : ExceptHandler} {hds : List ExceptHandler} {l : List (Value × Option Nat × (Addr → Value → Option Addr → TS))} {pos : Pos} {tb : WX → TS} {Wout : WX}
end
end CW
namespace CW
open PySem PySem.Spec PyProof.Rows L2
section
variable {X : Cx} {W : WX} {a c : Expr} {ea : Env → Out D} {pos : Pos}
def xfD (cs : List Str) (f : Str) : D → Out D
  | .exn n fs => if n ∈ cs then (match ((fieldsOf n).zip fs).reverse.lookup f with
    | some d => .ok d
    | none => .stuck) else .stuck
  | _ => .stuck
inductive KVs (K : PySem.W.Frag) (F : Hp) : List (Str × V) → List (Str × D) → Prop
  | nil : KVs K F [] []
  | cons {k : Str} {v : V} {d : D} {xs : List (Str × V)} {ys : List (Str × D)} : DR K F v d → KVs K F xs ys → KVs K F ((k, v) :: xs) ((k, d) :: ys)
theorem KVs.append {K : PySem.W.Frag} {F : Hp} : ∀ {a b : List (Str × V)} {c e : List (Str × D)}, KVs K F a c → KVs K F b e → KVs K F (a ++ b) (c ++ e)
  | _, _, _, _, .nil, h => h
  | _, _, _, _, .cons h t, h' => .cons h (t.append h')
theorem KVs.rev {K : PySem.W.Frag} {F : Hp} : ∀ {a : List (Str × V)} {c : List (Str × D)}, KVs K F a c → KVs K F a.reverse c.reverse
  | _, _, .nil => .nil
  | _, _, .cons h t => by
    rw [List.reverse_cons, List.reverse_cons]
    exact t.rev.append (.cons h .nil)
theorem KVs.zip {K : PySem.W.Frag} {F : Hp} : ∀ {ks : List Str} {vs : List V} {ds : List D}, DRs K F vs ds → KVs K F (ks.zip vs) (ks.zip ds)
  | [], _, _, _ => by simp; exact .nil
  | _ :: _, _, _, .nil => by simp; exact .nil
  | _ :: _, _, _, .cons h t => .cons h (KVs.zip t)
theorem KVs.look {K : PySem.W.Frag} {F : Hp} {f : Str} {d : D} : ∀ {a : List (Str × V)} {c : List (Str × D)}, KVs K F a c → c.lookup f = some d → ∃ v, a.lookup f = some v ∧ DR K F v d
  | _, _, .nil, h => by simp at h
  | _, _, .cons (k := k) (v := v) h t, e => by
    rw [List.lookup_cons] at e ⊢
    cases q : f == k with
    | true => rw [q] at e; cases e; exact ⟨v, rfl, h⟩
    | false => rw [q] at e; exact t.look e
def isXD (cs : List Str) (x : Str) : D → Out D
  | .exn n _ => if n ∈ cs then .ok (.bl (subX n x)) else .stuck
  | _ => .stuck
end
end CW
namespace CW
open PySem PySem.Spec PyProof.Rows L2
def offF : Option Nat → Fl → Fl
  | none, .exc _ _ => .stuck
  | some _, .exc _ _ => .stuck
  | some i, .nx ρ => .nx (ρ.set i none)
  | some i, .bk ρ => .bk (ρ.set i none)
  | some i, .ct ρ => .ct (ρ.set i none)
  | _, o => o
def hdF (cs : List Str) : List (Str × Option Nat × (Env → Fl)) → D → Env → Fl
  | [], x, ρ => .exc x ρ
  | (c, i, h) :: l, x, ρ => match x with
    | .exn n fs => if n ∈ cs then (if subX n c then offF i (h (setO i (.exn n fs) ρ)) else hdF cs l (.exn n fs) ρ) else .stuck
    | _ => .stuck
def fTry (cs : List Str) (b : Env → Fl) (hs : List (Str × Option Nat × (Env → Fl))) : Env → Fl := fun ρ => match b ρ with
  | .exc x ρ' => hdF cs hs x ρ'
  | o => o
theorem Rep.unset {K : PySem.W.Frag} {F0 H0 F H : Hp} {O : List OK} {σ : St} {ρ : Env} (r : Rep K F0 H0 O F H σ ρ) (i : Nat) : Rep K F0 H0 O F H (σ.set i none) (ρ.set i none) := by
  obtain ⟨fp, h1, h2, h3⟩ := r.sl
  refine ⟨r.ext, by rw [List.length_set, List.length_set]; exact r.len, fp, fun j d hj => ?_, h2, h3⟩
  have hji : j ≠ i := fun z => by
    subst z
    by_cases hl : j < ρ.length
    · rw [List.getElem?_set_self hl] at hj; cases hj
    · rw [List.getElem?_eq_none (by rw [List.length_set]; omega)] at hj; cases hj
  rw [List.getElem?_set_ne (Ne.symm hji)] at hj ⊢
  exact h1 j d hj
theorem rep_setOf {K : PySem.W.Frag} {F0 H0 F H : Hp} {σ : St} {ρ : Env} (r : Rep K F0 H0 [] F H σ ρ) {v : V} {d : D} (i : Option Nat) (h : DR K F v d) : Rep K F0 H0 [] F H (setO i v σ) (setO i d ρ) := by
  cases i with
  | none => exact r
  | some i => exact r.set i h
theorem PostS.off {K : PySem.W.Frag} {mg : Str → Option Value} {W : WX} {F0 H0 : Hp} {P : OX} {ro : Bool} {T : Ends} {i : Option Nat} {o : Fl} (q : PostS K mg W F0 H0 P ro T (offF i o)) : PostS K mg W0 F0 H0 P ro (endsOff T i) o := by
  cases i with
  | none =>
    cases o with
    | exc x ρ => exact q.elim
    | _ => exact q
  | some i =>
    cases o with
    | exc x ρ => exact q.elim
    | nx ρ => exact fun F H σ r => q F H _ (r.unset i)
    | bk ρ => exact fun F H σ r => q F H _ (r.unset i)
    | ct ρ => exact fun F H σ r => q F H _ (r.unset i)
    | ret d => exact q
    | stuck => exact q
inductive HdS (X : Cx) (cs : List Str) (P : OX) (ro : Bool) : List ExceptHandler → List (Str × Option Nat × (Env → Fl)) → Prop
  | nil : HdS X cs P ro [] []
  | cons {x : Str} {b₀ : Stmt} {suite : List Stmt} {np pos' : Pos} {hds : List ExceptHandler} {l : List (Str × Option Nat × (Env → Fl))} {h : Env → Fl} (hX : X.mg x = some (.ref (He.ga X.K x))) (hp : ∀ n ∈ cs, XP X.K n x)
      (hs : ∀ (a : Addr) (pn : List (Addr × Obj)), SB (suT X a pn) W0 [] P ro (b₀ :: suite) h) (r : HdS X cs P ro hds l) (hg : Gl X x := by rfl) (hdb : (x == ("__debug__" : Str)) = false := by decide) : HdS X cs P ro (.ExceptHandler (some (.Name x np)) none (b₀ :: suite) pos' :: hds) ((x, none, h) :: l)
  | as {x n : Str} (i : Nat) {b₀ : Stmt} {suite : List Stmt} {np pos' : Pos} {hds : List ExceptHandler} {l : List (Str × Option Nat × (Env → Fl))} {h : Env → Fl} (hN : X.N.Nodup) (hX : X.mg x = some (.ref (He.ga X.K x))) (hp : ∀ n ∈ cs, XP X.K n x)
      (hs : ∀ (a : Addr) (pn : List (Addr × Obj)), SB (suT X a pn) W0 [] P ro (b₀ :: suite) h) (r : HdS X cs P ro hds l) (hi : X.N[i]? = some n := by rfl) (hln : X.env.kindOf n = some .local := by rfl) (hg : Gl X x := by rfl) (hdb : (x == ("__debug__" : Str)) = false := by decide) :
      HdS X cs P ro (.ExceptHandler (some (.Name x np)) (some n) (b₀ :: suite) pos' :: hds) ((x, some i, h) :: l)
def tsOf (X : Cx) (P : OX) (ro : Bool) : List (Str × Option Nat × (Env → Fl)) → List (Value × Option Nat × (Addr → Value → Option Addr → TS))
  | [] => []
  | (x, i, h) :: l => (.ref (He.ga X.K x), i, fun _ _ _ => dS X.K X.mg W0 [] P ro h) :: tsOf X P ro l
theorem HdS.wish {X : Cx} {cs : List Str} {P : OX} {ro : Bool} {W : WX} {F0 H0 : Hp} {T : Ends} (hx : leB [] P.ex = true) {x : D} {ρ : Env} {c : Value} {dd : Option Addr} {F H : Hp} {σ : St} (rp : Rep X.K F0 H0 [] F H σ ρ) (ex : ExR X.mg X.K F x c dd) :
    ∀ {hds : List ExceptHandler} {l : List (Str × Option Nat × (Env → Fl))}, HdS X cs P ro hds l → PostS X.K X.mg W F0 H0 P ro T (hdF cs l x ρ) → wT X.K W T (tsOf X P ro l) c dd σ H := by
  have key : ∀ {x' : Str} {i : Option Nat} {h : Env → Fl} {l : List (Str × Option Nat × (Env → Fl))}, (∀ n ∈ cs, XP X.K n x') → (PostS X.K X.mg W F0 H0 P ro T (hdF cs l x ρ) → wT X.K W T (tsOf X P ro l) c dd σ H) →
      PostS X.K X.mg W F0 H0 P ro T (hdF cs ((x', i, h) :: l) x ρ) → wT X.K W T (tsOf X P ro ((x', i, h) :: l)) c dd σ H := by
    intro x' i h l hp ih q
    obtain ⟨n, fs, vs, rfl, rfl, e3, e4, e5⟩ := ex
    have q2 : PostS X.K X.mg W F0 H0 P ro T (if n ∈ cs then (if subX n x' then offF i (h (setO i (.exn n fs) ρ)) else hdF cs l (.exn n fs) ρ) else .stuck) := q
    split at q2
    · rename_i hn
      refine ⟨subX n x', (hp n hn).exm, fun hb a na => ?_, fun hb => ?_⟩
      · rw [if_pos hb] at q2
        have e1 : Ext F H (upd F a (exH false (.ref (He.ga X.K n)) dd a)) (upd H a (exH false (.ref (He.ga X.K n)) dd a)) := .put rp.same na
        have s1 := Sub.of_same e1.ff
        exact ⟨F0, H0, _, setO i (.exn n fs) ρ, rep_setOf (rp.grow e1) i (.exn (.of upd_same) (e3.mono s1) e4 (e5.mono s1)), q2.off⟩
      · rw [hb] at q2
        exact ih q2
    · exact q2.elim
  intro hds l h
  induction h with
  | nil => exact fun q => PostS.exc q rp hx ex
  | cons hX hp hs r hg hdb ih => exact key hp ih
  | as i hN hX hp hs r hi hln hg hdb ih => exact key hp ih
section
variable (ρ r : Env) (a : Env → Out D) (l : Env → Out (List D)) (n c f : Str) (cs : List Str) (fs ds : List D) (b h : Env → Fl) (i : Nat) (hs : List (Str × Option Nat × (Env → Fl)))
@[simp] theorem q_eCallX (h : List D → Out D) : eCallX h l ρ = (l ρ).bind h := (rfl)
@[simp] theorem q_oCallX (h : List D → Out (List D)) : oCallX h l ρ = (l ρ).bind h := (rfl)
@[simp] theorem q_fRaise : fRaise n l ρ = fE (l ρ) ρ fun ds => if ds.length = (fieldsOf n).length then .exc (.exn n ds) ρ else .stuck := (rfl)
def runXO : Fl → Out D
  | .nx _ => .ok .non
  | .ret d => .ok d
  | .exc x _ => .exc x
  | _ => .stuck
def runXL : Fl → Out (List D)
  | .ret (.lst es) => .ok es
  | .exc x _ => .exc x
  | _ => .stuck
@[simp] theorem runXO_nx : runXO (.nx r) = .ok .non := (rfl)
@[simp] theorem runXO_ret (d : D) : runXO (.ret d) = .ok d := (rfl)
@[simp] theorem runXO_exc (d : D) : runXO (.exc d r) = .exc d := (rfl)
@[simp] theorem runXL_ret : runXL (.ret (.lst ds)) = .ok ds := (rfl)
@[simp] theorem runXL_exc (d : D) : runXL (.exc d r) = .exc d := (rfl)
@[simp] theorem q_runFX (n p : Nat) (den : Env → Fl) (ds : List D) : runFX n p den ds = if ds.length = p then runXO (den (ds.map some ++ List.replicate (n - p) none)) else .stuck := by
  unfold runFX runXO
  rfl
@[simp] theorem q_runLX (n p : Nat) (den : Env → Fl) (ds : List D) : runLX n p den ds = if ds.length = p then runXL (den (ds.map some ++ List.replicate (n - p) none)) else .stuck := by
  unfold runLX runXL
  rfl
def tryF (cs : List Str) (hs : List (Str × Option Nat × (Env → Fl))) : Fl → Fl
  | .exc x ρ' => hdF cs hs x ρ'
  | o => o
@[simp] theorem q_fTry : fTry cs b hs ρ = tryF cs hs (b ρ) := (rfl)
@[simp] theorem tryF_nx : tryF cs hs (.nx r) = .nx r := (rfl)
@[simp] theorem tryF_ret (d : D) : tryF cs hs (.ret d) = .ret d := (rfl)
@[simp] theorem tryF_exc : tryF cs hs (.exc (.exn n fs) r) = hdF cs hs (.exn n fs) r := (rfl)
@[simp] theorem hdF_nil (x : D) : hdF cs [] x ρ = .exc x ρ := (rfl)
@[simp] theorem hdF_none : hdF cs ((c, none, h) :: hs) (.exn n fs) ρ = if n ∈ cs then (if subX n c then offF none (h ρ) else hdF cs hs (.exn n fs) ρ) else .stuck := (rfl)
@[simp] theorem hdF_some : hdF cs ((c, some i, h) :: hs) (.exn n fs) ρ = if n ∈ cs then (if subX n c then offF (some i) (h (ρ.set i (some (.exn n fs)))) else hdF cs hs (.exn n fs) ρ) else .stuck := (rfl)
@[simp] theorem offF_none (o : Env) : offF none (.nx o) = .nx o := (rfl)
@[simp] theorem offF_noneR (d : D) : offF none (.ret d) = .ret d := (rfl)
@[simp] theorem offF_some : offF (some i) (.nx r) = .nx (r.set i none) := (rfl)
@[simp] theorem offF_someR (d : D) : offF (some i) (.ret d) = .ret d := (rfl)
@[simp] theorem isXD_exn : isXD cs c (.exn n fs) = if n ∈ cs then .ok (.bl (subX n c)) else .stuck := (rfl)
@[simp] theorem isNon_exn : isNon (.exn n fs) = false := (rfl)
@[simp] theorem tryF_stuck : tryF cs hs .stuck = .stuck := (rfl)
end
end CW
namespace CW
open PySem PySem.Spec PyProof.Rows L2
section
variable {K : PySem.W.Frag} {C a : Addr} {σ : St} {D : Ends}
end
theorem fun_ofI {K : PySem.W.Frag} {x q : Str} {st : Stmt} {f : Addr} {fd : FuncData} (F : FunD K x q (defArgs st) (defBody st) (defScope st) [] [] f fd) : Fun K x q st f fd := by
  obtain ⟨oc, od, dV, kV, doc, pm, an, cdv, ct, osl, e, lk, hcd, hD, _⟩ := F.ex
  rcases hD with ⟨_, rfl⟩ | ⟨q, _⟩
  · exact ⟨⟨oc, od, kV, doc, pm, an, cdv, ct, osl, e, lk, hcd⟩, F.kp⟩
  · exact absurd rfl q
structure InitAt (K : PySem.W.Frag) (mg : Str → Option Value) (n q : Str) (st : Stmt) : Prop where
  ex : ∃ fI fd, PySem.W.findIn K (.ref (He.ga K n)) "__init__" = some (some (.ref fI)) ∧ PySem.W.typeIn K (.ref fI) = some (.type "function") ∧ Fun K "__init__" q st fI fd ∧ Binds K fd ("self" :: fieldsOf n) []
  xf : XF K mg n
abbrev AlY : Type := Bool × He.AlD
def obsY (fa : List He.Fa) (fn : List He.DefD) (ex : List (PySem.W.Frag → Bool)) (K : PySem.W.Frag) : AlY := (ex.all (fun f => f K), He.obsD fa fn K)
def valY (fn : List He.DefD) : AlY := (true, He.valD fn)
def SaysY (fa : List He.Fa) (fn : List He.DefD) (ex : List (PySem.W.Frag → Bool)) (K : PySem.W.Frag) : Prop := obsY fa fn ex K = valY fn
theorem SaysY.d {fa : List He.Fa} {fn : List He.DefD} {ex : List (PySem.W.Frag → Bool)} {K : PySem.W.Frag} (c : SaysY fa fn ex K) : He.SaysD fa fn K := congrArg Prod.snd c
theorem SaysY.ex {fa : List He.Fa} {fn : List He.DefD} {ex : List (PySem.W.Frag → Bool)} {K : PySem.W.Frag} (c : SaysY fa fn ex K) (i : Nat) {f : PySem.W.Frag → Bool} (h : ex[i]? = some f := by rfl) : f K = true := by
  have c1 : ex.all (fun f => f K) = true := congrArg Prod.fst c
  exact List.all_eq_true.mp c1 f (List.mem_of_getElem? h)
end CW
namespace CW
open PySem PySem.Spec PyProof.Rows L2

section
variable {X : Cx} {W : WX} {a b : Expr} {ea eb : Env → Out D} {pos : Pos}
def cntD (y : D) (ds : List D) : Nat := ds.countP fun d => eqD d y
def mCount : D → D → Out D
  | .lst ds, y => if flatD y && ds.all flatD then .ok (.int (cntD y ds : Nat)) else .stuck
  | _, _ => .stuck
@[simp] theorem mCount_lst (ds : List D) (y : D) : mCount (.lst ds) y = if flatD y && ds.all flatD then .ok (.int (cntD y ds : Nat)) else .stuck := (rfl)
end
@[simp] theorem fo_NoText : fieldsOf "NoText" = (["line"] : List Str) := by decide +kernel
@[simp] theorem fo_Broken : fieldsOf "Broken" = (["way"] : List Str) := by decide +kernel
@[simp] theorem fo_Crowded : fieldsOf "Crowded" = (["way"] : List Str) := by decide +kernel
@[simp] theorem fo_CalledOff : fieldsOf "CalledOff" = (["way", "lost", "by"] : List Str) := by decide +kernel
@[simp] theorem fo_Clash : fieldsOf "Clash" = (["one", "other", "wire"] : List Str) := by decide +kernel
@[simp] theorem fo_TooMany : fieldsOf "TooMany" = ([] : List Str) := by decide +kernel
@[simp] theorem fo_NoMove : fieldsOf "NoMove" = ([] : List Str) := by decide +kernel
@[simp] theorem fo_NoPlace : fieldsOf "NoPlace" = ([] : List Str) := by decide +kernel
end CW
namespace CW
open PySem PySem.Spec PyProof.Rows L2
open Sem (wp)
open AutoSeq1 (wpAny_loadPart')
section
variable {P : Program} {w : World} {A : Around} {E : Value → Shared → Prop} {sv : Shared}
end
section
variable {X : Cx} {W : WX} {a : Expr} {ea : Env → Out D}
def rvD (n : Int) : List D := (List.range n.toNat).map fun i => D.int ((n - 1) + (i : Nat) * (-1))
def revRg : D → Out (List D)
  | .int n => if 0 ≤ n ∧ n ≤ 2 ^ 24 then .ok (rvD n) else .stuck
  | _ => .stuck
def oRevRg (ea : Env → Out D) : Env → Out (List D) := fun ρ => (ea ρ).bind revRg
@[simp] theorem q_oRevRg (ρ : Env) : oRevRg ea ρ = (ea ρ).bind revRg := (rfl)
@[simp] theorem revRg_int (n : Int) : revRg (.int n) = if 0 ≤ n ∧ n ≤ 2 ^ 24 then .ok (rvD n) else .stuck := (rfl)
def dedI : List Int → List Int
  | [] => []
  | n :: ns => if n ∈ ns then dedI ns else n :: dedI ns
def sSetI (ns : List Int) : List Int := sortI (dedI ns)
def sortSet : D → Out (List D)
  | .lst ds => match intsOf ds with
    | some ns => if ns.length < 64 then .ok ((sSetI ns).map D.int) else .stuck
    | none => .stuck
  | _ => .stuck
def oSortSet (ea : Env → Out D) : Env → Out (List D) := fun ρ => (ea ρ).bind sortSet
@[simp] theorem q_oSortSet (ρ : Env) : oSortSet ea ρ = (ea ρ).bind sortSet := (rfl)
end
end CW
namespace CW
open PySem PySem.Spec PyProof.Rows L2
section
variable {X : Cx} {W : WX} {a b : Expr} {ea eb : Env → Out D} {pos : Pos}
def revL : D → Out (List D)
  | .lst ds => .ok ds.reverse
  | _ => .stuck
def oRvS (ea : Env → Out D) : Env → Out (List D) := fun ρ => (ea ρ).bind revL
theorem DRs.rev {K : PySem.W.Frag} {F : Hp} : ∀ {vs : List V} {ds : List D}, DRs K F vs ds → DRs K F vs.reverse ds.reverse
  | _, _, .nil => .nil
  | _, _, .cons r t => by
    rw [List.reverse_cons, List.reverse_cons]
    exact t.rev.append (.cons r .nil)
variable (ρ : Env) (ds : List D) (x y : Str)
@[simp] theorem q_oRvS : oRvS ea ρ = (ea ρ).bind revL := (rfl)
@[simp] theorem revL_lst : revL (.lst ds) = .ok ds.reverse := (rfl)
end
end CW
namespace CW
open PySem PySem.Spec PyProof.Rows L2
def isN (d : D) (k : Nat → Fl) : Fl := match d with
  | .int i => if 0 ≤ i ∧ i < 2 ^ 62 then k i.toNat else .stuck
  | _ => .stuck
section
variable {X : Cx} {W : WX} {O : List OK} {P : OX} {ro : Bool} {e e2 : Expr} {pos : Pos} {ei ev : Env → Out D}
def fInsB (i : Nat) (ei ev : Env → Out D) : Env → Fl := fun ρ => match ρ[i]? with
  | some (some (.lst ds)) => fE (ei ρ) ρ fun di => isN di fun n => fE (lfO (ev ρ)) ρ fun d => if ds.length < sizeLine then .nx (ρ.set i (some (.lst (ds.take n ++ [d] ++ ds.drop n)))) else .stuck
  | _ => .stuck
theorem DRs.takeN {K : PySem.W.Frag} {F : Hp} : ∀ {vs : List V} {ds : List D} (n : Nat), DRs K F vs ds → DRs K F (vs.take n) (ds.take n)
  | _, _, 0, _ => by simp; exact .nil
  | _, _, n + 1, .nil => by simp; exact .nil
  | _, _, n + 1, .cons r t => by simp; exact .cons r (DRs.takeN n t)
theorem DRs.dropN {K : PySem.W.Frag} {F : Hp} : ∀ {vs : List V} {ds : List D} (n : Nat), DRs K F vs ds → DRs K F (vs.drop n) (ds.drop n)
  | _, _, 0, r => by simpa using r
  | _, _, n + 1, .nil => by simp; exact .nil
  | _, _, n + 1, .cons r t => by simpa using DRs.dropN n t
theorem ss_insB (i : Nat) {x : Str} {p apos cpos : Pos} (he : SE X W e ei) (he2 : SE X W e2 ev) (hk : kd O i = .ol := by rfl) (hl : leB O P.nx = true := by rfl) (hx : leB [] P.ex = true := by rfl) (hN : X.N[i]? = some x := by rfl) (hv : Vis X.env.scope x := by first | exact Or.inl rfl | exact Or.inr (Or.inl rfl) | exact Or.inr (Or.inr rfl))
    (hd : (x == ("__debug__" : Str)) = false := by decide) (hcd : (x == ("__classdict__" : Str)) = false := by decide)
    (hbase : attributeBase (.Name x p) "insert" X.env (eval (.Name x p) X.env) = eval (.Name x p) X.env := by rfl)
    (hfew : ((backTo cpos (starEach [e, e2] X.env)).all (fun x => !x.1) && (backToKw cpos (keywordEach [] X.env)).all (fun x => x.1.isSome)
      && decide (([e, e2] : List Expr).length + ([] : List Keyword).length + (if ([] : List Keyword).isEmpty then 0 else 1) < 30)) = true := by rfl)
    (hline : (apos.endLine == cpos.line) = true := by rfl) (hs : starEach [e, e2] X.env = (false, eval e X.env) :: starEach [e2] X.env := by rfl) (hs2 : starEach [e2] X.env = (false, eval e2 X.env) :: starEach [] X.env := by rfl) (hplain : (backTo cpos (starEach [e2] X.env)).any (·.1) = false := by rfl)
    (hsw : swapsWith (.Call (.Attribute (.Name x p) "insert" apos) [e, e2] [] cpos) none pos.line X.env = pure false := by rfl) :
    SS X W O P ro (.Expr (.Call (.Attribute (.Name x p) "insert" apos) [e, e2] [] cpos) pos) (fInsB i ei ev) :=
  .of (ps_expr (pe_bm PySem.F.plainAttrs_list PySem.F.slot_list_insert PySem.F.type_list_insert mt_insert (pe_var (i := i) hN hv hd hcd) (pa_cons he (pa_cons he2 pa_nil hs2) hs) hbase hfew hline hs hplain) hsw) fun F0 H0 F H σ ρ T r q => by
  unfold fInsB at q
  split at q
  · rename_i ds hds
    obtain ⟨p, vs, a1, a2, a3, a4, a5⟩ := rep_slot r hk hds
    obtain ⟨G, rf, sFG, back⟩ := r.lend
    refine ⟨_, a1, .inl ⟨rfl, vs, .inl (.inl a2)⟩, G, ρ, rf, ?_⟩
    cases e1 : ei ρ with
    | stuck => rw [e1] at q; exact q.elim
    | exc x' =>
      rw [e1] at q
      intro c dd G' H' e' hx'
      exact PostS.exc q (back G' H' e').1 hx hx'
    | ok di =>
      rw [e1, fE_ok] at q
      intro vi G1 H1 x1 r1
      cases r1 with
      | int k =>
        have q2 : PostS X.K X.mg W F0 H0 P ro T (if 0 ≤ k ∧ k < 2 ^ 62 then fE (lfO (ev ρ)) ρ fun d => if ds.length < sizeLine then .nx (ρ.set i (some (.lst (ds.take k.toNat ++ [d] ++ ds.drop k.toNat)))) else .stuck else .stuck) := q
        split at q2
        · rename_i hk0
          refine ⟨G1, ρ, rf.ext x1, ?_⟩
          cases e3 : ev ρ with
          | stuck => rw [e3] at q2; exact q2.elim
          | exc x' =>
            rw [e3] at q2
            intro c dd G' H' e' hx'
            exact PostS.exc q2 (back G' H' (x1.trans e')).1 hx hx'
          | ok d =>
            rw [e3, lfO_ok] at q2
            split at q2
            · rename_i hlf
              rw [fE_ok] at q2
              split at q2
              · rename_i hz
                intro v G' H' e' rv
                obtain ⟨_, F', r', _, b1', _⟩ := back G' H' (x1.trans e')
                obtain ⟨p', vs', b1, b2, b3, b4, b5, bw⟩ := r'.write hk hds
                rw [a1] at b1
                cases b1
                refine ⟨p, vs', k, v, rfl, rfl, b2, by rw [b5.length]; exact hz, hk0.1, by have := hk0.2; omega, ?_⟩
                exact PostS.nxt q2 (bw _ _ (((DRs.takeN _ b5).append (.one (b1' v d hlf rv))).append (DRs.dropN _ b5))) hl
              · exact q2.elim
            · exact q2.elim
        · exact q2.elim
      | _ => exact False.elim q
  · exact q.elim
def fSetB (i : Nat) (ei ev : Env → Out D) : Env → Fl := fun ρ => match ρ[i]? with
  | some (some (.lst ds)) => fE (lfO (ev ρ)) ρ fun d => fE (ei ρ) ρ fun di => isN di fun n => if n < ds.length then .nx (ρ.set i (some (.lst (ds.set n d)))) else .stuck
  | _ => .stuck
end
end CW
namespace CW
open PySem PySem.Spec PyProof.Rows L2
section
variable {K : PySem.W.Frag} {F0 H0 F H : Hp} {O : List OK} {σ : St} {ρ : Env}
theorem NestR.at {ps : List Addr} {us : List V} {es : List D} (h : NestR K F H ps us es) : ∀ {n : Nat} {ds : List D}, es[n]? = some (.lst ds) → ∃ p vs, ps[n]? = some p ∧ us[n]? = some (.ref p) ∧ H p = some (.lst vs) ∧ DRs K F vs ds := by
  induction h with
  | nil => intro n ds h; simp at h
  | @cons p vs ds' ps us es h1 h2 _ ih =>
    intro n ds hn
    cases n with
    | zero =>
      simp only [List.getElem?_cons_zero, Option.some.injEq, D.lst.injEq] at hn
      subst hn
      exact ⟨p, vs, rfl, rfl, h1, h2⟩
    | succ n => exact ih (by simpa using hn)
theorem NestR.put {ps : List Addr} {us : List V} {es : List D} (h : NestR K F H ps us es) {p : Addr} {ws : List V} {gs : List D} (hw : DRs K F ws gs) : ∀ {n : Nat}, ps.Nodup → ps[n]? = some p → NestR K F (upd H p (.lst ws)) ps us (es.set n (.lst gs)) := by
  induction h with
  | nil => intro n _ h; simp at h
  | @cons q vs ds ps us es h1 h2 t ih =>
    intro n hn hp
    obtain ⟨n1, n2⟩ := List.nodup_cons.mp hn
    cases n with
    | zero =>
      simp only [List.getElem?_cons_zero, Option.some.injEq] at hp
      subst hp
      exact .cons upd_same hw (t.stable (Same.refl _) fun a ha => upd_ne fun z => n1 (z ▸ ha))
    | succ n =>
      have hp' : ps[n]? = some p := by simpa using hp
      exact .cons (by rw [upd_ne (fun z => n1 (by rw [z]; exact List.mem_of_getElem? hp'))]; exact h1) h2 (ih n2 hp')
theorem Rep.writeIn (r : Rep K F0 H0 O F H σ ρ) {i n : Nat} {es ds : List D} (hk : kd O i = .oll) (hd : ρ[i]? = some (some (.lst es))) (hn : es[n]? = some (.lst ds)) :
    ∃ a us p vs, σ[i]? = some (some (.ref a)) ∧ H a = some (.lst us) ∧ us.length = es.length ∧ us[n]? = some (.ref p) ∧ H p = some (.lst vs) ∧ DRs K F vs ds ∧
      ∀ ws gs, DRs K F ws gs → Rep K F0 H0 O F (upd H p (.lst ws)) σ (ρ.set i (some (.lst (es.set n (.lst gs))))) := by
  obtain ⟨fp, h1, h2, h3⟩ := r.sl
  obtain ⟨v, hv, hs⟩ := h1 i _ hd
  rw [hk] at hs
  obtain ⟨a, us, es', ps, rfl, hds, hfp, hnd, ha, hr⟩ := hs
  cases hds
  obtain ⟨p, vs, e1, e2, e3, e4⟩ := hr.at hn
  have hm : p ∈ fp i := by rw [hfp]; exact List.mem_cons_of_mem _ (List.mem_of_getElem? e1)
  obtain ⟨a1, a2, m⟩ := h2 i p hm
  obtain ⟨n1, n2⟩ := List.nodup_cons.mp hnd
  have hap : a ≠ p := fun z => n1 (z ▸ List.mem_of_getElem? e1)
  have hlt : i < ρ.length := (List.getElem?_eq_some_iff.mp hd).1
  refine ⟨a, us, p, vs, hv, ha, hr.len, e2, e3, e4, fun ws gs hw => ⟨⟨r.ext.ff, fun b o e => ?_, fun b o e => ?_, r.ext.new, r.ext.nf⟩, by rw [List.length_set]; exact r.len, fp, fun j d hj => ?_, fun j b hb => ?_, h3⟩⟩
  · rw [upd_ne (fun z => by rw [z, a1] at e; cases e)]; exact r.same _ _ e
  · rw [upd_ne (fun z => by rw [z, a2] at e; cases e)]; exact r.ext.hh _ _ e
  · by_cases hji : j = i
    · subst hji
      rw [List.getElem?_set_self hlt] at hj
      cases hj
      refine ⟨_, hv, ?_⟩
      rw [hk]
      exact ⟨a, us, _, ps, rfl, rfl, hfp, hnd, by rw [upd_ne hap]; exact ha, hr.put hw n2 e1⟩
    · rw [List.getElem?_set_ne (Ne.symm hji)] at hj
      obtain ⟨w, hw', hs⟩ := h1 j d hj
      refine ⟨w, hw', hs.stable (Same.refl _) fun b hb => upd_ne fun z => ?_⟩
      subst z
      exact hji (h3 j i b hb hm)
  · obtain ⟨b1, b2, b3⟩ := h2 j b hb
    refine ⟨b1, b2, ?_⟩
    by_cases hbp : b = p
    · subst hbp; rw [upd_same]; trivial
    · rw [upd_ne hbp]; exact b3
end
section
variable {X : Cx} {W : WX} {O : List OK} {P : OX} {ro : Bool} {e e2 : Expr} {pos : Pos} {ei ev : Env → Out D}
def inL (es : List D) (n : Nat) (k : List D → Fl) : Fl := match es[n]? with
  | some (.lst ds) => k ds
  | _ => .stuck
def fAppIn (O : List OK) (i : Nat) (ei ev : Env → Out D) : Env → Fl := fun ρ => match ρ[i]? with
  | some (some (.lst es)) => fE (ei (hide O ρ)) ρ fun di => isN di fun n => inL es n fun ds => fE (ev (hide O ρ)) ρ fun d => if ds.length < sizeLine then .nx (ρ.set i (some (.lst (es.set n (.lst (ds ++ [d])))))) else .stuck
  | _ => .stuck
theorem ss_appIn (i : Nat) {x : Str} {p sp apos cpos : Pos} (he : SE X W e ei) (he2 : SE X W e2 ev) (hk : kd O i = .oll := by rfl) (hl : leB O P.nx = true := by rfl) (hx : leB O P.ex = true := by rfl) (hN : X.N[i]? = some x := by rfl) (hv : Vis X.env.scope x := by first | exact Or.inl rfl | exact Or.inr (Or.inl rfl) | exact Or.inr (Or.inr rfl))
    (hd : (x == ("__debug__" : Str)) = false := by decide) (hcd : (x == ("__classdict__" : Str)) = false := by decide) (hpx : PlainIx e := by exact fun _ _ => rfl)
    (hbase : attributeBase (.Subscript (.Name x p) e sp) "append" X.env (eval (.Subscript (.Name x p) e sp) X.env) = eval (.Subscript (.Name x p) e sp) X.env := by rfl)
    (hfew : ((backTo cpos (starEach [e2] X.env)).all (fun x => !x.1) && (backToKw cpos (keywordEach [] X.env)).all (fun x => x.1.isSome)
      && decide (([e2] : List Expr).length + ([] : List Keyword).length + (if ([] : List Keyword).isEmpty then 0 else 1) < 30)) = true := by rfl)
    (hline : (apos.endLine == cpos.line) = true := by rfl) (hs : starEach [e2] X.env = (false, eval e2 X.env) :: starEach [] X.env := by rfl) (hplain : (backTo cpos (starEach [] X.env)).any (·.1) = false := by rfl)
    (hsw : swapsWith (.Call (.Attribute (.Subscript (.Name x p) e sp) "append" apos) [e2] [] cpos) none pos.line X.env = pure false := by rfl) :
    SS X W O P ro (.Expr (.Call (.Attribute (.Subscript (.Name x p) e sp) "append" apos) [e2] [] cpos) pos) (fAppIn O i ei ev) :=
  .of (ps_expr (pe_bm PySem.F.plainAttrs_list PySem.F.slot_list_append PySem.F.type_list_append mt_append (pe_ix ix_list (pe_var (i := i) hN hv hd hcd) he hpx) (pa_cons he2 pa_nil hs) hbase hfew hline hs hplain) hsw) fun F0 H0 F H σ ρ T r q => by
  unfold fAppIn at q
  split at q
  · rename_i es hes
    have hv0 : ∃ a, σ[i]? = some (some (.ref a)) := by
      obtain ⟨fp, h1, _⟩ := r.sl
      obtain ⟨v, hv, hs⟩ := h1 i _ hes
      rw [hk] at hs
      obtain ⟨a, _, _, _, rfl, _⟩ := hs
      exact ⟨a, hv⟩
    obtain ⟨a0, hv0⟩ := hv0
    refine ⟨_, hv0, F, hide O ρ, r.hid, ?_⟩
    cases e1 : ei (hide O ρ) with
    | stuck => rw [e1] at q; exact q.elim
    | exc x' =>
      rw [e1] at q
      intro c dd F' H' e' hx'
      exact PostS.exc q (r.grow e') hx hx'
    | ok di =>
      rw [e1, fE_ok] at q
      intro vi F1 H1 x1 r1
      cases r1 with
      | int k =>
        have q2 : PostS X.K X.mg W F0 H0 P ro T (if 0 ≤ k ∧ k < 2 ^ 62 then inL es k.toNat fun ds => fE (ev (hide O ρ)) ρ fun d => if ds.length < sizeLine then .nx (ρ.set i (some (.lst (es.set k.toNat (.lst (ds ++ [d])))))) else .stuck else .stuck) := q
        split at q2
        · rename_i hk0
          unfold inL at q2
          split at q2
          · rename_i ds hds
            have r' := r.grow x1
            obtain ⟨a, us, p, vs, b1, b2, b3, b4, b5, b6, _⟩ := r'.writeIn hk hes hds
            rw [hv0] at b1
            cases b1
            have hix : ixN us.length k = some k.toNat := by
              have hlt := (List.getElem?_eq_some_iff.mp b4).1
              unfold ixN
              rw [if_pos hk0.1, if_pos (by omega)]
            refine ⟨a0, us, k, .ref p, rfl, rfl, .inl (.inl b2), by unfold atI; rw [hix]; exact b4, ?_⟩
            refine ⟨.inl ⟨rfl, vs, .inl (.inl b5)⟩, ?_⟩
            refine ⟨F1, hide O ρ, r'.hid, ?_⟩
            cases e3 : ev (hide O ρ) with
            | stuck => dsimp only at q2; rw [e3] at q2; exact q2.elim
            | exc x' =>
              dsimp only at q2
              rw [e3] at q2
              intro c dd F' H' e' hx'
              exact PostS.exc q2 (r'.grow e') hx hx'
            | ok d =>
              dsimp only at q2
              rw [e3, fE_ok] at q2
              split at q2
              · rename_i hz
                intro v F' H' e' rv
                obtain ⟨a2, us2, p2, vs2, c1, c2, c3, c4, c5, c6, bw⟩ := (r'.grow e').writeIn hk hes hds
                rw [hv0] at c1
                cases c1
                have hp2 : p2 = p := by
                  have h1 := e'.hh _ _ b2
                  rw [c2] at h1
                  have h2 : us2 = us := HO.lst.inj (Option.some.inj h1)
                  rw [h2, b4] at c4
                  exact (V.ref.inj (Option.some.inj c4)).symm
                subst hp2
                exact ⟨p2, vs2, v, rfl, rfl, c5, by rw [c6.length]; exact hz, PostS.nxt q2 (bw _ _ (c6.append (.one rv))) hl⟩
              · exact q2.elim
          · exact q2.elim
        · exact q2.elim
      | _ => exact False.elim q
  · exact q.elim
def fNest (O : List OK) (i : Nat) (el : Env → Out (List D)) : Env → Fl := fun ρ => fE (noX (el (hide O ρ))) ρ fun ds => if ds.length ≤ 1000000 then .nx (ρ.set i (some (.lst (ds.map fun _ => .lst [])))) else .stuck
theorem NestR.snoc {K : PySem.W.Frag} {F H : Hp} {ps : List Addr} {us : List V} {es : List D} (h : NestR K F H ps us es) {p : Addr} (hp : H p = some (.lst [])) : NestR K F H (ps ++ [p]) (us ++ [.ref p]) (es ++ [.lst []]) := by
  induction h with
  | nil => exact .cons hp .nil .nil
  | cons h1 h2 _ ih => exact .cons h1 h2 ih
theorem lc_nest {K : PySem.W.Frag} {mg : Str → Option Value} {j : Nat} {ei : Env → Out (List D)} {F H : Hp} {σ : St} {ρ : Env} {Q : VK} {ds : List D} (h1 : RF K F H σ ρ) (e1 : ei ρ = .ok ds) (hi : dI K mg W0 ei σ H = dI K mg W0 ei σ H) (hz : ds.length ≤ 1000000)
    (hQ : ∀ D0 ps us F' H', Ext F H F' H' → H D0 = none → F' D0 = none → H' D0 = some (.lst us) → (D0 :: ps).Nodup → NestR K F' H' ps us (ds.map fun _ => .lst []) → (∀ a ∈ ps, F' a = none ∧ H a = none) → Q (.ref D0) H') :
    tLc (dI K mg W ei) (dG K [j] gN) tYes (tLst tNil) [j] σ H Q := by
  refine ⟨F, ρ, h1, ?_⟩
  rw [e1]
  intro J Fl H1 e' hJ D0 hD
  have rw0 : RF K Fl H1 (L2.wipe σ [j]) (wipeE ρ [j]) := (h1.ext e').wipe [j]
  have hDF : Fl D0 = none := rw0.1.free hD
  refine ⟨fun i m H' => ∃ Fi ps us, i + m = ds.length ∧ Ext Fl H1 Fi H' ∧ Fi D0 = none ∧ H' D0 = some (.lst us) ∧ (D0 :: ps).Nodup ∧ NestR K Fi H' ps us ((ds.take i).map fun _ => .lst []) ∧ ∀ a ∈ ps, Fi a = none ∧ H1 a = none,
    ⟨ds.length, Fl, [], [], by omega, ⟨Same.refl _, rw0.1.trans (same_new hD), same_new hD, fun _ h => .inl h, fun _ _ _ h => h⟩, hDF, upd_same, by simp, by simp; exact .nil, by simp⟩, ?_⟩
  rintro i m H' ⟨Fi, ps, us, him, ei', hFD, hHD, hnd, hr, hps⟩
  obtain ⟨j1, j2⟩ := hJ i Fi H' ei'.ff ei'.fh
  by_cases hlt : i < ds.length
  · obtain ⟨go, yl⟩ := j1 ds[i] (List.getElem?_eq_getElem hlt)
    refine .inr ⟨go, fun H2 => ∃ F2 ps2 us2, Ext Fl H1 F2 H2 ∧ F2 D0 = none ∧ H2 D0 = some (.lst us2) ∧ (D0 :: ps2).Nodup ∧ NestR K F2 H2 ps2 us2 ((ds.take (i + 1)).map fun _ => .lst []) ∧ ∀ a ∈ ps2, F2 a = none ∧ H1 a = none, ?_, fun x H2 hy => ?_⟩
    · rintro H2 ⟨F2, ps2, us2, q1, q2, q3, q4, q5, q6⟩
      exact ⟨m - 1, by omega, F2, ps2, us2, by omega, q1, q2, q3, q4, q5, q6⟩
    · obtain ⟨Fx, ex, rx⟩ := yl x H2 hy
      refine ⟨Fx, ds[i], [ds[i]], ex.fh, rx, rfl, fun us1 hu => ⟨?_, ?_⟩⟩
      · rw [wipe_sets (by simp)]
        show (L2.wipe ((L2.wipe σ []).set j none) [j]) = _
        show (((σ.set j none)).set j none) = σ.set j none
        rw [List.set_set]
      · unfold tYes
        refine iteT ?_
        refine ⟨Nat.zero_le _, fun p hp => ?_⟩
        have xt : Ext Fl H1 Fx H2 := ei'.trans ex
        have hD2 : H2 D0 = some (.lst us) := ex.hh _ _ hHD
        have hpD : D0 ≠ p := fun z => by rw [z, hp] at hD2; cases hD2
        have hFxD : Fx D0 = none := by
          cases q : Fx D0 with
          | none => rfl
          | some o =>
            rcases ex.new D0 (by rw [q]; simp) with z | z
            · exact absurd hFD z
            · rw [hHD] at z; exact (z trivial).elim
        have hFxp : Fx p = none := ex.fh.free hp
        have hps2 : ∀ a ∈ ps, Fx a = none ∧ H2 a = H' a ∧ a ≠ p ∧ a ≠ D0 := fun a ha => by
          obtain ⟨f1, f2⟩ := hps a ha
          obtain ⟨u, hu⟩ : ∃ u, H' a = some (.lst u) := by
            have key : ∀ {ps : List Addr} {us : List V} {es : List D}, NestR K Fi H' ps us es → ∀ a ∈ ps, ∃ u, H' a = some (.lst u) := by
              intro ps us es h
              induction h with
              | nil => intro a ha; simp at ha
              | cons h1 _ _ ih =>
                intro a ha
                rcases List.mem_cons.mp ha with rfl | ha
                · exact ⟨_, h1⟩
                · exact ih a ha
            exact key hr a ha
          have h2 := ex.hh _ _ hu
          refine ⟨?_, by rw [h2, hu], fun z => (by rw [z, hp] at h2; cases h2), fun z => (List.nodup_cons.mp hnd).1 (z ▸ ha)⟩
          cases q : Fx a with
          | none => rfl
          | some o =>
            rcases ex.new a (by rw [q]; simp) with z | z
            · exact absurd f1 z
            · rw [hu] at z; exact (z trivial).elim
        have hpps : p ∉ ps := fun z => (hps2 p z).2.2.1 rfl
        refine ⟨us, by rw [upd_ne hpD]; exact hD2, by rw [hr.len, List.length_map, List.length_take, sizeLine_eq]; omega, Fx, ps ++ [p], us ++ [.ref p], ⟨xt.ff, fun b o q => ?_, fun b o q => ?_, xt.new, xt.nf⟩, hFxD, upd_same, ?_, ?_, fun a ha => ?_⟩
        · rw [upd_ne (fun z => by rw [z, hFxD] at q; cases q), upd_ne (fun z => by rw [z, hFxp] at q; cases q)]; exact xt.fh _ _ q
        · rw [upd_ne (fun z => by rw [z, hD] at q; cases q), upd_ne (fun z => by rw [z] at q; have := xt.hh _ _ q; rw [hp] at this; cases this)]; exact xt.hh _ _ q
        · rw [List.nodup_cons] at hnd ⊢
          refine ⟨fun z => ?_, ?_⟩
          · rcases List.mem_append.mp z with z | z
            · exact hnd.1 z
            · exact hpD (by simpa using z)
          · rw [List.nodup_append]
            refine ⟨hnd.2, by simp, fun a ha b hb => ?_⟩
            have : b = p := by simpa using hb
            subst this
            exact (hps2 a ha).2.2.1
        · have hst : NestR K Fx (upd (upd H2 p (.lst [])) D0 (.lst (us ++ [.ref p]))) ps us ((ds.take i).map fun _ => .lst []) := hr.stable ex.ff fun a ha => by
            obtain ⟨_, g2, g3, g4⟩ := hps2 a ha
            rw [upd_ne g4, upd_ne g3, g2]
          have := hst.snoc (p := p) (by rw [upd_ne (Ne.symm hpD)]; exact upd_same)
          have e2 : (ds.take (i + 1)).map (fun _ => D.lst []) = (ds.take i).map (fun _ => D.lst []) ++ [.lst []] := by
            rw [List.take_add_one, List.getElem?_eq_getElem hlt, List.map_append]
            rfl
          rw [e2]
          exact this
        · rcases List.mem_append.mp ha with ha | ha
          · exact ⟨(hps2 a ha).1, (hps a ha).2⟩
          · have : a = p := by simpa using ha
            subst this
            exact ⟨hFxp, xt.hh.free hp⟩
  · have hie : i = ds.length := by omega
    refine .inl ⟨j2 hie, ?_⟩
    rw [hie, List.take_length] at hr
    exact hQ D0 ps us Fi H' (e'.trans ei') (e'.hh.free hD) hFD hHD hnd hr fun a ha => ⟨(hps a ha).1, e'.hh.free (hps a ha).2⟩
theorem ss_nest (i j : Nat) {y : Str} {py spos lpos : Pos} {tg iter : Expr} {scope : Scope} (own : List (Str × Nat)) {el : Env → Out (List D)} (ho : own.map (·.2) = [j])
    (hc : X.calm = true) (hN : X.N.Nodup) (hi : SI X W0 tg iter el) (ok : BlkOk X.N X.env.scope scope own)
    (hg : ∀ (s : Shared) (H : Hp) (C : Addr) (cl : List (Str × Addr)) (fp : List Addr), SG (X.blk s H scope (compEnvC scope cl C X.env) fp) tg [j] gN)
    (hiO : i < O.length := by decide) (hl : leB (O.set i .oll) P.nx = true := by rfl)
    (hs : ∀ x, foldedSetIterable iter X.env x = pure x := by intro _; rfl)
    (hy : X.N[i]? = some y := by rfl) (hyl : X.env.scope.names.lookup y = some .local := by rfl) (hk : X.env.scope.kind = .function := by rfl) (hln : (py.line == pos.line) = true := by rfl) (hln2 : (py.line == spos.line) = true := by rfl)
    (hsa : (scope.names.any fun (n, k) => n == y && (k == .local || k == .cell)) = false := by decide +kernel) :
    SS X W O P ro (.Assign [.Name y py] (.ListComp (.List [] lpos) [⟨tg, iter, [], 0⟩] scope pos) spos) (fNest O i el) :=
  .of (ps_setLc (te := tLst tNil) (tt := tYes) (g := dG X.K [j] gN) hc hN hy hyl (sw_true hk hyl hln hsa) hi ok hg (fun _ _ _ _ _ => pts_nil) (fun _ _ _ _ _ => pe_lst pa_nil) hs) fun F0 H0 F H σ ρ T r q => by
  unfold fNest at q
  cases e1 : el (hide O ρ) with
  | stuck => rw [e1] at q; exact q.elim
  | exc x' => rw [e1] at q; exact q.elim
  | ok ds =>
    rw [e1, noX_ok, fE_ok] at q
    split at q
    · rename_i hz
      rw [ho]
      refine lc_nest r.hid e1 rfl hz fun D0 ps us F' H' e' hD hFD hHD hnd hr hps => ?_
      have r' := (r.grow e').setFr (k := .oll) (v := .ref D0) (dn := .lst (ds.map fun _ => .lst [])) (fpn := D0 :: ps) i hiO (fun a ha => ?_) ⟨F, H, r, e'.hh, fun a ha => ?_⟩ ⟨D0, us, _, ps, rfl, rfl, rfl, hnd, hHD, hr⟩
      · exact PostS.nxt q r' hl
      · rcases List.mem_cons.mp ha with z | z
        · rw [z]
          exact ⟨hFD, r.ext.hh.free hD, by rw [hHD]; trivial⟩
        · refine ⟨(hps a z).1, r.ext.hh.free (hps a z).2, ?_⟩
          have key : ∀ {ps : List Addr} {us : List V} {es : List D}, NestR X.K F' H' ps us es → ∀ a ∈ ps, Mut (H' a) := by
            intro ps us es h
            induction h with
            | nil => intro a ha; simp at ha
            | cons h1 _ _ ih =>
              intro a ha
              rcases List.mem_cons.mp ha with rfl | ha
              · rw [h1]; trivial
              · exact ih a ha
          exact key hr a z
      · rcases List.mem_cons.mp ha with z | z
        · rw [z]; exact hD
        · exact (hps a z).2
    · exact q.elim
def gT2 (n : Nat) : D → Option (List D)
  | .tup [x, .tup ys] => if ys.length = n then some (x :: ys) else none
  | _ => none
def fThru (b f : Env → Fl) : Env → Fl := fun ρ => match b ρ with
  | .nx ρ' => f ρ'
  | .exc _ _ => .stuck
  | o => o
def oCat : D → D → Out (List D)
  | .lst a, .lst b => if a.length + b.length ≤ sizeLine then .ok (a ++ b) else .stuck
  | _, _ => .stuck
def oOp (g : D → D → Out (List D)) (a b : Env → Out D) : Env → Out (List D) := fun ρ => (a ρ).bind fun x => (b ρ).bind fun y => g x y
theorem so_cat {a b : Expr} {ea eb : Env → Out D} (ha : SE X W a ea) (hb : SE X W b eb) : SO X W (.BinOp a .Add b pos) (oOp oCat ea eb) :=
  .of (pe_op op_catR ha hb) fun F H σ ρ Q h1 h2 => ⟨F, ρ, h1, PostO.bind h2 fun d v F1 H1 e1 r1 q1 => ⟨F1, ρ, h1.ext e1, PostO.bind q1 fun d2 v2 F2 H2 e2 r2 q2 => by
    cases r1 with
    | @lst p vs ds g1 g2 =>
      cases r2 with
      | @lst p2 vs2 ds2 g3 g4 =>
        have q3 : PostO X.K X.mg W F2 H2 σ Q (if ds.length + ds2.length ≤ sizeLine then .ok (ds ++ ds2) else .stuck) := q2
        split at q3
        · rename_i hz
          exact ⟨p, p2, vs, vs2, rfl, rfl, rd_of e2.fh (rd_of e2.ff g1), rd_of e2.fh g3, by rw [g2.length, g4.length]; exact hz, fun q hq => PostO.lst q3 e2.fh ((g2.mono (Sub.of_same e2.ff)).append g4) q hq⟩
        · exact q3.elim
      | _ => exact False.elim q2
    | _ => cases d2 <;> exact False.elim q2⟩⟩
end
end CW
namespace CW
open PySem PySem.Spec PyProof.Rows L2
def keyOk : D → Bool
  | .int _ => true
  | .str _ => true
  | _ => false
def kOk (tt : Bool) (d : D) : Bool := match tt with
  | false => keyOk d
  | true => match d with
    | .tup ds => ds.all keyOk
    | _ => false
theorem key_of1 {K : PySem.W.Frag} {F : Hp} {v : V} {d : D} (r : DR K F v d) (h : keyOk d = true) : ∃ k : Key, v = kV k ∧ d = keyD k := by
  cases r with
  | int i => exact ⟨.inl i, rfl, rfl⟩
  | str s => exact ⟨.inr s, rfl, rfl⟩
  | _ => simp [keyOk] at h
theorem keys_of {K : PySem.W.Frag} {F : Hp} : ∀ {vs : List V} {ds : List D}, DRs K F vs ds → ds.all keyOk = true → ∃ ks : List Key, vs = ks.map kV ∧ ds = ks.map keyD
  | _, _, .nil, _ => ⟨[], rfl, rfl⟩
  | _, _, .cons r t, h => by
    rw [List.all_cons, Bool.and_eq_true] at h
    obtain ⟨k, rfl, rfl⟩ := key_of1 r h.1
    obtain ⟨ks, rfl, rfl⟩ := keys_of t h.2
    exact ⟨k :: ks, rfl, rfl⟩
theorem eqD_key (a b : Key) : eqD (keyD a) (keyD b) = decide (a = b) := by
  cases a with
  | inl i =>
    cases b with
    | inl j => rw [keyD, keyD, eqD_int, Bool.eq_iff_iff]; simp
    | inr s => simp [keyD, eqD]
  | inr s =>
    cases b with
    | inl j => simp [keyD, eqD]
    | inr t => rw [keyD, keyD, eqD_str, Bool.eq_iff_iff]; simp
theorem eqDs_keys : ∀ a b : List Key, eqDs (a.map keyD) (b.map keyD) = decide (a = b)
  | [], [] => by simp
  | [], b :: bs => by simp
  | a :: as, [] => by simp
  | a :: as, b :: bs => by
    rw [List.map_cons, List.map_cons, eqDs_cons, eqD_key, eqDs_keys as bs, Bool.eq_iff_iff]
    simp
theorem eqD_keys (a b : List Key) : eqD (.tup (a.map keyD)) (.tup (b.map keyD)) = decide (a = b) := by
  rw [eqD_tup, eqDs_keys]
theorem valV_some {κ : Type} [DecidableEq κ] (kvs : List (κ × V)) (k : κ) : (valV kvs k).isSome = kvs.any fun p => decide (p.1 = k) := by
  unfold valV
  rw [Option.isSome_map, List.isSome_find?]
def dHas (ks : List D) (x : D) : Bool := ks.any fun z => eqD z x
def oDIn (neg : Bool) : D → D → Out D
  | x, .dic _ tt ks _ => if kOk tt x then .ok (.bl (neg != dHas ks x)) else .stuck
  | _, _ => .stuck
section
variable {X : Cx} {W : WX} {O : List OK} {P : OX} {ro : Bool} {pos : Pos}
def rDIn (neg : Bool) : R2 := fun y x H Q => ∃ a o, x = .ref a ∧ DGet H a y o ∧ Q (.bl (if neg then !o.isSome else o.isSome)) H
theorem op_dNotIn {k : Nat} (hr : Room k X.A) : OpR X (compareOp .NotIn) (rDIn true) := by
  intro pins s σ H x y v u Q I rx ry h
  obtain ⟨a, o, rfl, g, q⟩ := h
  obtain rfl : u = Value.ref a := ry
  exact d_notIn (by have := hr.un; omega) I g rx fun s3 I3 => ⟨.bl (!o.isSome), H, I3, rfl, q⟩
theorem dIn_D {K : PySem.W.Frag} (neg : Bool) : OpD K (rDIn neg) (oDIn neg) := by
  intro mg W F H σ x y dx dy Q s rx ry q
  cases ry with
  | @dK a kvs lk vs h1 h2 =>
    have q' : Post K mg (DR K) W F H σ Q (if kOk false dx then .ok (.bl (neg != dHas (kvs.map fun p => keyD p.1) dx)) else .stuck) := by cases dx <;> exact q
    split at q'
    · rename_i hk
      obtain ⟨k, rfl, rfl⟩ := key_of1 rx hk
      refine ⟨a, valV kvs k, rfl, .inl ⟨kvs, k, rd_of s h1.rd, rfl, rfl⟩, ?_⟩
      have e : (neg != dHas (kvs.map fun p => keyD p.1) (keyD k)) = if neg then !(valV kvs k).isSome else (valV kvs k).isSome := by
        rw [valV_some]
        have : dHas (kvs.map fun p => keyD p.1) (keyD k) = kvs.any fun p => decide (p.1 = k) := by
          unfold dHas
          rw [List.any_map]
          exact congrArg (List.any kvs) (funext fun p => eqD_key _ _)
        rw [this]
        cases neg <;> simp
      rw [← e]
      exact q'.ok s (.bl _)
    · exact q'.elim
  | @dT a kvs lk vs h1 h2 =>
    have q' : Post K mg (DR K) W F H σ Q (if kOk true dx then .ok (.bl (neg != dHas (kvs.map fun p => .tup (p.1.map keyD)) dx)) else .stuck) := by cases dx <;> exact q
    split at q'
    · rename_i hk
      cases rx with
      | tup g1 g2 =>
        obtain ⟨ks, rfl, rfl⟩ := keys_of g2 hk
        refine ⟨a, valV kvs ks, rfl, .inr ⟨kvs, ks, _, rd_of s h1.rd, rfl, s _ _ g1, rfl⟩, ?_⟩
        have e : (neg != dHas (kvs.map fun p => .tup (p.1.map keyD)) (.tup (ks.map keyD))) = if neg then !(valV kvs ks).isSome else (valV kvs ks).isSome := by
          rw [valV_some]
          have : dHas (kvs.map fun p => .tup (p.1.map keyD)) (.tup (ks.map keyD)) = kvs.any fun p => decide (p.1 = ks) := by
            unfold dHas
            rw [List.any_map]
            exact congrArg (List.any kvs) (funext fun p => eqD_keys _ _)
          rw [this]
          cases neg <;> simp
        rw [← e]
        exact q'.ok s (.bl _)
      | _ => simp [kOk] at hk
    · exact q'.elim
  | _ => cases dx <;> exact False.elim q
theorem cd_dnin {k : Nat} (hr : Room k X.A) : CmpD X .NotIn (oDIn true) := ⟨_, op_dNotIn hr, dIn_D true⟩
end
def dPutK (ks : List D) (k : D) : List D := if dHas ks k then ks else ks ++ [k]
def dPutV (ks vs : List D) (k v : D) : List D := if dHas ks k then (ks.zip vs).map fun p => if eqD p.1 k then v else p.2 else vs ++ [v]
def fDPut (i : Nat) (ek ev : Env → Out D) : Env → Fl := fun ρ => match ρ[i]? with
  | some (some (.dic false tt ks vs)) => fE (lfO (ev ρ)) ρ fun v => fE (lfO (ek ρ)) ρ fun k => if kOk tt k && decide (ks.length < sizeLine) then .nx (ρ.set i (some (.dic false tt (dPutK ks k) (dPutV ks vs k v)))) else .stuck
  | _ => .stuck
section
variable {K : PySem.W.Frag} {F0 H0 F H : Hp} {O : List OK} {σ : St} {ρ : Env}
theorem Rep.writeD (r : Rep K F0 H0 O F H σ ρ) {i : Nat} {d : D} (hk : kd O i = .od) (hd : ρ[i]? = some (some d)) :
    ∃ p u, σ[i]? = some (some (.ref p)) ∧ H p = some u ∧ F p = none ∧ H0 p = none ∧ DicR K F u d ∧ ∀ u' d', DicR K F u' d' → Rep K F0 H0 O F (upd H p u') σ (ρ.set i (some d')) := by
  obtain ⟨fp, h1, h2, h3⟩ := r.sl
  obtain ⟨v, hv, hs⟩ := h1 i _ hd
  rw [hk] at hs
  obtain ⟨p, u, rfl, hfp, hp, hr⟩ := hs
  have hm : p ∈ fp i := by rw [hfp]; simp
  obtain ⟨a1, a2, m⟩ := h2 i p hm
  have hlt : i < ρ.length := (List.getElem?_eq_some_iff.mp hd).1
  refine ⟨p, u, hv, hp, a1, a2, hr, fun u' d' hw => ⟨⟨r.ext.ff, fun b o e => ?_, fun b o e => ?_, r.ext.new, r.ext.nf⟩, by rw [List.length_set]; exact r.len, fp, fun j d hj => ?_, fun j a ha => ?_, h3⟩⟩
  · rw [upd_ne (fun z => by rw [z, a1] at e; cases e)]; exact r.same _ _ e
  · rw [upd_ne (fun z => by rw [z, a2] at e; cases e)]; exact r.ext.hh _ _ e
  · by_cases hji : j = i
    · subst hji
      rw [List.getElem?_set_self hlt] at hj
      cases hj
      refine ⟨_, hv, ?_⟩
      rw [hk]
      exact ⟨p, u', rfl, hfp, upd_same, hw⟩
    · rw [List.getElem?_set_ne (Ne.symm hji)] at hj
      obtain ⟨w, hw', hs⟩ := h1 j d hj
      refine ⟨w, hw', hs.stable (Same.refl _) fun a ha => upd_ne fun z => ?_⟩
      subst z
      exact hji (h3 j i a ha hm)
  · obtain ⟨b1, b2, b3⟩ := h2 j a ha
    refine ⟨b1, b2, ?_⟩
    by_cases hap : a = p
    · subst hap; rw [upd_same]; exact hw.mut
    · rw [upd_ne hap]; exact b3
theorem DRs.put {κ : Type} [DecidableEq κ] {kvs : List (κ × V)} {vs : List D} (f : κ → D) (hf : ∀ a b, eqD (f a) (f b) = decide (a = b)) (h : DRs K F (kvs.map (·.2)) vs) (k : κ) {v : V} {d : D} (r : DR K F v d) :
    (putK kvs k v).map (fun p => f p.1) = dPutK (kvs.map fun p => f p.1) (f k) ∧ DRs K F ((putK kvs k v).map (·.2)) (dPutV (kvs.map fun p => f p.1) vs (f k) d) := by
  have e : dHas (kvs.map fun p => f p.1) (f k) = kvs.any fun p => decide (p.1 = k) := by
    unfold dHas
    rw [List.any_map]
    exact congrArg (List.any kvs) (funext fun p => hf _ _)
  unfold putK dPutK dPutV
  rw [e]
  by_cases hh : (kvs.any fun p => decide (p.1 = k)) = true
  · rw [if_pos hh, if_pos hh, if_pos hh]
    constructor
    · rw [List.map_map]
      refine List.map_congr_left fun p _ => ?_
      show f (if p.1 = k then (p.1, v) else p).1 = f p.1
      split <;> rfl
    · clear e hh
      induction kvs generalizing vs with
      | nil => cases h; exact .nil
      | cons p kvs ih =>
        cases h with
        | cons r1 t1 =>
          rw [List.map_cons, List.map_cons, List.map_cons, List.zip_cons_cons, List.map_cons]
          refine .cons ?_ (ih t1)
          show DR K F (if p.1 = k then (p.1, v) else p).2 (if eqD (f p.1) (f k) = true then d else _)
          rw [hf]
          by_cases hp : p.1 = k
          · rw [if_pos hp, if_pos (by simpa using hp)]; exact r
          · rw [if_neg hp, if_neg (by simpa using hp)]; exact r1
  · rw [if_neg hh, if_neg hh, if_neg hh]
    constructor
    · rw [List.map_append]; rfl
    · rw [List.map_append]; exact h.append (.one r)
end
section
variable {X : Cx} {W : WX} {O : List OK} {P : OX} {ro : Bool} {pos : Pos} {e e2 : Expr} {ek ev : Env → Out D}
theorem ss_dput (i : Nat) {x : Str} {p spos : Pos} {k0 : Nat} (hr : Room k0 X.A) (he : SE X W e ek) (he2 : SE X W e2 ev) (hk : kd O i = .od := by rfl) (hl : leB O P.nx = true := by rfl) (hx : leB [] P.ex = true := by rfl) (hN : X.N[i]? = some x := by rfl) (hv : Vis X.env.scope x := by first | exact Or.inl rfl | exact Or.inr (Or.inl rfl) | exact Or.inr (Or.inr rfl))
    (hd : (x == ("__debug__" : Str)) = false := by decide) (hcd : (x == ("__classdict__" : Str)) = false := by decide)
    (hsw : swapsWith e2 (some (.Subscript (.Name x p) e spos)) pos.line X.env = pure false := by rfl) :
    SS X W O P ro (.Assign [.Subscript (.Name x p) e spos] e2 pos) (fDPut i ek ev) :=
  .of (ps_dput (by have := hr.un; omega) (pe_var (i := i) hN hv hd hcd) he he2 hsw) fun F0 H0 F H σ ρ T r q => by
  unfold fDPut at q
  split at q
  · rename_i tt ks vs hds
    obtain ⟨p0, u0, a1, a2, _⟩ := r.writeD hk hds
    obtain ⟨G, rf, sFG, back⟩ := r.lend
    refine ⟨G, ρ, rf, ?_⟩
    cases e1 : ev ρ with
    | stuck => rw [e1] at q; exact q.elim
    | exc x' =>
      rw [e1] at q
      intro c dd G' H' e' hx'
      exact PostS.exc q (back G' H' e').1 hx hx'
    | ok d =>
      rw [e1, lfO_ok] at q
      split at q
      · rename_i hlf
        rw [fE_ok] at q
        intro v G1 H1 x1 rv
        refine ⟨_, a1, G1, ρ, rf.ext x1, ?_⟩
        cases e3 : ek ρ with
        | stuck => rw [e3] at q; exact q.elim
        | exc x' =>
          rw [e3] at q
          intro c dd G' H' e' hx'
          exact PostS.exc q (back G' H' (x1.trans e')).1 hx hx'
        | ok dk =>
          rw [e3, lfO_ok] at q
          split at q
          · rename_i hlk
            rw [fE_ok] at q
            intro vk G' H' e' rk
            split at q
            · rename_i hz
              rw [Bool.and_eq_true, decide_eq_true_eq] at hz
              obtain ⟨_, F', r', sF', b1', _⟩ := back G' H' (x1.trans e')
              obtain ⟨p', u, c1, c2, c3, c4, c5, bw⟩ := r'.writeD hk hds
              rw [a1] at c1
              cases c1
              have rv' := b1' v d hlf (rv.mono (Sub.of_same e'.ff))
              have rk' := b1' vk dk hlk rk
              cases c5 with
              | @k kvs vs h =>
                obtain ⟨kk, rfl, rfl⟩ := key_of1 rk' hz.1
                obtain ⟨g1, g2⟩ := DRs.put keyD eqD_key h kk rv'
                refine ⟨p0, _, rfl, DPut.k c2 (by have := hz.2; rwa [List.length_map] at this), ?_⟩
                refine PostS.nxt q (bw _ _ ?_) hl
                have := DicR.k (kvs := putK kvs kk v) g2
                rw [g1] at this
                exact this
              | @t kvs vs h =>
                have hz1 := hz.1
                cases rk' with
                | tup g3 g4 =>
                  obtain ⟨kk, rfl, rfl⟩ := keys_of g4 hz1
                  obtain ⟨g1, g2⟩ := DRs.put (fun l : List Key => .tup (l.map keyD)) eqD_keys h kk rv'
                  refine ⟨p0, _, rfl, DPut.t c2 (r'.same _ _ g3) (by have := hz.2; rwa [List.length_map] at this), ?_⟩
                  refine PostS.nxt q (bw _ _ ?_) hl
                  have := DicR.t (kvs := putK kvs kk v) g2
                  rw [g1] at this
                  exact this
                | _ => simp [kOk] at hz1
            · exact q.elim
          · exact q.elim
      · exact q.elim
  · exact q.elim
end
end CW
namespace CW
open PySem PySem.Spec PyProof.Rows L2
section
variable {X : Cx} {W : WX} {O : List OK} {P : OX} {ro : Bool} {pos : Pos} {a b : Expr} {ek ev : Env → Out D}
def fDNew (i : Nat) (tt : Bool) : Env → Fl := fun ρ => .nx (ρ.set i (some (.dic false tt [] [])))
def tDisp1 (tk tv : TE) : TE := fun σ H Q => ∀ p, H p = none → tk σ (upd H p (.dT [])) fun x H1 => tv σ H1 fun y H2 => ∃ (c : Addr) (ks : List Key), x = .ref c ∧ H2 c = some (.tup (ks.map kV)) ∧ H2 p = some (.dT []) ∧ Q (.ref p) (upd H2 p (.dT [(ks, y)]))
theorem pe_disp1 {tk tv : TE} {k0 : Nat} (hr : Room k0 X.A) (ha : PE X a tk) (hb : PE X b tv) : PE X (.Dict [some a] [b] pos) (tDisp1 tk tv) := by
  refine ⟨fun pins s σ H Q I q => ?_⟩
  have hu : X.A.units + 1 < cLine := by have := hr.un; omega
  have hn := I.hok.fresh (Nat.le_refl s.heap.objs.size)
  have I1 := I.laid (a := s.heap.objs.size) (o := .dT []) (h' := s.heap.push { cls := .type "dict", data := .dict #[] }) (t' := s.toks) (fun _ _ q => Heap.get?_push_of_some _ q) (Nat.le_refl _) (dt_empty s.heap I.big)
  rw [arm_eval_Dict]
  rw [show (evalEachOpt [some a] X.env).zip ((evalEach [b] X.env).map fun v => do let x ← v; standAt pos; pure x) = (pairTrees [some a] [b] X.env pos).map fun p => (some p.1, p.2) from zip_pairTrees _ _ X.env pos rfl rfl]
  have hlen : (pairTrees [some a] [b] X.env pos).length = 1 := pairTrees_length _ _ X.env pos rfl rfl
  rw [dictDisplay_pairs (pairTrees [some a] [b] X.env pos) (fun z => by rw [z] at hlen; simp at hlen) (by rw [hlen]; decide)]
  refine wpAny_bind (wpAny_standAt (wpAny_bind (wpAny_subDictH (knd := tupleKind (mixKind X.prog X.w)) (Q := fun d s' => wpAny (model X.prog X.w) X.A (pure (Value.ref d)) (EP X pins σ Q) X.xe s') (show X.A.units < cLine by omega) (by rw [hlen]; decide) ?_)))
  refine pairTrees_cons_walk (thn (ha.run pins _ σ _ _ I1 (q _ hn)) fun u s1 ⟨x, H1, I2, rx, q1⟩ => thn (hb.run pins s1 σ H1 _ I2 q1) fun w2 s2 ⟨y, H2, I3, ry, c, ks, ex, hc, hp, q2⟩ => pairTrees_nil_walk ?_)
  subst ex
  obtain rfl : u = Value.ref c := rx
  obtain ⟨z, hd, xs, rel, dd⟩ := dt_of I3.hok hp
  cases rel
  refine ⟨[(ks, c, w2)], ⟨rfl, rfl, key_of I3.hok hc, trivial⟩, dd, fun h' tk dd' hs => wpAny_pure ?_⟩
  obtain ⟨qo, es, ep, hq, h2, h3, h4, _, h5⟩ := dd'
  refine ⟨.ref s.heap.objs.size, _, d_write I3 (ob := .dT [(ks, y)]) (by rw [hp]; exact True.intro) hs ⟨qo, hq⟩ (show ObjOk X.prog X.w _ _ _ (.dT [(ks, y)]) from ⟨by rw [sizeLine_eq, List.length_singleton]; omega, hd, _, .cons ⟨rfl, ?_, ry⟩ .nil, qo, es, ep, hq, h2, h3, h4, h5⟩), rfl, q2⟩
  rw [upd_ne (ne_of hc hp (fun z => nomatch z))]
  exact hc
def fDNew1 (O : List OK) (i : Nat) (ek ev : Env → Out D) : Env → Fl := fun ρ => fE (ek (hide O ρ)) ρ fun k => fE (ev (hide O ρ)) ρ fun v => if kOk true k then .nx (ρ.set i (some (.dic false true [k] [v]))) else .stuck
end
section
variable (ρ : Env) (i n : Nat) (O : List OK) (a b : Env → Out D) (l : Env → Out (List D)) (f g : Env → Fl) (k : Nat → Fl) (kl : List D → Fl)
theorem q_isN (i : Int) : isN (.int i) k = if 0 ≤ i ∧ i < 2 ^ 62 then k i.toNat else .stuck := (rfl)
theorem inL_some {es ds : List D} (h : es[n]? = some (.lst ds)) : inL es n kl = kl ds := by
  unfold inL
  rw [h]
@[simp] theorem q_fInsB : fInsB i a b ρ = withL ρ[i]? fun ds => fE (a ρ) ρ fun di => isN di fun n => fE (lfO (b ρ)) ρ fun d => if ds.length < sizeLine then .nx (ρ.set i (some (.lst (ds.take n ++ [d] ++ ds.drop n)))) else .stuck := by
  unfold fInsB withL
  generalize ρ[i]? = o
  rcases o with _ | _ | d
  · rfl
  · rfl
  · cases d <;> rfl
@[simp] theorem q_fSetB : fSetB i a b ρ = withL ρ[i]? fun ds => fE (lfO (b ρ)) ρ fun d => fE (a ρ) ρ fun di => isN di fun n => if n < ds.length then .nx (ρ.set i (some (.lst (ds.set n d)))) else .stuck := by
  unfold fSetB withL
  generalize ρ[i]? = o
  rcases o with _ | _ | d
  · rfl
  · rfl
  · cases d <;> rfl
@[simp] theorem q_fAppIn : fAppIn O i a b ρ = withL ρ[i]? fun es => fE (a (hide O ρ)) ρ fun di => isN di fun n => inL es n fun ds => fE (b (hide O ρ)) ρ fun d => if ds.length < sizeLine then .nx (ρ.set i (some (.lst (es.set n (.lst (ds ++ [d])))))) else .stuck := by
  unfold fAppIn withL
  generalize ρ[i]? = o
  rcases o with _ | _ | d
  · rfl
  · rfl
  · cases d <;> rfl
@[simp] theorem q_fNest : fNest O i l ρ = fE (noX (l (hide O ρ))) ρ fun ds => if ds.length ≤ 1000000 then .nx (ρ.set i (some (.lst (ds.map fun _ => .lst [])))) else .stuck := (rfl)
@[simp] theorem gT2_tup (x : D) (ys : List D) : gT2 n (.tup [x, .tup ys]) = if ys.length = n then some (x :: ys) else none := (rfl)
def thruF (f : Env → Fl) : Fl → Fl
  | .nx ρ' => f ρ'
  | .exc _ _ => .stuck
  | o => o
@[simp] theorem q_fThru : fThru f g ρ = thruF g (f ρ) := (rfl)
@[simp] theorem hide_od (x : Option D) : hide (.od :: O) (x :: ρ) = none :: hide O ρ := (rfl)
@[simp] theorem hide_oll (x : Option D) : hide (.oll :: O) (x :: ρ) = none :: hide O ρ := (rfl)
@[simp] theorem thruF_nx : thruF f (.nx ρ) = f ρ := (rfl)
@[simp] theorem thruF_ret (d : D) : thruF f (.ret d) = .ret d := (rfl)
@[simp] theorem q_oOp (g : D → D → Out (List D)) : oOp g a b ρ = (a ρ).bind fun x => (b ρ).bind fun y => g x y := (rfl)
@[simp] theorem oCat_lst (xs ys : List D) : oCat (.lst xs) (.lst ys) = if xs.length + ys.length ≤ sizeLine then .ok (xs ++ ys) else .stuck := (rfl)
def inDic (neg : Bool) (x : D) (tt : Bool) (ks : List D) : Out D := if kOk tt x then .ok (.bl (neg != dHas ks x)) else .stuck
@[simp] theorem oDIn_dic (neg lk tt : Bool) (x : D) (ks vs : List D) : oDIn neg x (.dic lk tt ks vs) = inDic neg x tt ks := by
  unfold inDic
  cases x <;> rfl
def withDc (o : Option (Option D)) (k : Bool → List D → List D → Fl) : Fl := match o with
  | some (some (.dic false tt ks vs)) => k tt ks vs
  | _ => .stuck
@[simp] theorem withDc_some (tt : Bool) (ks vs : List D) (k : Bool → List D → List D → Fl) : withDc (some (some (.dic false tt ks vs))) k = k tt ks vs := (rfl)
@[simp] theorem q_fDPut : fDPut i a b ρ = withDc ρ[i]? fun tt ks vs => fE (lfO (b ρ)) ρ fun v => fE (lfO (a ρ)) ρ fun k => if kOk tt k && decide (ks.length < sizeLine) then .nx (ρ.set i (some (.dic false tt (dPutK ks k) (dPutV ks vs k v)))) else .stuck := by
  unfold fDPut withDc
  generalize ρ[i]? = o
  rcases o with _ | _ | d
  · rfl
  · rfl
  · cases d with
    | dic lk tt ks vs => cases lk <;> rfl
    | _ => rfl
@[simp] theorem q_fDNew (tt : Bool) : fDNew i tt ρ = .nx (ρ.set i (some (.dic false tt [] []))) := (rfl)
@[simp] theorem q_fDNew1 : fDNew1 O i a b ρ = fE (a (hide O ρ)) ρ fun k => fE (b (hide O ρ)) ρ fun v => if kOk true k then .nx (ρ.set i (some (.dic false true [k] [v]))) else .stuck := (rfl)
end
end CW
namespace CW
open PySem PySem.Spec PyProof.Rows L2
section
variable {prog : Program} {w : World} {A : Around} {E : Value → Shared → Prop} {sv : Shared}
theorem collect_tup {l : Addr} {vs : List Value} {Q : List Value → Shared → Prop} (hl : sv.heap.IsTuple l vs.toArray)
    (h : Q vs { sv with heap := (sv.heap.push (seqObj "list" #[] 0)).update sv.heap.objs.size (Obj.mapSeq (· ++ vs.toArray)) }) (hsz : vs.length ≤ sizeLine) : wpAny (model prog w) A (collect (.ref l)) Q E sv := by
  obtain ⟨oz, ho, hc, n, hd⟩ := id hl
  unfold collect
  refine wpAny_bind (wpAny_runValue (codeAny_builtin F.entry_proto_collect ?_))
  rw [Around.under_plainId F.plain_proto_collect _]
  show wpAny _ A.in1 (newList [] >>= fun z => again (.builtin "list.__iadd__" ⟨[z, .ref l], []⟩)) _ _ sv
  refine wpAny_bind (wpAny_newObj_type ?_)
  refine wpAny_pure ⟨plainId_quiet F.plain_list_iadd _, codeAny_builtin F.entry_list_iadd ?_⟩
  rw [Around.under_plainId F.plain_list_iadd _]
  show wpAny _ A.in1 (Builtin.List.listExtendWith (.ref sv.heap.objs.size) (.ref l) (.ref sv.heap.objs.size)) _ _ { sv with heap := sv.heap.push (seqObj "list" #[] 0) }
  unfold Builtin.List.listExtendWith
  have ho2 : (sv.heap.push (seqObj "list" #[] 0)).get? l = some oz := Heap.get?_push_of_some _ ho
  refine wpAny_bind (wpAny_typeOf (T := "tuple") ⟨oz, ho2, hc⟩ ?_)
  have ht : (Value.type "tuple" == Value.type "tuple") = true := by rfl
  rw [if_pos (by rw [ht]; simp)]
  refine wpAny_bind (listItems_at ho2 hd ?_)
  refine wpAny_bind (listItems_at (xs := (#[] : Array Value)) (n := 0) (Heap.get?_push_size _ rfl) rfl ?_)
  rw [if_neg (by simp)]
  refine wpAny_bind (listUpdate_at (xs := (#[] : Array Value)) (n := 0) (Heap.get?_push_size _ rfl) rfl ?_ (Nat.zero_le _) (by show (#[] ++ vs.toArray).size ≤ sizeLine + 1; simp only [Array.size_append, List.size_toArray, List.length_nil]; omega))
  refine wpAny_pure ?_
  show wpAny (model prog w) A (load sv.heap.objs.size >>= fun ob => match ob.data with
      | .seq xs _ => pure xs.toList
      | _ => unsupported "internal:collect") Q E { sv with heap := (sv.heap.push (seqObj "list" #[] 0)).update sv.heap.objs.size (Obj.mapSeq (· ++ vs.toArray)) }
  refine wpAny_bind (wpAny_load (get?_update_seq (Heap.get?_push_size _ rfl) _) ?_)
  show wpAny _ _ (pure ((#[] : Array Value) ++ vs.toArray).toList) Q E _
  have ea : ((#[] : Array Value) ++ vs.toArray).toList = vs := by simp
  rw [ea]
  exact wpAny_pure h
theorem call_sorted_tup {l : Addr} {vs : List Value} {ltv : Value → Value → Bool} {Q : Value → Shared → Prop} (O : SrtO.Swo ltv) (hl : sv.heap.IsTuple l vs.toArray) (hz : vs.length ≤ sizeLine)
    (hS : 2 ≤ vs.length → ∀ (s1 : Shared) (a : Addr), SrtO.SortableO prog w A.in1.in1 s1 a vs ltv)
    (h : ∀ out : List Value, SrtO.Srtd ltv out → SrtO.Stb ltv out vs → Q (.ref (sv.heap.objs.size + 1)) { sv with heap := sortedAll sv.heap vs out.toArray }) :
    wpAny (model prog w) A (call (.builtin "sorted") [.ref l]) Q E sv := by
  (refine Calls.call_function_entry kind_sorted plain_sorted entry_sorted (args_sorted1 _) ?_)
  unfold Builtin.«sorted»
  (refine wpAny_bind (m := checkCount "sorted" 1 1 _) (wpAny_pure ?_))
  refine wpAny_bind (collect_tup hl ?_ hz)
  refine wpAny_bind (wpAny_newList ?_ hz)
  have gsz : ((sv.heap.push (seqObj "list" #[] 0)).update sv.heap.objs.size (Obj.mapSeq (· ++ vs.toArray))).objs.size = sv.heap.objs.size + 1 := by
    rw [Heap.size_update, size_push']
  have goL : (((sv.heap.push (seqObj "list" #[] 0)).update sv.heap.objs.size (Obj.mapSeq (· ++ vs.toArray))).push (seqObj "list" vs.toArray 0)).get? (sv.heap.objs.size + 1) = some (seqObj "list" vs.toArray 0) := by
    rw [← gsz]; exact Heap.get?_push_size _ rfl
  show wpAny _ _ _ _ _ { sv with heap := ((sv.heap.push (seqObj "list" #[] 0)).update sv.heap.objs.size (Obj.mapSeq (· ++ vs.toArray))).push (seqObj "list" vs.toArray 0) }
  rw [gsz]
  refine wpAny_bind (wpAny_holding (wpAny_call_entry slot_list_sort ⟨_, goL, rfl⟩ entry_list_sort (SrtO.list_sort_ord O goL hz (fun h2 => hS h2 _ _) fun out hs hb => ⟨_, rfl, ?_⟩) (args_list_sort _)))
  exact wpAny_pure ⟨_, rfl, h out hs hb⟩
end
section
variable {X : Cx} {W : WX}
def rSortedTI (K : PySem.W.Frag) : List V → Hp → VK → Prop := fun vs H Q => ∃ (a : Addr) (ns : List Int), vs = [V.ref a] ∧ SqT K H a (ns.map V.int) ∧
  ∀ (zs : List Int) (p : Addr), zs.Perm ns → zs.Pairwise (· ≤ ·) → H p = none → Q (.ref p) (upd H p (.lst (zs.map V.int)))
theorem cr_sortedTI : CallR X (.builtin "sorted") (rSortedTI X.K) := by
  intro pins s σ H vs us Q I r h
  obtain ⟨a, ns, rfl, hs, q⟩ := h
  obtain ⟨its, rv, hl, hz⟩ := I.tuple hs
  rw [Vals.ref1 r]
  have hi := rv.ints
  refine call_sorted_tup SrtO.swo_int (show s.heap.IsTuple a its.toArray from hl) (by rw [← rv.length]; exact hz) (fun h2 s1 a' => SrtO.ints_sortable hi h2) fun out h1 h2 => ?_
  obtain ⟨g1, g2, g3⟩ := SrtO.ints_out hi h1 h2
  obtain ⟨ep, he⟩ := PyProof.Rows.sortedAll_at s.heap its out.toArray
  have glen : ((out.map SrtO.iv).map V.int).length ≤ sizeLine := by rw [List.length_map, g2.length_eq]; rw [List.length_map] at hz; exact hz
  exact ⟨.ref _, upd H (s.heap.objs.size + 1) (.lst ((out.map SrtO.iv).map V.int)), I.laid (t' := s.toks) (fun _ _ => PyProof.Rows.sortedAll_old) (Nat.le_succ _) ⟨glen, out, ep, vals_of_ints g1, he⟩, rfl, q _ _ g2 g3 (I.hok.fresh (Nat.le_succ _))⟩
def bSortT : List D → Out (List D)
  | [.tup ds] => match intsOf ds with
    | some ns => .ok ((sortI ns).map D.int)
    | none => .stuck
  | _ => .stuck
theorem bo_sortT : BltO X "sorted" bSortT := by
  refine ⟨_, ?_, .inl ⟨"sorted", cr_sortedTI, by decide +kernel⟩⟩
  intro mg W F H σ xs ds Q s r q
  unfold bSortT at q
  split at q
  · obtain ⟨v, rfl, r1⟩ := one_of r
    cases r1 with
    | @tup p vs ds g1 g2 =>
      split at q
      · rename_i ns hns
        obtain ⟨rfl, rfl⟩ := intsOf_DR g2 hns
        refine ⟨p, ns, rfl, (Sub.of_same s).sqP g1, fun zs p' hp hs hn => ?_⟩
        rw [sort_uniq (hp.trans (sortI_perm ns).symm) hs (sortI_sorted ns)]
        exact PostO.lst q s (DRs.ints _) p' hn
      · exact q.elim
  · exact q.elim
end
end CW
namespace CW
open PySem PySem.Spec PyProof.Rows L2
structure FnDN (P : Program) (w : World) (K : PySem.W.Frag) (mg : Str → Option Value) (base : Heap) (k : Nat) (x : Str) (fn : List D → Out D) : Prop where
  ex : ∃ f fd ps, FnOk P w K mg base (L2N.CX P w) k f fd ps (spF mg K fn) ∧ mg x = some (.ref f) ∧ PySem.W.keepIn K (.ref f) = true ∧ Binds K fd ps []
theorem cxN_cx {P : Program} {w : World} {out : List PySem.Env} {H : Hp} {s : Shared} {E : XK} {u : Value} {s' : Shared} (h : L2N.CX P w out H s E u s') : L2.CX P w out H s E u s' := by
  obtain ⟨a, B, H', c, d, e, fl, r⟩ := h
  exact ⟨a, B, H', c, d, e, L2H.flyingZ_imp (fun o z => z.zc) fl, r⟩
theorem FnDN.x {P : Program} {w : World} {K : PySem.W.Frag} {mg : Str → Option Value} {base : Heap} {k : Nat} {x : Str} {fn : List D → Out D} (G : FnDN P w K mg base k x fn) : FnDX P w K mg base k x fn := by
  obtain ⟨f, fd, ps, F, r⟩ := G.ex
  refine ⟨f, fd, ps, ⟨F.len, fun A out s H as us vs Q E hr e0 hb hv hs => codeAny_mono (F.run A out s H as us vs Q E hr e0 hb hv hs) fun z s' hq => ?_⟩, r⟩
  cases z with
  | error y => exact cxN_cx hq
  | ok fl => cases fl <;> exact hq
section
variable {X : Cx} {W : WX} {e : Expr} {es : List Expr} {x : Str} {p pos : Pos}
end
theorem FnDN.mono {P : Program} {w : World} {K : PySem.W.Frag} {mg : Str → Option Value} {base : Heap} {k k' : Nat} {x : Str} {fn : List D → Out D} (h : FnDN P w K mg base k x fn) (hk : k ≤ k') : FnDN P w K mg base k' x fn := by
  obtain ⟨f, fd, ps, F, r⟩ := h.ex
  exact ⟨f, fd, ps, F.mono hk, r⟩
section
variable {P : Program} {w : World} {K : PySem.W.Frag} {mg : Str → Option Value} {base : Heap} {x : Str} {st : Stmt} {N ps : List Str} {k : Nat} {Pp : OX} {den : Env → Fl}
end
def HotAtH (a : Addr) (H : Hp) : Prop := ∃ cls d, Rd H a (exH true cls d a)
end CW
namespace CW
open PySem PySem.Spec PyProof.Rows L2
section
variable {M : Model} {A : Around} {E : Value → Shared → Prop} {s : Shared} {env : PySem.Env} {out : List PySem.Env} {B : Heap} {a L : Addr} {Z : Obj → Prop}
end
abbrev suX (X : Cx) (a : Addr) (pn : List (Addr × Obj)) (W : WX) : Cx := { X with A := X.A.mark (some (.ref a)), calm := false, pn := pn, xe := fun u s' => L2.XE (suT X a pn) W u s' }
section
variable {X : Cx} {pins : List (Addr × Obj)} {σ : St} {H : Hp} {s : Shared}
end
def wN (K : PySem.W.Frag) (Wo : WX) : List (Value × Nat × (Addr → St → Hp → Prop)) → WX
  | [] => Wo
  | (c, i, ts) :: r => fun cls d σ H => ∃ b, PySem.W.exmOne K cls c = some b ∧ (b = true → ∀ a, H a = none → ts a (σ.set i (some (.ref a))) (upd H a (exH true cls d a))) ∧ (b = false → wN K Wo r cls d σ H)
inductive HdN (X : Cx) (W : WX) : List ExceptHandler → List (Value × Nat × (Addr → St → Hp → Prop)) → Prop
  | nil : HdN X W [] []
  | as {x n : Str} {i : Nat} {c : Value} {ts : Addr → St → Hp → Prop} {st : Stmt} {np pos' : Pos} {hds : List ExceptHandler} {l : List (Value × Nat × (Addr → St → Hp → Prop))} (hN : X.N.Nodup) (hi : X.N[i]? = some n) (hln : X.env.kindOf n = some .local) (hc : Names X x c)
      (hsu : ∀ (a : Addr) (pn : List (Addr × Obj)), PS (suX X a pn W) st fun _ σ H => ts a σ H) (r : HdN X W hds l) : HdN X W (.ExceptHandler (some (.Name x np)) (some n) [st] pos' :: hds) ((c, i, ts) :: l)
section
variable {X : Cx} {body orelse : List Stmt} {h₀ : ExceptHandler} {hds : List ExceptHandler} {l : List (Value × Nat × (Addr → St → Hp → Prop))} {pos : Pos} {tb : WX → TS} {u : TS} {E : XK} {E₁ : Value → Shared → Prop}
end
end CW
namespace CW
open PySem PySem.Spec PyProof.Rows L2

theorem mk_pre {X : Cx} {W : WX} {n : Str} {er : Env → Out (List D)} {F H : Hp} {σ : St} {ρ : Env} (rf : RF X.K F H σ ρ) {Cn : XK}
    (h1 : ∀ ds, er ρ = .ok ds → ds.length = (fieldsOf n).length ∧ ∀ c dd F' H', Ext F H F' H' → ExR X.mg X.K F' (.exn n ds) c dd → Cn c dd H')
    (h2 : ∀ x, er ρ = .exc x → ∀ c dd F' H', Ext F H F' H' → ExR X.mg X.K F' x c dd → W c dd σ H') (h3 : er ρ ≠ .stuck) : tMkO (He.ga X.K n) (spI X.K n) [] (dA X.K X.mg W er) σ H Cn := by
  refine ⟨F, ρ, rf, ?_⟩
  cases e1 : er ρ with
  | stuck => exact (h3 e1).elim
  | exc x => exact fun c dd G' H' e' hx' => h2 x e1 c dd G' H' e' hx'
  | ok ds =>
    obtain ⟨hl, q⟩ := h1 ds e1
    intro vs G' H' e' rv
    have hv : vs.length = (fieldsOf n).length := by rw [rv.length]; exact hl
    have hf := flen n
    refine ⟨by omega, fun a na => ⟨a, vs, by rw [List.append_nil], hv, upd_same, fun d hd nd => ⟨rfl, d, ((fieldsOf n).zip vs).reverse, upd_same, ?_, ?_, ?_⟩⟩⟩
    · rw [upd_ne nd]; exact upd_same
    · rw [upd_ne nd] at hd; exact hd
    · rw [upd_ne nd] at hd
      have eh : upd (L2.del (upd (upd (upd H' a (exo a (He.ga X.K n) none)) d (exd d ((fieldsOf n).zip vs).reverse)) a (exo a (He.ga X.K n) (some d))) a) d (.xd ((fieldsOf n).zip vs).reverse) = upd H' d (.xd ((fieldsOf n).zip vs).reverse) := by
        funext b
        by_cases hb : b = d
        · subst hb; rw [upd_same, upd_same]
        · rw [upd_ne hb, upd_ne hb]
          by_cases hba : b = a
          · subst hba; rw [L2.del_same]; exact na.symm
          · rw [L2.del_ne hba, upd_ne hba, upd_ne hb, upd_ne hba]
      rw [eh]
      have e2 : Ext G' H' (upd G' d (.xd ((fieldsOf n).zip vs).reverse)) (upd H' d (.xd ((fieldsOf n).zip vs).reverse)) := .put e'.fh hd
      exact q _ _ _ _ (e'.trans e2) ⟨n, ds, vs, rfl, rfl, .inr ⟨d, rfl, .of upd_same⟩, hv, rv.mono (Sub.of_same e2.ff)⟩
section
variable {X : Cx} {W : WX} {O : List OK} {P : OX} {ro : Bool} {e : Expr} {es : List Expr} {er : Env → Out (List D)}
end
def reF (cs : List Str) : List (Str × Nat × Str × (Env → Out (List D))) → D → Env → Fl
  | [], x, ρ => .exc x ρ
  | (c, i, n, er) :: l, x, ρ => match x with
    | .exn m fs => if m ∈ cs then (if subX m c then (match er (ρ.set i (some (.exn m fs))) with
        | .ok ds => if ds.length = (fieldsOf n).length then .exc (.exn n ds) (ρ.set i (some (.exn m fs))) else .stuck
        | _ => .stuck) else reF cs l (.exn m fs) ρ) else .stuck
    | _ => .stuck
def fRe (cs : List Str) (b : Env → Fl) (l : List (Str × Nat × Str × (Env → Out (List D)))) (f : Env → Fl) : Env → Fl := fun ρ => match b ρ with
  | .nx ρ' => f ρ'
  | .exc x ρ' => reF cs l x ρ'
  | _ => .stuck
inductive HdR (X : Cx) (cs : List Str) (E : XK) : List ExceptHandler → List (Str × Nat × Str × (Env → Out (List D))) → Prop
  | nil : HdR X cs E [] []
  | as {x n y : Str} (i : Nat) {e : Expr} {es : List Expr} {np p p1 cpos pos pos' : Pos} {j : Nat} {hds : List ExceptHandler} {l : List (Str × Nat × Str × (Env → Out (List D)))} {er : Env → Out (List D)} (hN : X.N.Nodup) (hX : X.mg x = some (.ref (He.ga X.K x))) (hp : ∀ n ∈ cs, XP X.K n x)
      (hY : XF X.K X.mg y) (hI : XI X.prog X.w X.K X.mg X.base y) (hr : Room 2 X.A) (ha : ∀ (a : Addr) (pn : List (Addr × Obj)), SA (suX X a pn (WD E)) W0 (e :: es) er) (r : HdR X cs E hds l)
      (hi : X.N[i]? = some n := by rfl) (hln : X.env.kindOf n = some .local := by rfl) (hg : Gl X x := by rfl) (hdb : (x == ("__debug__" : Str)) = false := by decide) (hgy : Gl X y := by rfl) (hdby : (y == ("__debug__" : Str)) = false := by decide)
      (he : starEach (e :: es) X.env = (false, eval e X.env) :: starEach es X.env := by rfl) (hpl : (backTo p1 (starEach es X.env)).any (·.1) = false := by rfl) :
      HdR X cs E (.ExceptHandler (some (.Name x np)) (some n) [.Raise (some (.Call (.Name y p) (e :: es) [] p1)) (some (.Constant .none j cpos)) pos] pos' :: hds) ((x, i, y, er) :: l)
def tsN (X : Cx) (E : XK) : List (Str × Nat × Str × (Env → Out (List D))) → List (Value × Nat × (Addr → St → Hp → Prop))
  | [] => []
  | (x, i, y, er) :: l => (.ref (He.ga X.K x), i, fun a σ H => tMkO (He.ga X.K y) (spI X.K y) [] (dA X.K X.mg W0 er) σ H fun cls d H' => HotAtH a H' ∧ E cls d H') :: tsN X E l
theorem HdR.wish {X : Cx} {cs : List Str} {E : XK} {P : OX} {ro : Bool} {F0 H0 : Hp} {T : Ends} (hx : leB [] P.ex = true) {x : D} {ρ : Env} {c : Value} {dd : Option Addr} {F H : Hp} {σ : St} (rp : Rep X.K F0 H0 [] F H σ ρ) (ex : ExR X.mg X.K F x c dd) :
    ∀ {hds : List ExceptHandler} {l : List (Str × Nat × Str × (Env → Out (List D)))}, HdR X cs E hds l → PostS X.K X.mg (WD E) F0 H0 P ro T (reF cs l x ρ) → wN X.K (WD E) (tsN X E l) c dd σ H := by
  intro hds l h
  induction h with
  | nil => exact fun q => PostS.exc q rp hx ex
  | @as x' n' y' i e' es' np' p' p1' cpos' pos1 pos2 j' hds' l' er hN hX hp hY hI hr ha r hi hln hg hdb hgy hdby he hpl ih =>
    intro q
    obtain ⟨n, fs, vs, rfl, rfl, e3, e4, e5⟩ := ex
    unfold reF at q
    dsimp only at q
    split at q
    · rename_i hn
      refine ⟨subX n x', (hp n hn).exm, fun hb a na => ?_, fun hb => ?_⟩
      · rw [if_pos hb] at q
        have e1 : Ext F H (upd F a (exH true (.ref (He.ga X.K n)) dd a)) (upd H a (exH true (.ref (He.ga X.K n)) dd a)) := .put rp.same na
        have s1 := Sub.of_same e1.ff
        have r1 := rep_setOf (rp.grow e1) (some i) (.exn (.of upd_same) (e3.mono s1) e4 (e5.mono s1))
        have hot : HotAtH a (upd F a (exH true (.ref (He.ga X.K n)) dd a)) := ⟨_, _, .of upd_same⟩
        obtain ⟨G, rf, sFG, back⟩ := r1.lend
        refine mk_pre rf (fun ds e6 => ?_) (fun z e6 c' dd' G' H' e' hx' => ?_) fun e6 => ?_
        · have e7 : er (ρ.set i (some (.exn n fs))) = .ok ds := e6
          rw [e7] at q
          dsimp only at q
          split at q
          · rename_i hl
            refine ⟨hl, fun c' dd' G' H' e' hx' => ⟨?_, ?_⟩⟩
            · obtain ⟨k0, k1, k2⟩ := hot
              exact ⟨k0, k1, (Sub.of_same e'.fh).rd _ _ ((Sub.of_same e'.ff).rd _ _ ((Sub.of_same sFG).rd _ _ k2))⟩
            · exact PostS.exc (W := WD E) q (back G' H' e').1 hx hx'
          · exact q.elim
        · have e7 : er (ρ.set i (some (.exn n fs))) = .exc z := e6
          rw [e7] at q
          exact q.elim
        · have e7 : er (ρ.set i (some (.exn n fs))) = .stuck := e6
          rw [e7] at q
          exact q.elim
      · rw [hb] at q
        exact ih q
    · exact q.elim
section
variable {X : Cx} {O O1 : List OK} {P : OX} {ro : Bool} {body orelse : List Stmt} {h₀ : ExceptHandler} {hds : List ExceptHandler} {pos : Pos} {E : XK} {E₁ : Value → Shared → Prop} {cs : List Str} {l : List (Str × Nat × Str × (Env → Out (List D)))} {b f : Env → Fl}
end
section
variable (ρ r : Env) (cs : List Str) (b f : Env → Fl) (l : List (Str × Nat × Str × (Env → Out (List D)))) (c n m : Str) (i : Nat) (er : Env → Out (List D)) (fs ds : List D) (x : D)
def reE (o : Out (List D)) (n : Str) (r : Env) : Fl := match o with
  | .ok ds => if ds.length = (fieldsOf n).length then .exc (.exn n ds) r else .stuck
  | _ => .stuck
@[simp] theorem reE_ok : reE (.ok ds) n r = if ds.length = (fieldsOf n).length then .exc (.exn n ds) r else .stuck := (rfl)
def reO (cs : List Str) (l : List (Str × Nat × Str × (Env → Out (List D)))) (f : Env → Fl) : Fl → Fl
  | .nx ρ' => f ρ'
  | .exc x ρ' => reF cs l x ρ'
  | _ => .stuck
@[simp] theorem q_fRe : fRe cs b l f ρ = reO cs l f (b ρ) := (rfl)
@[simp] theorem reO_nx : reO cs l f (.nx r) = f r := (rfl)
@[simp] theorem reO_exc : reO cs l f (.exc x r) = reF cs l x r := (rfl)
@[simp] theorem reF_nil : reF cs [] x ρ = .exc x ρ := (rfl)
@[simp] theorem reF_cons : reF cs ((c, i, n, er) :: l) (.exn m fs) ρ = if m ∈ cs then (if subX m c then reE (er (ρ.set i (some (.exn m fs)))) n (ρ.set i (some (.exn m fs))) else reF cs l (.exn m fs) ρ) else .stuck := (rfl)
end
end CW
namespace CW
open PySem PySem.Spec PyProof.Rows L2
def bLenC : List D → Out D
  | [.dic _ _ ks _] => .ok (.int ks.length)
  | _ => .stuck
section
variable {X : Cx}
end
@[simp] theorem bLenC_dic (lk tt : Bool) (ks vs : List D) : bLenC [.dic lk tt ks vs] = .ok (.int (ks.length : Nat)) := (rfl)
def dLook (ks vs : List D) (x : D) : Option D := ((ks.zip vs).find? fun p => eqD p.1 x).map (·.2)
def dixO : Option D → Out D
  | some d => .ok d
  | none => .stuck
@[simp] theorem dixO_some (d : D) : dixO (some d) = .ok d := (rfl)
def oDIx : D → D → Out D
  | .dic _ tt ks vs, x => if kOk tt x then dixO (dLook ks vs x) else .stuck
  | _, _ => .stuck
@[simp] theorem oDIx_dic (lk tt : Bool) (ks vs : List D) (x : D) : oDIx (.dic lk tt ks vs) x = if kOk tt x then dixO (dLook ks vs x) else .stuck := (rfl)
section
variable {X : Cx} {W : WX} {a b : Expr} {ea eb : Env → Out D} {pos : Pos}
end
section
variable {X : Cx}
end
end CW
namespace CW
open PySem PySem.Spec PyProof.Rows L2
def isD2 (t1 t2 : Ty) : D → Out D := fun d => match isTy t1 d with
  | some true => .ok (.bl true)
  | some false => (match isTy t2 d with
    | some b => .ok (.bl b)
    | none => .stuck)
  | none => .stuck
@[simp] theorem isD2_int : isD2 .int .str (.int i) = .ok (.bl true) := (rfl)
@[simp] theorem isD2_bl : isD2 .int .str (.bl i) = .ok (.bl true) := (rfl)
@[simp] theorem isD2_str : isD2 .int .str (.str i) = .ok (.bl true) := (rfl)
section
variable {X : Cx} {W : WX} {a : Expr} {ea : Env → Out D} {pos : Pos}
end
section
variable {X : Cx} {W : WX} {O : List OK} {P : OX} {ro : Bool} {e : Expr} {pos : Pos} {ei : Env → Out D}
def popD (j i : Nat) (ρ : Env) (ds : List D) (n : Nat) : Option D → Fl
  | some d => .nx ((ρ.set i (some (.lst (ds.eraseIdx n)))).set j (some d))
  | none => .stuck
def fPop (j i : Nat) (ei : Env → Out D) : Env → Fl := fun ρ => match ρ[i]? with
  | some (some (.lst ds)) => fE (ei ρ) ρ fun di => isN di fun n => popD j i ρ ds n ds[n]?
  | _ => .stuck
@[simp] theorem q_fPop {j i : Nat} {ei : Env → Out D} {ρ : Env} : fPop j i ei ρ = withL ρ[i]? fun ds => fE (ei ρ) ρ fun di => isN di fun n => popD j i ρ ds n ds[n]? := by
  unfold fPop withL
  rfl
@[simp] theorem popD_some {j i : Nat} {ρ : Env} {ds : List D} {n : Nat} {d : D} : popD j i ρ ds n (some d) = .nx ((ρ.set i (some (.lst (ds.eraseIdx n)))).set j (some d)) := (rfl)
theorem DRs.at {K : PySem.W.Frag} {F : Hp} {d : D} : ∀ {vs : List V} {ds : List D} (n : Nat), DRs K F vs ds → ds[n]? = some d → ∃ v, vs[n]? = some v ∧ DR K F v d
  | _, _, n, .nil, h => by simp at h
  | _, _, 0, .cons (v := v) r t, h => by cases h; exact ⟨_, rfl, r⟩
  | _, _, n + 1, .cons r t, h => by
    rw [List.getElem?_cons_succ] at h ⊢
    exact DRs.at n t h
theorem DRs.del {K : PySem.W.Frag} {F : Hp} : ∀ {vs : List V} {ds : List D} (n : Nat), DRs K F vs ds → DRs K F (vs.eraseIdx n) (ds.eraseIdx n)
  | _, _, n, .nil => by simp; exact .nil
  | _, _, 0, .cons r t => by simpa using t
  | _, _, n + 1, .cons r t => by simpa using DRs.cons r (DRs.del n t)
end
def gL (n : Nat) : D → Option (List D) := fun d => match d with
  | .lst ds => if ds.length = n then some ds else none
  | _ => none
@[simp] theorem gL_lst (n : Nat) (ds : List D) : gL n (.lst ds) = if ds.length = n then some ds else none := (rfl)
def zpT : List D → Out (List D)
  | [.tup es, .tup fs] => .ok (zipL es fs)
  | _ => .stuck
def iZpT (ea : Env → Out (List D)) : Env → Out (List D) := fun ρ => (ea ρ).bind zpT
@[simp] theorem zpT_tup (es fs : List D) : zpT [.tup es, .tup fs] = .ok (zipL es fs) := (rfl)
@[simp] theorem q_iZpT {r : Env → Out (List D)} {ρ : Env} : iZpT r ρ = (r ρ).bind zpT := (rfl)
section
variable {X : Cx} {W : WX} {a : Expr} {ea : Env → Out D}
def sortSetT : D → Out (List D)
  | .tup ds => match intsOf ds with
    | some ns => if ns.length < 64 then .ok ((sSetI ns).map D.int) else .stuck
    | none => .stuck
  | _ => .stuck
def oSortSetT (ea : Env → Out D) : Env → Out (List D) := fun ρ => (ea ρ).bind sortSetT
@[simp] theorem q_oSortSetT (ρ : Env) : oSortSetT ea ρ = (ea ρ).bind sortSetT := (rfl)
end
end CW
namespace CW
open PySem PySem.Spec PyProof.Rows L2
def sdPut : List D → List D → D → D → Option (List D × List D)
  | [], [], k, v => some ([k], [.lst [v]])
  | k0 :: ks, v0 :: vs, k, v => if eqD k0 k then (match v0 with
      | .lst ds => if ds.length < sizeLine then some (k0 :: ks, .lst (ds ++ [v]) :: vs) else none
      | _ => none) else (sdPut ks vs k v).map fun p => (k0 :: p.1, v0 :: p.2)
  | _, _, _, _ => none
section
variable {K : PySem.W.Frag} {F0 H0 F H : Hp} {O : List OK} {σ : St} {ρ : Env}
end
section
variable {X : Cx} {W : WX} {O : List OK} {P : OX} {ro : Bool} {e e2 : Expr} {pos : Pos} {ei ev : Env → Out D}
def fDLNew (i : Nat) : Env → Fl := fun ρ => .nx (ρ.set i (some (.dic false false [] [])))
@[simp] theorem q_fDLNew {i : Nat} {ρ : Env} : fDLNew i ρ = .nx (ρ.set i (some (.dic false false [] []))) := (rfl)
end
section
variable {X : Cx} {W : WX} {O : List OK} {P : OX} {ro : Bool} {e : Expr} {pos : Pos} {ek : Env → Out D}
def sdO (i : Nat) (ρ : Env) : Option (List D × List D) → Fl
  | some p => .nx (ρ.set i (some (.dic false false p.1 p.2)))
  | none => .stuck
def fSetdApp (O : List OK) (i j : Nat) (ek : Env → Out D) : Env → Fl := fun ρ => match ρ[i]? with
  | some (some (.dic false false ks es)) => fE (ek (hide O ρ)) ρ fun k => fE (eV j (hide O ρ)) ρ fun v => if (kOk false k && decide (ks.length < sizeLine)) = true then sdO i ρ (sdPut ks es k v) else .stuck
  | _ => .stuck
end
end CW
namespace SrtO
open PySem PyProof.Rows
section
variable {prog : Program} {w : World} {A : Around} {E : Value → Shared → Prop} {s : Shared}
def lex3 (p q : Int × Int × Int) : Bool := if p.1 = q.1 then lexB p.2 q.2 else decide (p.1 < q.1)
end
end SrtO

namespace CW
open PySem PySem.Spec PyProof.Rows L2
section
variable {X : Cx} {W : WX}
def triD (k : Int × Int × Int) : D := .tup [.int k.1, .int k.2.1, .int k.2.2]
def triOf : D → Option (Int × Int × Int)
  | .tup [.int a, .int b, .int c] => some (a, b, c)
  | _ => none
def trisOf : List D → Option (List (Int × Int × Int))
  | [] => some []
  | d :: ds => match triOf d, trisOf ds with
    | some k, some ks => some (k :: ks)
    | _, _ => none
def ins3 (x : Int × Int × Int) : List (Int × Int × Int) → List (Int × Int × Int)
  | [] => [x]
  | y :: ys => if SrtO.lex3 y x then y :: ins3 x ys else x :: y :: ys
def sort3 : List (Int × Int × Int) → List (Int × Int × Int)
  | [] => []
  | x :: xs => ins3 x (sort3 xs)
def bSort3 : List D → Out (List D)
  | [.lst ds] => match trisOf ds with
    | some ks => .ok ((sort3 ks).map triD)
    | none => .stuck
  | _ => .stuck
@[simp] theorem bSort3_tris (ks : List (Int × Int × Int)) : bSort3 [.lst (ks.map triD)] = .ok ((sort3 ks).map triD) := by
  have h : ∀ ks : List (Int × Int × Int), trisOf (ks.map triD) = some ks := by
    intro ks
    induction ks with
    | nil => rfl
    | cons k ks ih => show (match triOf (triD k), trisOf (ks.map triD) with | some k, some ks => some (k :: ks) | _, _ => none) = _; rw [ih]; rfl
  unfold bSort3
  simp only [h]
end
end CW
namespace CW
open PySem PySem.Spec PyProof.Rows L2
structure SubU (F G : Hp) : Prop where
  rd : ∀ a u, (∀ o v, u ≠ .frz o v) → Rd F a u → Rd G a u
  tp : ∀ a xs, F a = some (.tup xs) → G a = some (.tup xs)
  is : ∀ a C dx fs, F a = some (.ins C dx fs) → G a = some (.ins C dx fs)
section
variable {K : PySem.W.Frag} {F G : Hp}
theorem SubU.sqL {a : Addr} {xs : List V} (s : SubU F G) (h : SqL K F a xs) : SqL K G a xs := by
  rcases h with h | h
  · exact .inl (s.rd _ _ (fun _ _ z => nomatch z) h)
  · exact .inr h
theorem SubU.sqT {a : Addr} {xs : List V} (s : SubU F G) (h : SqT K F a xs) : SqT K G a xs := by
  rcases h with h | h
  · exact .inl (s.rd _ _ (fun _ _ z => nomatch z) h)
  · exact .inr h
theorem SubU.xd {n : Str} {dd : Option Addr} {vs : List V} (s : SubU F G) (h : XDict F n dd vs) : XDict G n dd vs := by
  rcases h with h | ⟨d, e, h⟩
  · exact .inl h
  · exact .inr ⟨d, e, s.rd _ _ (fun _ _ z => nomatch z) h⟩
mutual
theorem DR.monoU (s : SubU F G) : ∀ {d : D} {v : V}, DR K F v d → DR K G v d
  | .non, _, h => by cases h; exact .non
  | .bl b, _, h => by cases h; exact .bl b
  | .int i, _, h => by cases h; exact .int i
  | .str x, _, h => by cases h; exact .str x
  | .tup ds, _, h => by
    cases h with
    | tup h1 h2 => exact .tup (s.tp _ _ h1) (DRs.monoU s h2)
  | .lst ds, _, h => by
    cases h with
    | lst h1 h2 => exact .lst (s.rd _ _ (fun _ _ z => nomatch z) h1) (DRs.monoU s h2)
  | .dic lk tt ks vs, _, h => by
    cases h with
    | dK h1 h2 => exact .dK (lk := lk) (s.rd _ _ (fun _ _ z => nomatch z) h1.rd) (DRs.monoU s h2)
    | dT h1 h2 => exact .dT (lk := lk) (s.rd _ _ (fun _ _ z => nomatch z) h1.rd) (DRs.monoU s h2)
  | .exn c fs, _, h => by
    cases h with
    | exn h1 h2 h3 h4 => exact .exn (s.rd _ _ (fun _ _ z => nomatch z) h1) (s.xd h2) h3 (DRs.monoU s h4)
  | .scr ns, _, h => by
    cases h with
    | scr h1 => exact .scr (s.sqL h1)
  | .cst zs, _, h => by
    cases h with
    | cst h1 => exact .cst (s.sqT h1)
  | .obj ds, _, h => by
    cases h with
    | obj h1 h2 h3 => exact .obj (s.is _ _ _ _ h1) h2 (DRs.monoU s h3)
theorem DRs.monoU (s : SubU F G) : ∀ {ds : List D} {vs : List V}, DRs K F vs ds → DRs K G vs ds
  | [], _, h => by cases h; exact .nil
  | d :: ds, _, h => by
    cases h with
    | cons h1 h2 => exact .cons (DR.monoU s h1) (DRs.monoU s h2)
end
theorem DicR.monoU {u : HO} {d : D} (s : SubU F G) (h : DicR K F u d) : DicR K G u d := by
  cases h with
  | k h => exact .k (h.monoU s)
  | t h => exact .t (h.monoU s)
theorem NestR.stableU {H H' : Hp} {ps : List Addr} {us : List V} {es : List D} (h : NestR K F H ps us es) (s : SubU F G) : (∀ a ∈ ps, H' a = H a) → NestR K G H' ps us es := by
  induction h with
  | nil => exact fun _ => .nil
  | cons h1 h2 _ ih => exact fun hh => .cons (by rw [hh _ List.mem_cons_self]; exact h1) (h2.monoU s) (ih fun a ha => hh a (List.mem_cons_of_mem _ ha))
theorem SlotR.stableU {H H' : Hp} {k : OK} {v : V} {d : D} {fp : List Addr} (h : SlotR K F H k v d fp) (s : SubU F G) (hh : ∀ a ∈ fp, H' a = H a) : SlotR K G H' k v d fp := by
  cases k with
  | fz => exact ⟨h.1, h.2.monoU s⟩
  | ol =>
    obtain ⟨a, vs, ds, h1, h2, h3, h4, h5⟩ := h
    subst h3
    exact ⟨a, vs, ds, h1, h2, rfl, by rw [hh a (by simp)]; exact h4, h5.monoU s⟩
  | od =>
    obtain ⟨a, u, h1, h3, h4, h5⟩ := h
    subst h3
    exact ⟨a, u, h1, rfl, by rw [hh a (by simp)]; exact h4, h5.monoU s⟩
  | oll =>
    obtain ⟨a, us, es, ps, h1, h2, h3, hn, h4, h5⟩ := h
    subst h3
    exact ⟨a, us, es, ps, h1, h2, rfl, hn, by rw [hh a (by simp)]; exact h4, h5.stableU s fun b hb => hh b (List.mem_cons_of_mem _ hb)⟩
  | odl =>
    obtain ⟨a, us, es, ps, h1, h2, h3, hn, h4, h5⟩ := h
    subst h3
    exact ⟨a, us, es, ps, h1, h2, rfl, hn, by rw [hh a (by simp)]; exact h4, h5.stableU s fun b hb => hh b (List.mem_cons_of_mem _ hb)⟩
variable {H F0 H0 F' H' : Hp} {a b : Addr} {o x u : HO} {od : Obj}
variable {O : List OK} {σ : St} {ρ : Env}
end
section
variable {X : Cx} {W : WX} {O O1 : List OK} {P : OX} {ro : Bool} {st : Stmt} {sts : List Stmt} {f g : Env → Fl} {e tg : Expr} {pos : Pos}
theorem PS.or {t t' : TS} (h : PS X st t) (h' : PS X st t') : PS X st fun T σ H => t T σ H ∨ t' T σ H :=
  ⟨fun pins s σ H T I q => q.elim (h.run pins s σ H T I) (h'.run pins s σ H T I)⟩
def noE : Fl → Fl
  | .exc _ _ => .stuck
  | o => o
@[simp] theorem noE_nx (r : Env) : noE (.nx r) = .nx r := (rfl)
@[simp] theorem noE_ret (r : D) : noE (.ret r) = .ret r := (rfl)
def forK (o : Option (Option D)) (k : List D → Fl) : Fl := match o with
  | some (some (.dic _ _ ks _)) => noE (k ks)
  | _ => .stuck
@[simp] theorem forK_dic (lk tt : Bool) (ks vs : List D) (k : List D → Fl) : forK (some (some (.dic lk tt ks vs))) k = noE (k ks) := (rfl)
def fForK (i : Nat) (is : List Nat) (asg : D → Option (List D)) (b : Env → Fl) : Env → Fl := fun ρ => forK ρ[i]? fun ks => forL is asg b ks ρ
@[simp] theorem q_fForK (i : Nat) (is : List Nat) (asg : D → Option (List D)) (b : Env → Fl) (ρ : Env) : fForK i is asg b ρ = forK ρ[i]? fun ks => forL is asg b ks ρ := (rfl)
def bListD : List D → Out (List D)
  | [.dic _ false ks _] => .ok ks
  | _ => .stuck
@[simp] theorem bListD_dic (lk : Bool) (ks vs : List D) : bListD [.dic lk false ks vs] = .ok ks := (rfl)
end
end CW
namespace CW
open PySem PySem.Spec PyProof.Rows L2
def setdP (ks es : List D) (k v : D) : D × List D × List D := match dLook ks es k with
  | some d => (d, ks, es)
  | none => (v, ks ++ [k], es ++ [v])
def okF {α : Type} (o : Out α) (k : α → Fl) : Fl := match o with
  | .ok a => k a
  | _ => .stuck
@[simp] theorem okF_ok {α : Type} (a : α) (k : α → Fl) : okF (.ok a) k = k a := (rfl)
def setdF (f g : Env → Fl) (ρ : Env) : D → Fl
  | .bl true => f ρ
  | .bl false => g ρ
  | _ => .stuck
@[simp] theorem setdF_t (f g : Env → Fl) (ρ : Env) : setdF f g ρ (.bl true) = f ρ := (rfl)
@[simp] theorem setdF_f (f g : Env → Fl) (ρ : Env) : setdF f g ρ (.bl false) = g ρ := (rfl)
def withDk (o : Option (Option D)) (k : List D → List D → Fl) : Fl := match o with
  | some (some (.dic false false ks es)) => k ks es
  | _ => .stuck
@[simp] theorem withDk_some (ks es : List D) (k : List D → List D → Fl) : withDk (some (some (.dic false false ks es))) k = k ks es := (rfl)
def fIfSetd (O : List OK) (i : Nat) (ek ev ew : Env → Out D) (f g : Env → Fl) : Env → Fl := fun ρ => withDk ρ[i]? fun ks es => okF (ek (hide O ρ)) fun k => okF (ev (hide O ρ)) fun v =>
  if (kOk false k && decide (ks.length < sizeLine)) = true then okF (ew (hide O (ρ.set i (some (.dic false false (setdP ks es k v).2.1 (setdP ks es k v).2.2))))) fun w =>
    okF (oNe (setdP ks es k v).1 w) fun b => setdF f g (ρ.set i (some (.dic false false (setdP ks es k v).2.1 (setdP ks es k v).2.2))) b
  else .stuck
@[simp] theorem q_fIfSetd (O : List OK) (i : Nat) (ek ev ew : Env → Out D) (f g : Env → Fl) (ρ : Env) : fIfSetd O i ek ev ew f g ρ = withDk ρ[i]? fun ks es => okF (ek (hide O ρ)) fun k => okF (ev (hide O ρ)) fun v =>
  if (kOk false k && decide (ks.length < sizeLine)) = true then okF (ew (hide O (ρ.set i (some (.dic false false (setdP ks es k v).2.1 (setdP ks es k v).2.2))))) fun w =>
    okF (oNe (setdP ks es k v).1 w) fun b => setdF f g (ρ.set i (some (.dic false false (setdP ks es k v).2.1 (setdP ks es k v).2.2))) b
  else .stuck := (rfl)
section
variable {X : Cx} {W : WX} {O : List OK} {P : OX} {ro : Bool} {e ev ew : Expr} {pos : Pos} {ek dv dw : Env → Out D} {f g : Env → Fl}
end
end CW
namespace CW
open PySem PySem.Spec PyProof.Rows L2
section
variable {X : Cx} {body : List Stmt} {pos : Pos} {tb : WX → TS} {Wout : WX}
end
def h4F (cs : List Str) (c1 c2 c3 c4 : Str) (h : Env → Fl) : D → Env → Fl
  | .exn n _, ρ => if n ∈ cs ∧ (subX n c1 || subX n c2 || subX n c3 || subX n c4) = true then offF none (h ρ) else .stuck
  | _, _ => .stuck
def try4F (cs : List Str) (c1 c2 c3 c4 : Str) (h : Env → Fl) : Fl → Fl
  | .exc x ρ' => h4F cs c1 c2 c3 c4 h x ρ'
  | o => o
def fTry4 (cs : List Str) (b : Env → Fl) (c1 c2 c3 c4 : Str) (h : Env → Fl) : Env → Fl := fun ρ => try4F cs c1 c2 c3 c4 h (b ρ)
section
variable (ρ : Env) (cs : List Str) (b h : Env → Fl) (c1 c2 c3 c4 n : Str) (fs : List D) (r : Env) (d : D)
@[simp] theorem q_fTry4 : fTry4 cs b c1 c2 c3 c4 h ρ = try4F cs c1 c2 c3 c4 h (b ρ) := (rfl)
@[simp] theorem try4F_nx : try4F cs c1 c2 c3 c4 h (.nx r) = .nx r := (rfl)
@[simp] theorem try4F_ret : try4F cs c1 c2 c3 c4 h (.ret d) = .ret d := (rfl)
@[simp] theorem try4F_exc : try4F cs c1 c2 c3 c4 h (.exc (.exn n fs) r) = if n ∈ cs ∧ (subX n c1 || subX n c2 || subX n c3 || subX n c4) = true then offF none (h r) else .stuck := (rfl)
end
end CW
namespace CW
open PySem PySem.Spec PyProof.Rows L2
section
variable {X : Cx} {W : WX} {a b : Expr} {ea eb : Env → Out D} {pos : Pos}
end
end CW
namespace CW
open PySem PySem.Spec PyProof.Rows L2
section
variable {X : Cx} {W : WX} {O : List OK} {P : OX} {ro : Bool} {pos : Pos} {a b : Expr} {ek ev : Env → Out D}
def fDNewB (i : Nat) (ek ev : Env → Out D) : Env → Fl := fun ρ => fE (ek ρ) ρ fun k => fE (lfO (ev ρ)) ρ fun v => if kOk true k then .nx (ρ.set i (some (.dic false true [k] [v]))) else .stuck
theorem ss_dnewB (i : Nat) {x : Str} {p dpos : Pos} {k0 : Nat} (hr : Room k0 X.A) (hN : X.N.Nodup) (ha : SE X W a ek) (hb : SE X W b ev) (hiO : i < O.length := by decide) (hl : leB (O.set i .od) P.nx = true := by rfl) (hx : leB [] P.ex = true := by rfl) (hi : X.N[i]? = some x := by rfl) (hL : Loc X.env.scope x := by first | exact Or.inl rfl | exact Or.inr rfl)
    (hs : swapsWith (.Dict [some a] [b] dpos) (some (.Name x p)) pos.line X.env = pure false := by rfl) (hf : X.fn x = true ∨ X.env.scope.names.lookup x = some .local := by first | exact .inl rfl | exact .inr rfl) : SS X W O P ro (.Assign [.Name x p] (.Dict [some a] [b] dpos) pos) (fDNewB i ek ev) :=
  .of (ps_set hN hi hL (pe_disp1 hr ha hb) hs hf) fun F0 H0 F H σ ρ T r q => fun p hp => by
    obtain ⟨G, rf, sFG, back⟩ := r.lend
    have x0 : Ext G H G (upd H p (.dT [])) := .open rf.1 hp
    refine ⟨G, ρ, rf.ext x0, ?_⟩
    unfold fDNewB at q
    cases e1 : ek ρ with
    | stuck => rw [e1] at q; exact q.elim
    | exc x' =>
      rw [e1] at q
      intro c dd F' H' e' hx'
      obtain ⟨r', _⟩ := back F' H' (x0.trans e')
      exact PostS.exc q r' hx hx'
    | ok dk =>
      rw [e1, fE_ok] at q
      intro vk F1 H1 x1 rk
      refine ⟨F1, ρ, (rf.ext x0).ext x1, ?_⟩
      cases e2 : ev ρ with
      | stuck => rw [e2] at q; exact q.elim
      | exc x' =>
        rw [e2] at q
        intro c dd F' H' e' hx'
        obtain ⟨r', _⟩ := back F' H' ((x0.trans x1).trans e')
        exact PostS.exc q r' hx hx'
      | ok d =>
        rw [e2, lfO_ok] at q
        split at q
        · rename_i hlf
          rw [fE_ok] at q
          intro v F2 H2 x2 rv
          split at q
          · rename_i hk
            cases rk with
            | tup g1 g2 =>
              obtain ⟨ks, rfl, rfl⟩ := keys_of g2 hk
              have xx := x0.trans (x1.trans x2)
              have xy := x1.trans x2
              have hp2 : H2 p = some (.dT []) := xy.hh _ _ upd_same
              have hf2 : F2 p = none := by
                cases q : F2 p with
                | none => rfl
                | some o =>
                  rcases xy.new p (by rw [q]; simp) with z | z
                  · exact absurd (rf.1.free hp) z
                  · rw [upd_same] at z; exact (z trivial).elim
              refine ⟨_, ks, rfl, x2.fh _ _ (x2.ff _ _ g1), hp2, ?_⟩
              have xF : Ext G H F2 (upd H2 p (.dT [(ks, v)])) := ⟨xx.ff, fun b o e => by
                rw [upd_ne (fun z => by rw [z, hf2] at e; cases e)]; exact xx.fh _ _ e, fun b o e => by
                rw [upd_ne (fun z => by rw [z, hp] at e; cases e)]; exact xx.hh _ _ e, xx.new, xx.nf⟩
              obtain ⟨_, F', r', s', b1, _, b3⟩ := back F2 _ xF
              have hdr : DicR X.K F' (.dT [(ks, v)]) (.dic false true [.tup (ks.map keyD)] [d]) := .t (kvs := [(ks, v)]) (.one (b1 v d hlf rv))
              have r2 : Rep X.K F0 H0 (O.set i .od) F' (upd H2 p (.dT [(ks, v)])) (σ.set i (some (.ref p))) (ρ.set i (some (.dic false true [.tup (ks.map keyD)] [d]))) := r'.setFr (fpn := [p]) i hiO (fun a ha => by
                have : a = p := by simpa using ha
                subst this
                exact ⟨b3 _ hf2, r.ext.hh.free hp, by rw [upd_same]; exact hdr.mut⟩) ⟨F, H, r, xF.hh, fun a ha => by
                have : a = p := by simpa using ha
                subst this
                exact hp⟩ ⟨p, _, rfl, rfl, upd_same, hdr⟩
              exact PostS.nxt q r2 hl
            | _ => simp [kOk] at hk
          · exact q.elim
        · exact q.elim
end
section
variable (ρ : Env) (i : Nat) (a b : Env → Out D)
@[simp] theorem q_fDNewB : fDNewB i a b ρ = fE (a ρ) ρ fun k => fE (lfO (b ρ)) ρ fun v => if kOk true k then .nx (ρ.set i (some (.dic false true [k] [v]))) else .stuck := (rfl)
end
end CW
namespace CW
open PySem PySem.Spec PyProof.Rows L2
section
variable {P : Program} {w : World} {A : Around} {E : Value → Shared → Prop} {s : Shared}
end
end CW
namespace CW
open PySem PySem.Spec PyProof.Rows L2
def dedL : List (List Int) → List (List Int)
  | [] => []
  | x :: xs => if x ∈ xs then dedL xs else x :: dedL xs
def rowsOfD : List D → Option (List (List Int))
  | [] => some []
  | .tup es :: ds => match intsOf es, rowsOfD ds with
    | some ns, some r => some (ns :: r)
    | _, _ => none
  | _ :: _ => none
def lenSet : D → Out D
  | .tup ds => match rowsOfD ds with
    | some nss => if nss.length < 64 then .ok (.int (dedL nss).length) else .stuck
    | none => .stuck
  | _ => .stuck
section
variable {X : Cx} {W : WX} {a : Expr} {ea : Env → Out D}
end
@[simp] theorem lenSet_tup (ds : List D) : lenSet (.tup ds) = (match rowsOfD ds with
    | some nss => if nss.length < 64 then .ok (.int (dedL nss).length) else .stuck
    | none => .stuck) := (rfl)
end CW
namespace CW
open PySem PySem.Spec PyProof.Rows L2
def HotF (a : Addr) (H : Hp) : Prop := ∃ (o : Obj) (u : HO) (vs : Array Value), H a = some (.frz o u) ∧ o.data = .fields vs ∧ vs[2]? = some .none
theorem HotF.mono {a : Addr} {G H : Hp} (s : Same G H) (h : HotF a G) : HotF a H := by
  obtain ⟨o, u, vs, e, r⟩ := h
  exact ⟨o, u, vs, s _ _ e, r⟩
def HotK (X : Cx) : Prop := ∃ a, X.A.handled = some (.ref a) ∧ HotF a X.H_0
section
variable {X : Cx} {pins : List (Addr × Obj)} {σ : St} {H : Hp} {s : Shared}
theorem HotF.now (I : Inv X pins σ H s) {a : Addr} (h : HotF a X.H_0) : HotF a H := by
  obtain ⟨o, u, vs, e, r⟩ := h
  exact ⟨o, u, vs, I.base.frzs a o u e, r⟩
theorem HotK.look (c : HotK X) (I : Inv X pins σ H s) : ∃ x1, HotX.HotAt X.A x1 s.heap := by
  obtain ⟨a, hh, hf⟩ := c
  obtain ⟨o, u, vs, e, d, z⟩ := hf.now I
  exact ⟨a, hh, o, vs, (I.hok a _ e).1, d, z⟩
end
structure TurnZ (P : Program) (w : World) (K : PySem.W.Frag) (tg : Expr) (J : It) (fp : List Addr) (it : Addr) (tn : Nat → Heap → Prop) : Prop where
  memZ : it ∈ fp
  objZ : ∀ i g, tn i g → ∀ b ∈ fp, ∃ o, g.get? b = some o ∧ ∀ v, o.data ≠ .cell v
  keepZ : ∀ i g g', tn i g → (∀ b ∈ fp, ∀ o, g.get? b = some o → g'.get? b = some o) → tn i g'
  itemZ : ∀ (X : Cx), X.prog = P → X.w = w → X.K = K → ∀ (i : Nat) (pins : List (Addr × Obj)) (s : Shared) (σ : St) (H : Hp) (E : Value → Shared → Prop), Inv X pins σ H s → (∀ b ∈ fp, FpOk X pins H b) → tn i s.heap → J.go i H →
    wpAny (model P w) X.A (pyNext (.ref it)) (fun r t => ∃ u, r = some u ∧
      wpAny (model P w) X.A (letOwnedTupleGo tg (.ref it) u) (fun _ t2 => ∃ x H', Inv X pins σ H' t2 ∧ RelV x u ∧ J.yld i H x H' ∧ tn (i + 1) t2.heap ∧ ∀ b ∈ fp, H' b = none) E t) E s
  doneZ : ∀ (X : Cx), X.prog = P → X.w = w → X.K = K → ∀ (i : Nat) (pins : List (Addr × Obj)) (s : Shared) (σ : St) (H : Hp) (E : Value → Shared → Prop), (∃ x1, HotX.HotAt X.A x1 s.heap) → Inv X pins σ H s → (∀ b ∈ fp, FpOk X pins H b) → tn i s.heap → J.stop i H →
    wpAny (model P w) X.A (pyNext (.ref it)) (fun r t => r = none ∧ Inv X pins σ H t) E s
  selfZ : ∀ (A : Around) (i : Nat) (s : Shared) (Q : Value → Shared → Prop) (E : Value → Shared → Prop), tn i s.heap → Q (.ref it) s → wpAny (model P w) A (pyIter (.ref it)) Q E s
def PIEZ (X : Cx) (pins : List (Addr × Obj)) (σ : St) (tg : Expr) (R : It → Hp → Prop) (v : Value) (t : Shared) : Prop :=
  ∃ (it : Addr) (fp : List Addr) (tn : Nat → Heap → Prop) (J : It) (H' : Hp), v = .ref it ∧ Inv X pins σ H' t ∧ TurnZ X.prog X.w X.K tg J fp it tn ∧ tn 0 t.heap ∧ (∀ b ∈ fp, FpOk X pins H' b) ∧ R J H'
structure PIZ (X : Cx) (tg iter : Expr) (wi : TI) : Prop where
  runZ : ∀ (pins : List (Addr × Obj)) (s : Shared) (σ : St) (H : Hp) (R : It → Hp → Prop), Inv X pins σ H s → wi σ H R →
    wpAny (model X.prog X.w) X.A (eval iter X.env) (fun v t => wpAny (model X.prog X.w) X.A (pyIter v) (PIEZ X pins σ tg R) X.xe t) X.xe s
end CW
namespace CW
open PySem PySem.Spec PyProof.Rows L2
section
variable {X : Cx}
end
def iLst : D → Out (List D)
  | .lst ds => .ok ds
  | _ => .stuck
def eIL (ea : Env → Out D) : Env → Out (List D) := fun ρ => (ea ρ).bind iLst
@[simp] theorem q_eIL (ρ : Env) (ea : Env → Out D) : eIL ea ρ = (ea ρ).bind iLst := (rfl)
@[simp] theorem iLst_lst (ds : List D) : iLst (.lst ds) = .ok ds := (rfl)
section
variable {X : Cx} {W : WX} {tg e : Expr} {ev : Env → Out D}
end
structure FnZ (P : Program) (w : World) (K : PySem.W.Frag) (mg : Str → Option Value) (base : Heap) (XT : CXT) (k : Nat) (f : Addr) (fd : FuncData) (ps : List Str) (sp : Sp) : Prop where
  lenZ : ∀ vs H Q E, sp vs H Q E → vs.length = ps.length
  runZ : ∀ (A : Around) (out : List PySem.Env) (s : Shared) (H : Hp) (as : Args) (us : List Value) (vs : List V) (Q : VK) (E : XK) (a : Addr), RoomU k A → A.handled = some (.ref a) → HotF a H → Env0 P w K mg base A out s H → BindsTo s fd as (ps.zip us) → Vals vs us → sp vs H Q E →
    codeAny (model P w) A (.call (.ref f) as) (CR XT out P w H s Q E) s
section
variable {P : Program} {w : World} {K : PySem.W.Frag} {mg : Str → Option Value} {base : Heap} {XT : CXT} {k : Nat} {f : Addr} {fd : FuncData} {N ps : List Str} {sp : Sp}
end
structure FnDZ (P : Program) (w : World) (K : PySem.W.Frag) (mg : Str → Option Value) (base : Heap) (k : Nat) (x : Str) (fn : List D → Out D) : Prop where
  ex : ∃ f fd ps, FnZ P w K mg base CX0 k f fd ps (spF mg K fn) ∧ mg x = some (.ref f) ∧ PySem.W.keepIn K (.ref f) = true ∧ Binds K fd ps []
section
variable {P : Program} {w : World} {K : PySem.W.Frag} {mg : Str → Option Value} {base : Heap} {x : Str} {st : Stmt} {N ps : List Str} {k : Nat} {Pp : OX} {den : Env → Fl}
theorem FnZ.mono {j k : Nat} {XT : CXT} {f : Addr} {fd : FuncData} {sp : Sp} (F : FnZ P w K mg base XT k f fd ps sp) (h : k ≤ j) : FnZ P w K mg base XT j f fd ps sp :=
  ⟨F.lenZ, fun A out s H as us vs Q E a hr => F.runZ A out s H as us vs Q E a (hr.mono h)⟩
theorem FnDZ.mono {k' : Nat} {fn : List D → Out D} (h : FnDZ P w K mg base k x fn) (hk : k ≤ k') : FnDZ P w K mg base k' x fn := by
  obtain ⟨f, fd, ps, F, r⟩ := h.ex
  exact ⟨f, fd, ps, F.mono hk, r⟩
end
section
variable {X : Cx} {XT : CXT} {k : Nat} {f a : Addr} {fd : FuncData} {ps : List Str} {sp : Sp} {E : St → XK} {x : Str} {q pos : Pos} {e : Expr} {es : List Expr} {t : TA}
end
end CW
namespace CW
open PySem PySem.Spec PyProof.Rows L2
section
variable {X : Cx} {pins : List (Addr × Obj)} {σ : St} {H : Hp} {s : Shared} {a : Addr} {cls : Value} {d : Option Addr} {oe : Obj} {vs : Array Value}
end
section
variable {X : Cx} {body : List Stmt} {pos : Pos} {tb : WX → TS}
end
def hZF (cs : List Str) (c : Str) (i : Nat) (h : Env → Fl) : D → Env → Fl
  | .exn n fs, ρ => if n ∈ cs ∧ subX n c = true then offF (some i) (h (ρ.set i (some (.exn n fs)))) else .stuck
  | _, _ => .stuck
def tryZF (cs : List Str) (c : Str) (i : Nat) (h : Env → Fl) : Fl → Fl
  | .exc x ρ' => hZF cs c i h x ρ'
  | o => o
def fTryZ (cs : List Str) (b : Env → Fl) (c : Str) (i : Nat) (h : Env → Fl) : Env → Fl := fun ρ => tryZF cs c i h (b ρ)
section
variable (ρ : Env) (cs : List Str) (b h : Env → Fl) (c n : Str) (i : Nat) (fs : List D) (r : Env) (d : D)
@[simp] theorem q_fTryZ : fTryZ cs b c i h ρ = tryZF cs c i h (b ρ) := (rfl)
@[simp] theorem tryZF_nx : tryZF cs c i h (.nx r) = .nx r := (rfl)
@[simp] theorem tryZF_ret : tryZF cs c i h (.ret d) = .ret d := (rfl)
@[simp] theorem tryZF_exc : tryZF cs c i h (.exc (.exn n fs) r) = if n ∈ cs ∧ subX n c = true then offF (some i) (h (r.set i (some (.exn n fs)))) else .stuck := (rfl)
end
end CW
namespace CW
open PySem PySem.Spec PyProof.Rows L2

structure FnLN (P : Program) (w : World) (K : PySem.W.Frag) (mg : Str → Option Value) (base : Heap) (k : Nat) (x : Str) (fn : List D → Out (List D)) : Prop where
  ex : ∃ f fd ps, FnOk P w K mg base (L2N.CX P w) k f fd ps (spO mg K fn) ∧ mg x = some (.ref f) ∧ PySem.W.keepIn K (.ref f) = true ∧ Binds K fd ps []
theorem FnLN.x {P : Program} {w : World} {K : PySem.W.Frag} {mg : Str → Option Value} {base : Heap} {k : Nat} {x : Str} {fn : List D → Out (List D)} (G : FnLN P w K mg base k x fn) : FnLX P w K mg base k x fn := by
  obtain ⟨f, fd, ps, F, r⟩ := G.ex
  refine ⟨f, fd, ps, ⟨F.len, fun A out s H as us vs Q E hr e0 hb hv hs => codeAny_mono (F.run A out s H as us vs Q E hr e0 hb hv hs) fun z s' hq => ?_⟩, r⟩
  cases z with
  | error y => exact cxN_cx hq
  | ok fl => cases fl <;> exact hq
theorem FnLN.mono {P : Program} {w : World} {K : PySem.W.Frag} {mg : Str → Option Value} {base : Heap} {k k' : Nat} {x : Str} {fn : List D → Out (List D)} (h : FnLN P w K mg base k x fn) (hk : k ≤ k') : FnLN P w K mg base k' x fn := by
  obtain ⟨f, fd, ps, F, r⟩ := h.ex
  exact ⟨f, fd, ps, F.mono hk, r⟩
section
variable {X : Cx} {W : WX} {O : List OK} {P : OX} {ro : Bool} {e : Expr} {es : List Expr} {x : Str} {p pos : Pos}
end
section
variable {P : Program} {w : World} {K : PySem.W.Frag} {mg : Str → Option Value} {base : Heap} {x : Str} {st : Stmt} {N ps : List Str} {k : Nat} {Pp : OX} {den : Env → Fl}
end
section
variable {X : Cx} {W : WX} {O O1 : List OK} {P : OX} {ro : Bool} {body orelse : List Stmt} {h₀ : ExceptHandler} {hds : List ExceptHandler} {pos : Pos} {tb u : TS} {b f : Env → Fl}
def noF (f : Env → Fl) : Fl → Fl
  | .nx ρ' => f ρ'
  | _ => .stuck
def fNo (b f : Env → Fl) : Env → Fl := fun ρ => noF f (b ρ)
@[simp] theorem q_fNo (ρ : Env) : fNo b f ρ = noF f (b ρ) := (rfl)
@[simp] theorem noF_nx (r : Env) : noF f (.nx r) = f r := (rfl)
end
end CW
namespace CW
open PySem PySem.Spec PyProof.Rows L2

end CW
namespace CW
open PySem PySem.Spec PyProof.Rows L2

section
variable {X : Cx}
end
end CW
namespace CW
open PySem PySem.Spec PyProof.Rows L2
def TupO (F : Hp) : Prop := ∀ a o, F a = some o → ∃ xs, o = .tup xs
def dSt (K : PySem.W.Frag) (mg : Str → Option Value) (W : WX) (O : List OK) (P : OX) (ro : Bool) (f : Env → Fl) : TS := fun T σ H => ∃ F0 H0 F ρ, TupO F0 ∧ Rep K F0 H0 O F H σ ρ ∧ PostS K mg W F0 H0 P ro T (f ρ)
def SSt (X : Cx) (W : WX) (O : List OK) (P : OX) (ro : Bool) (st : Stmt) (f : Env → Fl) : Prop := PS X st (dSt X.K X.mg W O P ro f)
def SBt (X : Cx) (W : WX) (O : List OK) (P : OX) (ro : Bool) (sts : List Stmt) (f : Env → Fl) : Prop := PSs X sts (dSt X.K X.mg W O P ro f)
section
variable {X : Cx} {W : WX} {O O1 : List OK} {P : OX} {ro : Bool} {st : Stmt} {sts : List Stmt} {f g : Env → Fl} {e c : Expr} {es : List Expr} {pos : Pos} {ev ew : Env → Out D} {t : Env → Out Bool}
theorem SSt.of {r : TS} (h : PS X st r) (hs : ∀ F0 H0 F H σ ρ T, TupO F0 → Rep X.K F0 H0 O F H σ ρ → PostS X.K X.mg W F0 H0 P ro T (f ρ) → r T σ H) : SSt X W O P ro st f :=
  ⟨fun pins s σ H T I ⟨F0, H0, F, ρ, h0, h1, h2⟩ => h.run pins s σ H T I (hs F0 H0 F H σ ρ T h0 h1 h2)⟩
theorem SBt.of {r : TS} (h : PSs X sts r) (hs : ∀ F0 H0 F H σ ρ T, TupO F0 → Rep X.K F0 H0 O F H σ ρ → PostS X.K X.mg W F0 H0 P ro T (f ρ) → r T σ H) : SBt X W O P ro sts f :=
  ⟨fun pins s σ H T I ⟨F0, H0, F, ρ, h0, h1, h2⟩ => h.run pins s σ H T I (hs F0 H0 F H σ ρ T h0 h1 h2)⟩
theorem SS.tup (h : SS X W O P ro st f) : SSt X W O P ro st f := .of h fun F0 H0 F H σ ρ T _ r q => ⟨F0, H0, F, ρ, r, q⟩
theorem SB.tup (h : SB X W O P ro sts f) : SBt X W O P ro sts f := .of h fun F0 H0 F H σ ρ T _ r q => ⟨F0, H0, F, ρ, r, q⟩
theorem SBt.fre (h : SBt X W O1 P ro sts f) (hl : leB O O1 = true := by rfl) : SBt X W O P ro sts f := .of h fun F0 H0 F H σ ρ T h0 r q => by
  obtain ⟨F', s, r'⟩ := r.weak hl
  exact ⟨F0, H0, F', ρ, h0, r', q⟩
def keepK : OK → Option D → Option D
  | .fz, some d => if lf d then some d else none
  | .ol, some (.lst ds) => if lfs ds then some (.lst ds) else none
  | _, _ => none
def thawE : List OK → Env → Env
  | _, [] => []
  | [], od :: ρ => keepK .fz od :: thawE [] ρ
  | k :: O, od :: ρ => keepK k od :: thawE O ρ
def lstO (d : D) (k : List D → Fl) : Fl := match d with
  | .lst ds => k ds
  | _ => .stuck
@[simp] theorem lstO_lst (ds : List D) (k : List D → Fl) : lstO (.lst ds) k = k ds := (rfl)
@[simp] theorem keepK_none (k : OK) : keepK k none = none := by cases k <;> rfl
@[simp] theorem keepK_fz (d : D) : keepK .fz (some d) = if lf d then some d else none := (rfl)
@[simp] theorem keepK_ol (ds : List D) : keepK .ol (some (.lst ds)) = if lfs ds then some (.lst ds) else none := (rfl)
@[simp] theorem thawE_nil (O : List OK) : thawE O [] = [] := by cases O <;> rfl
@[simp] theorem thawE_0 (od : Option D) (ρ : Env) : thawE [] (od :: ρ) = keepK .fz od :: thawE [] ρ := (rfl)
@[simp] theorem thawE_cons (k : OK) (O : List OK) (od : Option D) (ρ : Env) : thawE (k :: O) (od :: ρ) = keepK k od :: thawE O ρ := (rfl)
end
section
variable {P : Program} {w : World} {K : PySem.W.Frag} {mg : Str → Option Value} {base : Heap} {x : Str} {st : Stmt} {N ps : List Str} {k : Nat} {Pp : OX} {den : Env → Fl}
end
end CW
namespace CW
open PySem PySem.Spec PyProof.Rows L2

abbrev plyA (K : PySem.W.Frag) : Addr := He.ga K "Play"
structure PlyC (K : PySem.W.Frag) : Prop where
  cls : Cls K (plyA K)
  no : ∀ f ∈ plyK, NoAttr K (plyA K) f
theorem ply4 {α : Type} {vs : List α} (h : vs.length = plyK.length) : ∃ a b c d, vs = [a, b, c, d] := by
  match vs, h with
  | [a, b, c, d], _ => exact ⟨a, b, c, d, rfl⟩
theorem ply_look {vs : List V} {i : Nat} {f : Str} {v : V} (hv : vs.length = plyK.length) (hf : plyK[i]? = some f) (h : vs[i]? = some v) : (plyK.zip vs).lookup f = some v := by
  obtain ⟨a, b, c, d, rfl⟩ := ply4 hv
  match i, hf, h with
  | 0, hf, h => cases hf; cases h; rfl
  | 1, hf, h => cases hf; cases h; rfl
  | 2, hf, h => cases hf; cases h; rfl
  | 3, hf, h => cases hf; cases h; rfl
theorem ply_none {vs : List V} {m : Str} (hv : vs.length = plyK.length) (hm : ∀ f ∈ plyK, (m == f) = false) : (plyK.zip vs).lookup m = none := by
  obtain ⟨a, b, c, d, rfl⟩ := ply4 hv
  have h0 := hm "graph" (by decide)
  have h1 := hm "net" (by decide)
  have h2 := hm "here" (by decide)
  have h3 := hm "levels" (by decide)
  show List.lookup m [(("graph" : Str), a), (("net" : Str), b), (("here" : Str), c), (("levels" : Str), d)] = none
  simp only [List.lookup, h0, h1, h2, h3]
def plyF (i : Nat) : D → Out D
  | .obj ds => ixO ds[i]?
  | _ => .stuck
@[simp] theorem plyF_obj (i : Nat) (ds : List D) : plyF i (.obj ds) = ixO ds[i]? := (rfl)
section
variable {X : Cx} {W : WX} {o e : Expr} {es : List Expr} {f m : Str} {p pos apos : Pos} {eo : Env → Out D} {er : Env → Out (List D)}
theorem se_fld (i : Nat) (C : PlyC X.K) (ho : SE X W o eo) (hf : plyK[i]? = some f := by rfl) (hb : attributeBase o f X.env (eval o X.env) = eval o X.env := by rfl) : SE X W (.Attribute o f pos) (eUn (plyF i) eo) :=
  .of (pe_fld ho hb) fun F H σ ρ Q h1 h2 => by
    refine ⟨F, ρ, h1, Post.bind h2 fun d v F1 H1 e1 r1 q1 => ?_⟩
    cases d with
    | obj ds =>
      cases r1 with
      | @obj x dx vs ds g1 g2 g3 =>
        rw [plyF_obj] at q1
        cases hd : ds[i]? with
        | none => rw [hd] at q1; exact q1.elim
        | some d =>
          rw [hd] at q1
          obtain ⟨w, hw, rw'⟩ := g3.get hd
          exact ⟨x, plyA X.K, dx, _, w, rfl, e1.fh _ _ g1, C.cls, C.no f (List.mem_of_getElem? hf), ply_look g2 hf hw, Post.ok q1 e1.fh rw'⟩
    | _ => exact q1.elim
structure FnDM (P : Program) (w : World) (K : PySem.W.Frag) (mg : Str → Option Value) (base : Heap) (k : Nat) (m : Str) (fn : List D → Out D) : Prop where
  ex : ∃ f fd ps, FnOk P w K mg base CX0 k f fd ps (spF mg K fn) ∧ Meth K (plyA K) m f ∧ Binds K fd ps []
structure FnLM (P : Program) (w : World) (K : PySem.W.Frag) (mg : Str → Option Value) (base : Heap) (k : Nat) (m : Str) (fn : List D → Out (List D)) : Prop where
  ex : ∃ f fd ps, FnOk P w K mg base CX0 k f fd ps (spO mg K fn) ∧ Meth K (plyA K) m f ∧ Binds K fd ps []
theorem FnDM.mono {P : Program} {w : World} {K : PySem.W.Frag} {mg : Str → Option Value} {base : Heap} {k k' : Nat} {x : Str} {fn : List D → Out D} (h : FnDM P w K mg base k x fn) (hk : k ≤ k') : FnDM P w K mg base k' x fn := by
  obtain ⟨f, fd, ps, F, r⟩ := h.ex
  exact ⟨f, fd, ps, F.mono hk, r⟩
theorem FnLM.mono {P : Program} {w : World} {K : PySem.W.Frag} {mg : Str → Option Value} {base : Heap} {k k' : Nat} {x : Str} {fn : List D → Out (List D)} (h : FnLM P w K mg base k x fn) (hk : k ≤ k') : FnLM P w K mg base k' x fn := by
  obtain ⟨f, fd, ps, F, r⟩ := h.ex
  exact ⟨f, fd, ps, F.mono hk, r⟩
def objO {α : Type} (d : D) (k : Out α) : Out α := match d with
  | .obj _ => k
  | _ => .stuck
@[simp] theorem objO_obj {α : Type} (ds : List D) (k : Out α) : objO (.obj ds) k = k := (rfl)
def eMeth (fn : List D → Out D) (eo : Env → Out D) (er : Env → Out (List D)) : Env → Out D := fun ρ => (eo ρ).bind fun d => objO d ((er ρ).bind fun ds => noX (fn (d :: ds)))
def oMeth (fn : List D → Out (List D)) (eo : Env → Out D) (er : Env → Out (List D)) : Env → Out (List D) := fun ρ => (eo ρ).bind fun d => objO d ((er ρ).bind fun ds => noX (fn (d :: ds)))
def eMeth0 (fn : List D → Out D) (eo : Env → Out D) : Env → Out D := fun ρ => (eo ρ).bind fun d => objO d (noX (fn [d]))
def oMeth0 (fn : List D → Out (List D)) (eo : Env → Out D) : Env → Out (List D) := fun ρ => (eo ρ).bind fun d => objO d (noX (fn [d]))
@[simp] theorem q_eMeth (fn : List D → Out D) (eo : Env → Out D) (er : Env → Out (List D)) (ρ : Env) : eMeth fn eo er ρ = (eo ρ).bind fun d => objO d ((er ρ).bind fun ds => noX (fn (d :: ds))) := (rfl)
@[simp] theorem q_oMeth (fn : List D → Out (List D)) (eo : Env → Out D) (er : Env → Out (List D)) (ρ : Env) : oMeth fn eo er ρ = (eo ρ).bind fun d => objO d ((er ρ).bind fun ds => noX (fn (d :: ds))) := (rfl)
@[simp] theorem q_eMeth0 (fn : List D → Out D) (eo : Env → Out D) (ρ : Env) : eMeth0 fn eo ρ = (eo ρ).bind fun d => objO d (noX (fn [d])) := (rfl)
@[simp] theorem q_oMeth0 (fn : List D → Out (List D)) (eo : Env → Out D) (ρ : Env) : oMeth0 fn eo ρ = (eo ρ).bind fun d => objO d (noX (fn [d])) := (rfl)
theorem se_meth {pl : Sem Bool} {k : Nat} {fn : List D → Out D} (G : FnDM X.prog X.w X.K X.mg X.base k m fn) (C : PlyC X.K) (hr : Room k X.A) (ho : SE X W o eo) (ha : SA X W (e :: es) er) (hm : ∀ f ∈ plyK, (m == f) = false := by decide)
    (hst : starEach (e :: es) X.env = (false, eval e X.env) :: starEach es X.env := by rfl) (hpl : (backTo pos (starEach es X.env)).any (·.1) = false := by rfl)
    (ht : eval (.Call (.Attribute o m apos) (e :: es) [] pos) X.env = (do
      let ov ← eval o X.env
      standAt apos.atName
      let (f, first) ← holding [ov] (getMethod ov m pl)
      callWith pos f first (backTo pos (starEach (e :: es) X.env)) (backToKw pos (keywordEach [] X.env))) := by rfl) :
    SE X W (.Call (.Attribute o m apos) (e :: es) [] pos) (eMeth fn eo er) := by
  obtain ⟨f, fd, ps, F, hM, hb⟩ := G.ex
  refine .of (pe_meth ho C.cls hM F hr hb .nil pass0 ha hst hpl ht) fun F H σ ρ Q h1 h2 => ?_
  refine ⟨F, ρ, h1, Post.bind h2 fun d v F1 H1 e1 r1 q1 => ?_⟩
  cases d with
  | obj ds =>
    rw [objO_obj] at q1
    have r1' := r1
    cases r1 with
    | @obj x dx vs ds g1 g2 g3 =>
      refine ⟨x, dx, _, rfl, e1.fh _ _ g1, ply_none g2 hm, F1, ρ, h1.ext e1, Post.bind q1 fun as us F2 H2 e2 r2 q2 => ?_⟩
      rw [List.append_nil]
      exact ⟨F2, _, e2.fh, .cons (r1'.mono (Sub.of_same e2.ff)) r2, q2.noX⟩
  | _ => exact q1.elim
theorem se_meth0 {pl : Sem Bool} {k : Nat} {fn : List D → Out D} (G : FnDM X.prog X.w X.K X.mg X.base k m fn) (C : PlyC X.K) (hr : Room k X.A) (ho : SE X W o eo) (hm : ∀ f ∈ plyK, (m == f) = false := by decide)
    (ht : eval (.Call (.Attribute o m apos) [] [] pos) X.env = (do
      let ov ← eval o X.env
      standAt apos.atName
      let (f, first) ← holding [ov] (getMethod ov m pl)
      callWith pos f first (backTo pos (starEach [] X.env)) (backToKw pos (keywordEach [] X.env))) := by rfl) :
    SE X W (.Call (.Attribute o m apos) [] [] pos) (eMeth0 fn eo) := by
  obtain ⟨f, fd, ps, F, hM, hb⟩ := G.ex
  refine .of (pe_meth0 ho C.cls hM F hr hb .nil pass0 ht) fun F H σ ρ Q h1 h2 => ?_
  refine ⟨F, ρ, h1, Post.bind h2 fun d v F1 H1 e1 r1 q1 => ?_⟩
  cases d with
  | obj ds =>
    rw [objO_obj] at q1
    have r1' := r1
    cases r1 with
    | @obj x dx vs ds g1 g2 g3 => exact ⟨x, dx, _, rfl, e1.fh _ _ g1, ply_none g2 hm, ⟨F1, _, e1.fh, .cons r1' .nil, q1.noX⟩⟩
  | _ => exact q1.elim
theorem so_meth0 {pl : Sem Bool} {k : Nat} {fn : List D → Out (List D)} (G : FnLM X.prog X.w X.K X.mg X.base k m fn) (C : PlyC X.K) (hr : Room k X.A) (ho : SE X W o eo) (hm : ∀ f ∈ plyK, (m == f) = false := by decide)
    (ht : eval (.Call (.Attribute o m apos) [] [] pos) X.env = (do
      let ov ← eval o X.env
      standAt apos.atName
      let (f, first) ← holding [ov] (getMethod ov m pl)
      callWith pos f first (backTo pos (starEach [] X.env)) (backToKw pos (keywordEach [] X.env))) := by rfl) :
    SO X W (.Call (.Attribute o m apos) [] [] pos) (oMeth0 fn eo) := by
  obtain ⟨f, fd, ps, F, hM, hb⟩ := G.ex
  refine .of (pe_meth0 ho C.cls hM F hr hb .nil pass0 ht) fun F H σ ρ Q h1 h2 => ?_
  refine ⟨F, ρ, h1, PostO.bind h2 fun d v F1 H1 e1 r1 q1 => ?_⟩
  cases d with
  | obj ds =>
    rw [objO_obj] at q1
    have r1' := r1
    cases r1 with
    | @obj x dx vs ds g1 g2 g3 => exact ⟨x, dx, _, rfl, e1.fh _ _ g1, ply_none g2 hm, ⟨F1, _, e1.fh, .cons r1' .nil, q1.noX⟩⟩
  | _ => exact q1.elim
end
structure MethAt (K : PySem.W.Frag) (m q : Str) (st : Stmt) (ps : List Str) : Prop where
  ex : ∃ f fd, Fun K m q st f fd ∧ Meth K (plyA K) m f ∧ Binds K fd ps []
section
variable {P : Program} {w : World} {K : PySem.W.Frag} {mg : Str → Option Value} {base : Heap} {x q : Str} {st : Stmt} {N ps : List Str} {k : Nat} {Pp : OX} {den : Env → Fl}
theorem fnDM_of (O : List OK) (Df : MethAt K x q st ps) (S : FnScope N ps (defScope st)) (hz : fzs (O.take ps.length) = true)
    (body : ∀ (f : Addr) (cdv : Value) (A : Around) (outer : List PySem.Env) (s : Shared) (H : Hp) (E : XK), Room k (A.deeper (envOfC q (defScope st) s.heap.objs.size f cdv)) →
      SB ((cxOf CX0 P w K mg base N q (defScope st) f cdv A outer s H E).nox) W0 O Pp false (defBody st) den) : FnDM P w K mg base (k + 1) x (runF N.length ps.length den) := by
  obtain ⟨f, fd, F, hm, hb⟩ := Df.ex
  have hpl : ps.length ≤ N.length := by have := congrArg List.length S.pre; rw [List.length_take] at this; omega
  refine ⟨f, fd, ps, F.ok S (fun vs H Q E h => ?_) (fun cdv A outer s H vs Q E hr h => ?_), hm, hb⟩
  · obtain ⟨F, ds, h1, h2, h3⟩ := h
    unfold runF at h3
    split at h3
    · rename_i hl; rw [h2.length, hl]
    · exact h3.elim
  · obtain ⟨F1, ds, h1, h2, h3⟩ := h
    unfold runF at h3
    split at h3
    · rename_i hl
      refine ⟨_, body f cdv A outer s H E hr, F1, H, F1, _, rep_start h1 h2 (by rw [hl]; exact hz) (by rw [hl]; exact hpl), ?_⟩
      rw [hl]
      cases e : den (ds.map some ++ List.replicate (N.length - ps.length) none) with
      | nx ρ => rw [e] at h3; exact fun F2 H2 σ2 r2 => h3 _ F2 H2 r2.ext .non
      | ret d => rw [e] at h3; exact fun v F2 H2 e2 rv => h3 v F2 H2 e2 rv
      | exc y ρ => rw [e] at h3; exact h3.elim
      | bk ρ => rw [e] at h3; exact h3.elim
      | ct ρ => rw [e] at h3; exact h3.elim
      | stuck => rw [e] at h3; exact h3.elim
    · exact h3.elim
theorem fnLM_of (O : List OK) (Df : MethAt K x q st ps) (S : FnScope N ps (defScope st)) (hz : fzs (O.take ps.length) = true)
    (body : ∀ (f : Addr) (cdv : Value) (A : Around) (outer : List PySem.Env) (s : Shared) (H : Hp) (E : XK), Room k (A.deeper (envOfC q (defScope st) s.heap.objs.size f cdv)) →
      SB ((cxOf CX0 P w K mg base N q (defScope st) f cdv A outer s H E).nox) W0 O Pp true (defBody st) den) : FnLM P w K mg base (k + 1) x (runL N.length ps.length den) := by
  obtain ⟨f, fd, F, hm, hb⟩ := Df.ex
  have hpl : ps.length ≤ N.length := by have := congrArg List.length S.pre; rw [List.length_take] at this; omega
  refine ⟨f, fd, ps, F.ok S (fun vs H Q E h => ?_) (fun cdv A outer s H vs Q E hr h => ?_), hm, hb⟩
  · obtain ⟨F, ds, h1, h2, h3⟩ := h
    unfold runL at h3
    split at h3
    · rename_i hl; rw [h2.length, hl]
    · exact h3.elim
  · obtain ⟨F1, ds, h1, h2, h3⟩ := h
    unfold runL at h3
    split at h3
    · rename_i hl
      refine ⟨_, body f cdv A outer s H E hr, F1, H, F1, _, rep_start h1 h2 (by rw [hl]; exact hz) (by rw [hl]; exact hpl), ?_⟩
      rw [hl]
      cases e : den (ds.map some ++ List.replicate (N.length - ps.length) none) with
      | nx ρ => rw [e] at h3; exact h3.elim
      | ret d =>
        rw [e] at h3
        intro v F2 H2 e2 rv
        obtain ⟨a, vs2, ds2, rfl, rfl, q1, q2, q3, q4⟩ := rv
        exact h3 a vs2 F2 H2 e2 q3 q2 q1 q4
      | exc y ρ => rw [e] at h3; exact h3.elim
      | bk ρ => rw [e] at h3; exact h3.elim
      | ct ρ => rw [e] at h3; exact h3.elim
      | stuck => rw [e] at h3; exact h3.elim
    · exact h3.elim
theorem meth_at {K : PySem.W.Frag} {m q : Str} {st : Stmt} {ps : List Str} (b : (He.Fa.meth "Play" m).ok K = true) (c : ∃ fd, FunD K m q (defArgs st) (defBody st) (defScope st) [] [] (He.ma K (He.ga K "Play") m) fd)
    (h : ∀ (kV doc pm : Value) (an : Option Addr) (cdv ct : Value) (us : List Value), us.length = ps.length → bindArgs (PySem.W.fnOf m q (defArgs st) (defBody st) (defScope st) .none kV doc pm an cdv ct) ⟨us, []⟩ = pure (ps.zip us)) : MethAt K m q st ps := by
  obtain ⟨fd, F⟩ := c
  exact ⟨_, fd, fun_ofI F, He.meth_ok b, (fun_ofI F).binds h⟩
theorem plyC_of {K : PySem.W.Frag} (h : (He.Fa.cls "Play").ok K = true) (h0 : (He.Fa.noat "Play" "graph").ok K = true) (h1 : (He.Fa.noat "Play" "net").ok K = true) (h2 : (He.Fa.noat "Play" "here").ok K = true) (h3 : (He.Fa.noat "Play" "levels").ok K = true) : PlyC K := by
  refine ⟨He.cls_ok h, fun f hf => ?_⟩
  have hf : f ∈ ([("graph" : Str), "net", "here", "levels"] : List Str) := hf
  simp only [List.mem_cons, List.not_mem_nil, or_false] at hf
  rcases hf with rfl | rfl | rfl | rfl
  · exact He.noat_ok h0
  · exact He.noat_ok h1
  · exact He.noat_ok h2
  · exact He.noat_ok h3
end
structure IniR (K : PySem.W.Frag) (F0 H0 F H : Hp) (σ : St) (ρ : Env) (x dx : Addr) (vs : List V) (ds : List D) : Prop where
  ext : Ext F0 H0 F H
  h0 : H0 x = none
  fx : F x = none
  at_ : H x = some (.ins (plyA K) dx (plyK.zip vs))
  s0 : σ[0]? = some (some (.ref x))
  rf : RF K F H σ ρ
  dr : DRs K F vs ds
def evO (evs : List (Env → Out D)) (ρ : Env) : Out (List D) := match evs with
  | [] => .ok []
  | ev :: evs => (ev ρ).bind fun d => (evO evs ρ).bind fun ds => .ok (d :: ds)
@[simp] theorem evO_nil (ρ : Env) : evO [] ρ = .ok [] := (rfl)
@[simp] theorem evO_cons (ev : Env → Out D) (evs : List (Env → Out D)) (ρ : Env) : evO (ev :: evs) ρ = (ev ρ).bind fun d => (evO evs ρ).bind fun ds => .ok (d :: ds) := (rfl)
def dIni (K : PySem.W.Frag) (k : Nat) (evs : List (Env → Out D)) : TS := fun T σ H => ∃ F0 H0 F ρ x dx vs ds es, IniR K F0 H0 F H σ ρ x dx vs ds ∧ vs.length = k ∧ evO evs ρ = .ok es ∧
  ∀ F' H' ws, IniR K F0 H0 F' H' σ ρ x dx (vs ++ ws) (ds ++ es) → ws.length = evs.length → T.nx σ H'
theorem putF_ply {vs : List V} {v : V} {f : Str} (hf : plyK[vs.length]? = some f) : putF f v (plyK.zip vs) = plyK.zip (vs ++ [v]) := by
  match vs, hf with
  | [], hf => cases hf; rfl
  | [a], hf => cases hf; rfl
  | [a, b], hf => cases hf; rfl
  | [a, b, c], hf => cases hf; rfl
  | a :: b :: c :: d :: r, hf =>
    rw [List.getElem?_eq_none (by show 4 ≤ _; simp)] at hf
    cases hf
section
variable {X : Cx} {e : Expr} {sts : List Stmt} {p p' pos : Pos} {k : Nat} {f : Str} {ev : Env → Out D} {evs : List (Env → Out D)}
theorem si_nil : PSs X [] (dIni X.K k []) := ⟨fun pins s σ H T I h => by
  obtain ⟨F0, H0, F, ρ, x, dx, vs, ds, es, r, hk, he, q⟩ := h
  cases he
  refine pss_nil.run pins s σ H T I (q F H [] ?_ rfl)
  rw [List.append_nil, List.append_nil]
  exact r⟩
theorem si_cons (C : PlyC X.K) (he : SE X W0 e ev) (hs : PSs X sts (dIni X.K (k + 1) evs)) (hf : plyK[k]? = some f := by rfl) (hN : X.N[0]? = some ("self" : Str) := by rfl) (hv : Vis X.env.scope ("self" : Str) := by first | exact Or.inl rfl | exact Or.inr (Or.inl rfl) | exact Or.inr (Or.inr rfl))
    (hsw : swapsWith e (some (.Attribute (.Name "self" p) f p')) pos.line X.env = pure false := by rfl) : PSs X (.Assign [.Attribute (.Name "self" p) f p'] e pos :: sts) (dIni X.K k (ev :: evs)) := ⟨fun pins s σ H T I h => by
  obtain ⟨F0, H0, F, ρ, x, dx, vs, ds, es, r, hk, heq, q⟩ := h
  rw [evO_cons] at heq
  refine (pss_cons (ps_fld (pe_var (i := 0) hN hv) he hsw) hs).run pins s σ H T I ⟨F, ρ, r.rf, ?_⟩
  cases e1 : ev ρ with
  | stuck => rw [e1] at heq; cases heq
  | exc z => rw [e1] at heq; cases heq
  | ok d =>
    rw [e1, Out.bind_ok] at heq
    cases e2 : evO evs ρ with
    | stuck => rw [e2] at heq; cases heq
    | exc z => rw [e2] at heq; cases heq
    | ok es2 =>
      rw [e2] at heq
      cases heq
      intro v F1 H1 x1 r1
      have hat : H1 x = some (.ins (plyA X.K) dx (plyK.zip vs)) := x1.hh _ _ r.at_
      have hf1 : F1 x = none := by
        cases z : F1 x with
        | none => rfl
        | some o =>
          rcases x1.new x (by rw [z]; exact fun y => nomatch y) with y | y
          · exact absurd r.fx y
          · rw [r.at_] at y; exact absurd trivial y
      have hkl : vs.length < plyK.length := by
        rw [hk]
        exact (List.getElem?_eq_some_iff.mp hf).1
      refine ⟨.ref x, r.s0, x, plyA X.K, dx, plyK.zip vs, rfl, hat, C.cls, C.no f (List.mem_of_getElem? hf), ?_, ?_⟩
      · rw [List.length_zip]
        have : plyK.length = 4 := rfl
        omega
      · have ex : Ext F0 H0 F1 H1 := r.ext.trans x1
        rw [putF_ply (by rw [hk]; exact hf)]
        have sm : Same F1 (upd H1 x (.ins (plyA X.K) dx (plyK.zip (vs ++ [v])))) := fun b o y => by
          rw [upd_ne (fun z => by rw [z, hf1] at y; cases y)]
          exact x1.fh _ _ y
        have rf1 := r.rf.ext x1
        refine ⟨F0, H0, F1, ρ, x, dx, vs ++ [v], ds ++ [d], es2, ⟨⟨ex.ff, sm, fun b o y => ?_, ex.new, ex.nf⟩, r.h0, hf1, upd_same, r.s0, ⟨sm, rf1.2⟩, (r.dr.mono (Sub.of_same x1.ff)).append (.one r1)⟩, ?_, e2, fun F' H' ws rr hw => ?_⟩
        · rw [upd_ne (fun z => by rw [z, r.h0] at y; cases y)]
          exact ex.hh _ _ y
        · rw [List.length_append, List.length_singleton, hk]
        · refine q F' H' (v :: ws) ?_ (by rw [List.length_cons, hw, List.length_cons])
          have h1 : vs ++ v :: ws = vs ++ [v] ++ ws := by simp
          have h2 : ds ++ d :: es2 = ds ++ [d] ++ es2 := by simp
          rw [h1, h2]
          exact rr⟩
end
def spPly (K : PySem.W.Frag) (fn : List D → Out (List D)) : Sp := fun vs H Q _ => ∃ x dx us F H0 ds es, vs = .ref x :: us ∧ Same F H0 ∧ H0 x = none ∧ H0 dx = none ∧ dx ≠ x ∧ H = upd (upd H0 dx (.own x)) x (.ins (plyA K) dx []) ∧ DRs K F us ds ∧
  fn ds = .ok es ∧ ∀ F' H', Ext F H0 F' H' → DR K F' (.ref x) (.obj es) → Q .non H'
structure FnP (P : Program) (w : World) (K : PySem.W.Frag) (mg : Str → Option Value) (base : Heap) (k : Nat) (fn : List D → Out (List D)) : Prop where
  ex : ∃ f fd ps, FnOk P w K mg base CX0 k f fd ps (spPly K fn) ∧ Mk K (plyA K) f ∧ Binds K fd ps []
  mg : mg "Play" = some (.ref (plyA K))
theorem FnP.mono {P : Program} {w : World} {K : PySem.W.Frag} {mg : Str → Option Value} {base : Heap} {k k' : Nat} {fn : List D → Out (List D)} (h : FnP P w K mg base k fn) (hk : k ≤ k') : FnP P w K mg base k' fn := by
  obtain ⟨f, fd, ps, F, r⟩ := h.ex
  exact ⟨⟨f, fd, ps, F.mono hk, r⟩, h.mg⟩
structure InitP (K : PySem.W.Frag) (mg : Str → Option Value) (q : Str) (st : Stmt) (ps : List Str) : Prop where
  ex : ∃ f fd, Fun K "__init__" q st f fd ∧ Mk K (plyA K) f ∧ Binds K fd ps []
  mg : mg "Play" = some (.ref (plyA K))
def runP (n m : Nat) (evs : List (Env → Out D)) : List D → Out (List D) := fun ds => if ds.length + 1 = m ∧ evs.length = 4 then evO evs (none :: ds.map some ++ List.replicate (n - m) none) else .stuck
theorem ini_fin {K : PySem.W.Frag} {F0 H0 F H : Hp} {σ : St} {ρ : Env} {x dx : Addr} {vs : List V} {ds : List D} (r : IniR K F0 H0 F H σ ρ x dx vs ds) (hv : vs.length = plyK.length) : ∃ F', Ext F0 H0 F' H ∧ DR K F' (.ref x) (.obj ds) := by
  have sn : Same F (upd F x (.ins (plyA K) dx (plyK.zip vs))) := same_new r.fx
  refine ⟨upd F x (.ins (plyA K) dx (plyK.zip vs)), ⟨r.ext.ff.trans sn, fun b o e => ?_, r.ext.hh, fun b hb => ?_, fun b w xs e => ?_⟩, .obj upd_same hv (r.dr.mono (Sub.of_same sn))⟩
  · by_cases hb : b = x
    · subst hb; rw [upd_same] at e; rw [r.at_]; exact e
    · rw [upd_ne hb] at e; exact r.ext.fh _ _ e
  · by_cases hx : b = x
    · subst hx; exact .inr (nmut r.h0)
    · rw [upd_ne hx] at hb; exact r.ext.new b hb
  · by_cases hb : b = x
    · subst hb; rw [upd_same] at e; cases e
    · rw [upd_ne hb] at e; exact r.ext.nf _ _ _ e
section
variable {P : Program} {w : World} {K : PySem.W.Frag} {mg : Str → Option Value} {base : Heap} {q : Str} {st : Stmt} {N ps : List Str} {k : Nat} {evs : List (Env → Out D)}
theorem fnP_of (I : InitP K mg q st ps) (S : FnScope N ps (defScope st)) (hp : 1 ≤ ps.length)
    (body : ∀ (f : Addr) (cdv : Value) (A : Around) (outer : List PySem.Env) (s : Shared) (H : Hp) (E : XK), Room k (A.deeper (envOfC q (defScope st) s.heap.objs.size f cdv)) →
      PSs ((cxOf CX0 P w K mg base N q (defScope st) f cdv A outer s H E).nox) (defBody st) (dIni K 0 evs)) : FnP P w K mg base (k + 1) (runP N.length ps.length evs) := by
  obtain ⟨f, fd, F, hM, hb⟩ := I.ex
  have hpl : ps.length ≤ N.length := by have := congrArg List.length S.pre; rw [List.length_take] at this; omega
  refine ⟨⟨f, fd, ps, F.ok S (fun vs H Q E h => ?_) (fun cdv A outer s H vs Q E hr h => ?_), hM, hb⟩, I.mg⟩
  · obtain ⟨x, dx, us, F, H0, ds, es, rfl, _, _, _, _, _, h2, h3, _⟩ := h
    unfold runP at h3
    split at h3
    · rename_i hl
      rw [List.length_cons, h2.length]
      exact hl.1
    · cases h3
  · obtain ⟨x, dx, us, F1, H0, ds, es, rfl, s1, n1, n2, ne, rfl, h2, h3, h4⟩ := h
    unfold runP at h3
    split at h3
    · rename_i hl
      have sm : Same F1 (upd (upd H0 dx (.own x)) x (.ins (plyA K) dx [])) := fun b o e => by
        have e := s1 _ _ e
        rw [upd_ne (fun z => by rw [z, n1] at e; cases e), upd_ne (fun z => by rw [z, n2] at e; cases e)]
        exact e
      have sh : Same H0 (upd (upd H0 dx (.own x)) x (.ins (plyA K) dx [])) := fun b o e => by
        rw [upd_ne (fun z => by rw [z, n1] at e; cases e), upd_ne (fun z => by rw [z, n2] at e; cases e)]
        exact e
      have hst : L2.start N (.ref x :: us) = some (.ref x) :: us.map some ++ List.replicate (N.length - ps.length) none := by
        unfold L2.start
        rw [List.length_cons, h2.length, hl.1]
        rfl
      have hul : us.length = ds.length := h2.length
      refine ⟨_, body f cdv A outer s _ E hr, F1, H0, F1, none :: ds.map some ++ List.replicate (N.length - ps.length) none, x, dx, [], [], es, ⟨⟨Same.refl _, sm, sh, fun _ h => .inl h, fun _ _ _ h => h⟩, n1, s1.free n1, upd_same, by rw [hst]; rfl, ⟨sm, ?_, fun i d hi => ?_⟩, .nil⟩, rfl, h3, fun F' H' ws rr hw => ?_⟩
      · rw [hst]
        simp [hul]
      · rw [hst]
        cases i with
        | zero => cases hi
        | succ i =>
          rw [List.cons_append, List.getElem?_cons_succ] at hi ⊢
          by_cases hlt : i < ds.length
          · rw [List.getElem?_append_left (by rw [List.length_map]; exact hlt), List.getElem?_map] at hi
            obtain ⟨d', hd, e⟩ := Option.map_eq_some_iff.mp hi
            cases e
            obtain ⟨v, hv, rv⟩ := h2.get hd
            exact ⟨v, by rw [List.getElem?_append_left (by rw [List.length_map, hul]; exact hlt), List.getElem?_map, hv]; rfl, rv⟩
          · rw [List.getElem?_append_right (by rw [List.length_map]; omega), List.getElem?_replicate] at hi
            split at hi <;> cases hi
      · rw [List.nil_append, List.nil_append] at rr
        obtain ⟨F2, x2, d2⟩ := ini_fin rr (by rw [hw, hl.2]; rfl)
        exact h4 F2 H' x2 d2
    · cases h3
theorem initP_at {K : PySem.W.Frag} {mg : Str → Option Value} {q : Str} {st : Stmt} {ps : List Str} (b : (He.Fa.mkr "Play").ok K = true) (hm : mg "Play" = some (.ref (He.ga K "Play"))) (c : ∃ fd, FunD K "__init__" q (defArgs st) (defBody st) (defScope st) [] [] (He.ma K (He.ga K "Play") "__init__") fd)
    (h : ∀ (kV doc pm : Value) (an : Option Addr) (cdv ct : Value) (us : List Value), us.length = ps.length → bindArgs (PySem.W.fnOf "__init__" q (defArgs st) (defBody st) (defScope st) .none kV doc pm an cdv ct) ⟨us, []⟩ = pure (ps.zip us)) : InitP K mg q st ps := by
  obtain ⟨fd, F⟩ := c
  exact ⟨⟨_, fd, fun_ofI F, He.mkr_ok b, (fun_ofI F).binds h⟩, hm⟩
end
def newO (o : Out (List D)) : Out D := match o with
  | .ok es => .ok (.obj es)
  | _ => .stuck
@[simp] theorem newO_ok (es : List D) : newO (.ok es) = .ok (.obj es) := (rfl)
def eNew (fn : List D → Out (List D)) (er : Env → Out (List D)) : Env → Out D := fun ρ => (er ρ).bind fun ds => newO (fn ds)
@[simp] theorem q_eNew (fn : List D → Out (List D)) (er : Env → Out (List D)) (ρ : Env) : eNew fn er ρ = (er ρ).bind fun ds => newO (fn ds) := (rfl)
section
variable {X : Cx} {W : WX} {e : Expr} {es : List Expr} {p pos : Pos} {er : Env → Out (List D)}
theorem se_new {k : Nat} {fn : List D → Out (List D)} (G : FnP X.prog X.w X.K X.mg X.base k fn) (hr : Room (k + 1) X.A) (ha : SA X W (e :: es) er) (hg : Gl X "Play" := by rfl)
    (he : starEach (e :: es) X.env = (false, eval e X.env) :: starEach es X.env := by rfl) (hpl : (backTo pos (starEach es X.env)).any (·.1) = false := by rfl) : SE X W (.Call (.Name "Play" p) (e :: es) [] pos) (eNew fn er) := by
  obtain ⟨f, fd, ps, F, hM, hb⟩ := G.ex
  refine .of (pe_make hM F hr hg G.mg hb .nil pass0 ha (by decide) he hpl) fun F H σ ρ Q h1 h2 => ?_
  refine ⟨F, ρ, h1, Post.bind h2 fun ds vs F1 H1 e1 r1 q1 x dx hx hd hne => ?_⟩
  rw [List.append_nil]
  cases hf : fn ds with
  | stuck => rw [hf] at q1; exact q1.elim
  | exc z => rw [hf] at q1; exact q1.elim
  | ok us =>
    rw [hf] at q1
    exact ⟨x, dx, vs, F1, H1, ds, us, rfl, e1.fh, hx, hd, hne, rfl, r1, hf, fun F' H' e' r' => ⟨rfl, q1 _ F' H' e' r'⟩⟩
end
end CW
namespace CW
open PySem PySem.Spec PyProof.Rows L2
def ItzM (K : PySem.W.Frag) (a b : Addr) : It :=
  ⟨fun i H => ∃ (xs ys : List V) (x y : V), SqL K H a xs ∧ SqT K H b ys ∧ xs[i]? = some x ∧ ys[i]? = some y,
    fun i H v H' => ∃ T x y, v = .ref T ∧ H T = none ∧ H' = upd H T (.tup [x, y]) ∧ (∀ xs, SqL K H a xs → xs[i]? = some x) ∧ ∀ ys, SqT K H b ys → ys[i]? = some y,
    fun i H => ∃ xs ys : List V, SqL K H a xs ∧ SqT K H b ys ∧ (xs.length = i ∧ i ≤ ys.length ∨ ys.length = i ∧ i ≤ xs.length)⟩
structure ZM (z TI TO i1 i2 a b : Addr) (h : Heap) (i : Nat) : Prop where
  z_ : IsZip h z TI TO .none
  ti : IsPair h TI (.ref i1) (.ref i2)
  to_ : ∃ x y, IsPair h TO x y
  l : h.IsListIter i1 a i
  t : h.IsTupleIter i2 b i
theorem zm_sep {z TI TO i1 i2 a b : Addr} (D : ZipApart z TI TO i1 i2 a b) : ZipSep2 z TI TO i1 i2 [i1, a] [i2, b] where
  TIz := D.TIz
  TOz := D.TOz
  TITO := D.TITO
  TIi1 := D.TIi1
  mem1 := by simp
  zf1 := by simp; exact ⟨D.i1z.symm, D.l1z.symm⟩
  Tf1 := by simp; exact ⟨D.TOi1, D.l1TO.symm⟩
  TIi2 := D.TIi2
  mem2 := by simp
  zf2 := by simp; exact ⟨D.i2z.symm, D.l2z.symm⟩
  Tf2 := by simp; exact ⟨D.TOi2, D.l2TO.symm⟩
  sep1_2 := by simp; exact ⟨D.i12, D.l2i1.symm⟩
  sep2_1 := by simp; exact ⟨D.i12.symm, D.l1i2.symm⟩
theorem five_lt {z TI TO i1 i2 a b : Addr} {h : Heap} {i : Nat} (st : ZM z TI TO i1 i2 a b h i) : ∀ c ∈ [z, TI, TO, i1, i2], ∃ o, h.get? c = some o := fun c hc => by
  obtain ⟨x, y, hTO⟩ := st.to_
  obtain ⟨o1, e1, _⟩ := st.l
  obtain ⟨o2, e2, _⟩ := st.t
  simp only [List.mem_cons, List.not_mem_nil, or_false] at hc
  rcases hc with rfl | rfl | rfl | rfl | rfl
  · exact ⟨_, st.z_⟩
  · exact ⟨_, st.ti⟩
  · exact ⟨_, hTO⟩
  · exact ⟨_, e1⟩
  · exact ⟨_, e2⟩
theorem turn_zipM {P : Program} {w : World} {K : PySem.W.Frag} {elts : List Expr} {kk : Nat} {tpos : Pos} {a b z TI TO i1 i2 : Addr} (D : ZipApart z TI TO i1 i2 a b) :
    Turn P w K (.Tuple elts kk tpos) (ItzM K a b) [z, TI, TO, i1, i2] z (fun i h => ZM z TI TO i1 i2 a b h i) where
  mem := by simp
  obj := fun i h st c hc => by
    obtain ⟨x, y, hTO⟩ := st.to_
    obtain ⟨o1, e1, _, d1⟩ := st.l
    obtain ⟨o2, e2, _, d2⟩ := st.t
    simp only [List.mem_cons, List.not_mem_nil, or_false] at hc
    rcases hc with rfl | rfl | rfl | rfl | rfl
    · exact ⟨_, st.z_, fun v q => nomatch q⟩
    · exact ⟨_, st.ti, fun v q => nomatch q⟩
    · exact ⟨_, hTO, fun v q => nomatch q⟩
    · exact ⟨o1, e1, fun v q => by rw [d1] at q; cases q⟩
    · exact ⟨o2, e2, fun v q => by rw [d2] at q; cases q⟩
  keep := fun i h h' st k => by
    obtain ⟨x, y, hTO⟩ := st.to_
    exact ⟨k z (by simp) _ st.z_, k TI (by simp) _ st.ti, ⟨x, y, k TO (by simp) _ hTO⟩, st.l.at fun o q => k i1 (by simp) o q, st.t.at fun o q => k i2 (by simp) o q⟩
  item := by
    intro X hP hw hK hc i pins s σ H E I hf st hg
    subst hP hw hK
    obtain ⟨x0, y0, hTO⟩ := st.to_
    obtain ⟨xs, ys, x, y, hqx, hqy, hx, hy⟩ := hg
    obtain ⟨its, rv, p, _⟩ := I.list hqx
    obtain ⟨its2, rv2, p2, _⟩ := I.tuple hqy
    obtain ⟨u, hu, ru⟩ := rv.get hx
    obtain ⟨u2, hu2, ru2⟩ := rv2.get hy
    have hzl : z < s.heap.objs.size := Heap.lt_size st.z_
    have hl1 : i < its.toArray.size := by have := (List.getElem?_eq_some_iff.mp hu).1; simpa using this
    have hl2 : i < its2.toArray.size := by have := (List.getElem?_eq_some_iff.mp hu2).1; simpa using this
    have tup2 : s.heap.IsTuple b its2.toArray := p2
    have D1 := Draws.list (prog := X.prog) (w := X.w) (A := X.A.in1) (I.ok.hd hc) i1 a D.l1i1 its.toArray
    have D2 := Draws.tuple (prog := X.prog) (w := X.w) (A := X.A.in1) (I.ok.hd hc) i2 b D.l2i2 its2.toArray
    refine wpAny_pyNext_zipD2_item (i := i) (zm_sep D) D1 D2 st.z_ st.ti hTO ⟨st.l, p.isList⟩ ⟨st.t, tup2⟩ hl1 hl2 fun v1 v2 h' tk e1 e2 z' TO' s1' s2' hT hsz hk => ?_
    have hv1 : v1 = u := by rw [List.getElem?_toArray, hu] at e1; exact (Option.some.inj e1).symm
    have hv2 : v2 = u2 := by rw [List.getElem?_toArray, hu2] at e2; exact (Option.some.inj e2).symm
    subst hv1 hv2
    refine ⟨_, rfl, wpAny_letOwnedTupleGo_zip (s := { s with heap := h', toks := tk }) z' fun h'' z'' sb => ?_⟩
    have hT2 : h''.get? s.heap.objs.size = some { cls := .type "tuple", data := .seq #[v1, v2] } := (sb.2 _ (Nat.ne_of_gt hzl)).trans hT
    have new : ObjOk X.prog X.w (upd H s.heap.objs.size (.tup [x, y])) h'' s.heap.objs.size (.tup [x, y]) :=
      ⟨by show 2 ≤ sizeLine; decide, [v1, v2], .cons ru (.cons ru2 .nil), ⟨_, hT2, rfl, _, rfl⟩⟩
    have I1 : Inv X pins σ (upd H s.heap.objs.size (.tup [x, y])) { s with heap := h'', toks := tk } :=
      I.turnedNew (t' := tk) (ch := [z, TI, TO, i1, i2]) (fun c o hb q => (sb.2 c (fun q' => hb (by simp [q']))).trans (hk c o (fun q' => hb (by simp [q'])) (fun q' => hb (by simp [q'])) (fun q' => hb (by simp [q'])) (fun q' => hb (by simp [q'])) q)) hf (Nat.le_refl _) new
    refine ⟨.ref s.heap.objs.size, _, I1, rfl, ⟨_, x, y, rfl, I.hok.fresh (Nat.le_refl _), rfl, fun l hl => by rw [I.list_inj hl hqx]; exact hx, fun l hl => by rw [I.tuple_inj hl hqy]; exact hy⟩, ⟨z'', ?_, ⟨v1, v2, ?_⟩, ?_, ?_⟩, fun c hcm => ?_⟩
    · exact (sb.2 _ D.TIz).trans (hk _ _ D.TIz D.TITO D.TIi1 D.TIi2 st.ti)
    · exact (sb.2 _ D.TOz).trans TO'
    · exact s1'.1.at fun o q => (sb.2 _ D.i1z).trans q
    · exact s2'.1.at fun o q => (sb.2 _ D.i2z).trans q
    · obtain ⟨o, ho⟩ := five_lt st c hcm
      rw [upd_ne (Nat.ne_of_lt (Heap.lt_size ho))]
      exact (hf c hcm).1
  done := by
    intro X hP hw hK hc i pins s σ H E I hf st hg
    subst hP hw hK
    obtain ⟨x0, y0, hTO⟩ := st.to_
    obtain ⟨xs, ys, hqx, hqy, hend⟩ := hg
    obtain ⟨its, rv, p, _⟩ := I.list hqx
    obtain ⟨its2, rv2, p2, _⟩ := I.tuple hqy
    have l1 := rv.length
    have l2 := rv2.length
    have tup2 : s.heap.IsTuple b its2.toArray := p2
    have D1 := Draws.list (prog := X.prog) (w := X.w) (A := X.A.in1) (I.ok.hd hc) i1 a D.l1i1 its.toArray
    have D2 := Draws.tuple (prog := X.prog) (w := X.w) (A := X.A.in1) (I.ok.hd hc) i2 b D.l2i2 its2.toArray
    have z1 : its.toArray.size = its.length := by simp
    have z2 : its2.toArray.size = its2.length := by simp
    exact wpAny_pyNext_zipD2_end (i := i) (zm_sep D) D1 D2 st.z_ st.ti hTO ⟨st.l, p.isList⟩ ⟨st.t, tup2⟩ (by omega) (by omega) (by omega) fun h' tk hk => ⟨rfl, I.turnedL (t' := tk) (ch := [z, TI, TO, i1, i2]) (fun c o hb q =>
      hk c o (fun q' => hb (by simp [q'])) (fun q' => hb (by simp [q'])) (fun q' => hb (by simp [q'])) (fun q' => hb (by simp [q'])) q) hf⟩
  self := fun A i s Q E st h => wpAny_pyIter_zip st.z_ h
abbrev zmA (h : Heap) (l1 : Addr) : Heap := h.push { cls := .type "list_iterator", data := .fields #[.ref l1, .int 0 0] }
abbrev zmB (h : Heap) (l1 l2 : Addr) : Heap := (zmA h l1).push { cls := .type "tuple_iterator", data := .fields #[.ref l2, .int 0 0] }
abbrev zmC (h : Heap) (l1 l2 : Addr) : Heap := (zmB h l1 l2).push { cls := .type "tuple", data := .seq #[.ref h.objs.size, .ref (zmA h l1).objs.size] }
abbrev zmD (h : Heap) (l1 l2 : Addr) : Heap := (zmC h l1 l2).push { cls := .type "tuple", data := .seq #[.none, .none] }
abbrev zmE (h : Heap) (l1 l2 : Addr) : Heap := (zmD h l1 l2).push { cls := .type "zip", data := .fields #[.none, .bool false, .bool false, .ref (zmB h l1 l2).objs.size, .ref (zmC h l1 l2).objs.size] }
theorem meets_zipM (l1 l2 : Addr) (xs ys : Array Value) :
    Meets (Builtin.«zip.__new__» ⟨[.type "zip", .ref l1, .ref l2], []⟩) (fun _ R s => s.heap.IsList l1 xs ∧ s.heap.IsTuple l2 ys ∧
      R (.ok (.ret (.ref (zmD s.heap l1 l2).objs.size))) { s with heap := zmE s.heap l1 l2 }) :=
  .of_wp fun prog w A R s h => by
    obtain ⟨hp, g, d, tk, os⟩ := s; obtain ⟨hl1, hl2, h⟩ := h
    have hsub := sub_zip
    have hL1 : Heap.IsList (Shared.heap ⟨hp, g, d, tk, os⟩) l1 xs := hl1
    have hL2 : Heap.IsTuple (Shared.heap ⟨hp.push { cls := .type "list_iterator", data := .fields #[.ref l1, .int 0 0] }, g, d, tk, os⟩) l2 ys := Heap.IsTuple.push hl2 _
    wp_walk using wpAny_pyIter_list hL1, wpAny_pyIter_tuple hL2
    exact ⟨_, rfl, h⟩
section
variable {prog : Program} {w : World} {A : Around} {E : Value → Shared → Prop} {s : Shared}
theorem call_zipM {l1 l2 : Addr} {xs ys : Array Value} {Q : Value → Shared → Prop} (hl1 : s.heap.IsList l1 xs) (hl2 : s.heap.IsTuple l2 ys)
    (h : ∀ h', ZM (s.heap.objs.size + 4) (s.heap.objs.size + 2) (s.heap.objs.size + 3) s.heap.objs.size (s.heap.objs.size + 1) l1 l2 h' 0 →
      (∀ c o, s.heap.get? c = some o → h'.get? c = some o) → Q (.ref (s.heap.objs.size + 4)) { s with heap := h' }) :
    wpAny (model prog w) A (call (.type "zip") [.ref l1, .ref l2]) Q E s := by
  refine callType_new F.called_zip (by decide) (F.typeCall_zip_2 _ _) (F.newCall_zip_2 _ _) (fun obj => F.args_object_init_3 obj _ _) F.entry_zip_new
    (meets_zipM l1 l2 xs ys) ⟨hl1, hl2, ?_⟩
  have z1 : (zmA s.heap l1).objs.size = s.heap.objs.size + 1 := Heap.size_push ..
  have z2 : (zmB s.heap l1 l2).objs.size = s.heap.objs.size + 2 := by rw [Heap.size_push, z1]
  have z3 : (zmC s.heap l1 l2).objs.size = s.heap.objs.size + 3 := by rw [Heap.size_push, z2]
  have z4 : (zmD s.heap l1 l2).objs.size = s.heap.objs.size + 4 := by rw [Heap.size_push, z3]
  have keep1 : ∀ c o, (zmD s.heap l1 l2).get? c = some o → (zmE s.heap l1 l2).get? c = some o := fun c o x => Heap.get?_push_of_some _ x
  have keep2 : ∀ c o, (zmC s.heap l1 l2).get? c = some o → (zmE s.heap l1 l2).get? c = some o := fun c o x => keep1 c o (Heap.get?_push_of_some _ x)
  have keep3 : ∀ c o, (zmB s.heap l1 l2).get? c = some o → (zmE s.heap l1 l2).get? c = some o := fun c o x => keep2 c o (Heap.get?_push_of_some _ x)
  have keep4 : ∀ c o, (zmA s.heap l1).get? c = some o → (zmE s.heap l1 l2).get? c = some o := fun c o x => keep3 c o (Heap.get?_push_of_some _ x)
  have g5 : (zmE s.heap l1 l2).get? (zmD s.heap l1 l2).objs.size = some _ := Heap.get?_push_size _ rfl
  have g4 : (zmE s.heap l1 l2).get? (zmC s.heap l1 l2).objs.size = some _ := keep1 _ _ (Heap.get?_push_size _ rfl)
  have g3 : (zmE s.heap l1 l2).get? (zmB s.heap l1 l2).objs.size = some _ := keep2 _ _ (Heap.get?_push_size _ rfl)
  have g2 : (zmE s.heap l1 l2).get? (zmA s.heap l1).objs.size = some _ := keep3 _ _ (Heap.get?_push_size _ rfl)
  have g1 : (zmE s.heap l1 l2).get? s.heap.objs.size = some _ := keep4 _ _ (Heap.get?_push_size _ rfl)
  show _ ∧ _
  rw [z2, z3, z4] at g5
  rw [z1, z2] at g3
  rw [z3] at g4
  rw [z1] at g2
  rw [z4]
  exact ⟨⟨_, g5, rfl⟩, h _ ⟨g5, g3, ⟨_, _, g4⟩, ⟨_, g1, rfl, rfl⟩, ⟨_, g2, rfl, rfl⟩⟩ fun c o x => keep4 c o (Heap.get?_push_of_some _ x)⟩
end
def iZipM (K : PySem.W.Frag) (ta : TA) : TI := fun σ H R => ta σ H fun vs H1 => ∃ a b xs ys, vs = [.ref a, .ref b] ∧ SqL K H1 a xs ∧ SqT K H1 b ys ∧ R (ItzM K a b) H1
theorem pi_zipM {X : Cx} {e e2 : Expr} {ta : TA} {p pos tpos : Pos} {elts : List Expr} {kk : Nat} (hg : Gl X "zip") (hm : X.mg "zip" = none) (ha : PA X [e, e2] ta)
    (hs : starEach [e, e2] X.env = (false, eval e X.env) :: starEach [e2] X.env := by rfl) (hpl : (backTo pos (starEach [e2] X.env)).any (·.1) = false := by rfl) :
    PI X (.Tuple elts kk tpos) (.Call (.Name "zip" p) [e, e2] [] pos) (iZipM X.K ta) := by
  refine ⟨fun pins s σ H R I h => ?_⟩
  refine Call_ (ld_blt I hg hm PyProof.Rows.boot_zip (PyProof.Rows.callWith_type1 (thn (ha.run pos pins s σ H _ I h) fun us s1 ⟨vs, H1, I1, r1, q1⟩ => ?_) hs hpl))
  obtain ⟨a, b, xs, ys, ex, hqx, hqy, q⟩ := q1
  subst ex
  cases r1 with
  | cons r rr =>
    cases rr with
    | cons r' rr =>
      cases rr
      cases r
      cases r'
      have fresh5 : ∀ c, c ∈ [s1.heap.objs.size + 4, s1.heap.objs.size + 2, s1.heap.objs.size + 3, s1.heap.objs.size, s1.heap.objs.size + 1] → FpOk X pins H1 c := fun c hcm => by
        have hle : s1.heap.objs.size ≤ c := by
          simp only [List.mem_cons, List.not_mem_nil, or_false] at hcm
          rcases hcm with z | z | z | z | z <;> rw [z] <;> first | exact Nat.le_refl _ | exact Nat.le_add_right _ _
        exact I1.fpOk hle (I1.hok.fresh hle)
      obtain ⟨its, rv, p1, _⟩ := I1.list hqx
      obtain ⟨its2, rv2, p2, _⟩ := I1.tuple hqy
      obtain ⟨o2, ho2, _⟩ := id p2
      refine call_zipM p1.isList (show s1.heap.IsTuple b its2.toArray from p2) fun h' hz hk => wpAny_pyIter_zip hz.z_ ?_
      have I2 : Inv X pins σ H1 { s1 with heap := h' } := I1.kept (t' := s1.toks) hk
      exact ⟨s1.heap.objs.size + 4, [s1.heap.objs.size + 4, s1.heap.objs.size + 2, s1.heap.objs.size + 3, s1.heap.objs.size, s1.heap.objs.size + 1], _, _, H1, rfl, I2, turn_zipM (PySem.W.ktu_apart s1.heap.objs.size a b p1.lt (Heap.lt_size ho2)), hz, fresh5, q⟩
def zpM : List D → Out (List D)
  | [.lst es, .tup fs] => .ok (zipL es fs)
  | _ => .stuck
def iZpM (ea : Env → Out (List D)) : Env → Out (List D) := fun ρ => (ea ρ).bind zpM
@[simp] theorem zpM_lt (es fs : List D) : zpM [.lst es, .tup fs] = .ok (zipL es fs) := (rfl)
@[simp] theorem q_iZpM {r : Env → Out (List D)} {ρ : Env} : iZpM r ρ = (r ρ).bind zpM := (rfl)
theorem si_zipM {X : Cx} {W : WX} {a b : Expr} {pos p tpos : Pos} {kk : Nat} {elts : List Expr} {ea : Env → Out (List D)} (hm : X.mg "zip" = none) (ha : SA X W [a, b] ea) (hg : Gl X "zip" := by rfl)
    (hs : starEach [a, b] X.env = (false, eval a X.env) :: starEach [b] X.env := by rfl) (hpl : (backTo pos (starEach [b] X.env)).any (·.1) = false := by rfl) :
    SI X W (.Tuple elts kk tpos) (.Call (.Name "zip" p) [a, b] [] pos) (iZpM ea) :=
  .of (pi_zipM hg hm ha hs hpl) fun F H σ ρ R h1 h2 => ⟨F, ρ, h1, PostI.bind h2 fun ds vs F1 H1 ed e1 r1 q1 => by
    unfold zpM at q1
    split at q1
    · obtain ⟨v, w, rfl, r2, r3⟩ := two_of r1
      cases r2 with
      | @lst p vs ds g1 g2 =>
        cases r3 with
        | @tup p' vs' ds' g1' g2' =>
          refine ⟨p, p', vs, vs', rfl, .inl (rd_of e1.fh g1), (Sub.of_same e1.fh).sqP g1', q1 _ F1 H1 (.refl e1.fh) fun i Fi H s1 s2 => ?_⟩
          have hH : SqL X.K H p vs := .inl (rd_of (s1.trans s2) g1)
          have hH' : SqT X.K H p' vs' := (Sub.of_same (s1.trans s2)).sqP g1'
          refine ⟨fun d hd => ?_, fun hi => ⟨vs, vs', hH, hH', ?_⟩⟩
          · obtain ⟨x, y, hx, hy, rfl⟩ := zipL_get hd
            obtain ⟨v1, hv1, rv1⟩ := g2.get hx
            obtain ⟨v2, hv2, rv2⟩ := g2'.get hy
            refine ⟨⟨vs, vs', v1, v2, hH, hH', hv1, hv2⟩, fun z H' hz => ?_⟩
            obtain ⟨T, x', y', rfl, nT, rfl, k1, k2⟩ := hz
            have z1 := k1 vs hH
            have z2 := k2 vs' hH'
            rw [hv1] at z1
            rw [hv2] at z2
            cases z1
            cases z2
            have nF := s2.free nT
            have mn := fun {v : V} {d : D} (h : DR X.K F1 v d) => (h.mono (Sub.of_same s1)).mono (Sub.of_same (same_new (o := .tup [v1, v2]) nF))
            exact ⟨_, ext_tup s2 nT, .tup upd_same (.cons (mn rv1) (.one (mn rv2)))⟩
          · rw [g2.length, g2'.length]
            rw [zipL_len] at hi
            omega
    · exact q1.elim⟩
end CW
namespace CW
open PySem PySem.Spec PyProof.Rows L2
noncomputable section
def b1_bits : Env → Fl := (fAsg [] 1 (eOp oOr (eV 1) (eOp oShl (eC (.int 1)) (eV 2))))
def d_bits : Env → Fl := (fSeq (fAsg [] 1 (eC (.int 0)))
    (fSeq (fFor [] [2] gN (eI (eV 0))
    b1_bits)
    (fRet (eV 1))))
def f_bits : List D → Out D := runF 3 1 d_bits
def b1_is_name : Env → Fl := (fIf (tB1 (eOp (oIn true) (eV 1) (eC (.str "abcdefghijklmnopqrstuvwxyz"))))
    (fRet (eC (.bl false)))
    fNx)
def d_is_name : Env → Fl := (fSeq (fIf (tOr' (tNot' (tB1 (eChain oLe oLe (eC (.int 1)) (eB bLen (aC (eV 0) aN)) (eC (.int 8))))) (tB1 (eOp (oIn false) (eV 0) (eC (.cst ["given", "made", "up", "down", "start"])))))
    (fRet (eC (.bl false)))
    fNx)
    (fSeq (fFor [] [1] gN (eI (eV 0))
    b1_is_name)
    (fRet (eC (.bl true)))))
def f_is_name : List D → Out D := runF 2 1 d_is_name
def c1_made : Env → Out Bool := (tB1 (eOp oEq (eOp oIx (eV 2) (eC (.int 1))) (eC (.str "made"))))
def d_made : Env → Fl := (fRetO (oLc [1, 2] [1, 2] (iEn (aC (eOp oIx (eV 0) (eC (.int 0))) aN)) (gT 2) c1_made (eV 1)))
def f_made : List D → Out (List D) := runL 3 1 d_made
def d_need : Env → Fl := (fIf (tNot' (tTru (eV 0)))
    (fRaise "NoText" (aC (eV 1) aN))
    fNx)
def f_need : List D → Out D := runFX 2 2 d_need
def d_can : Env → Fl := (fSeq (fAsg [] 3 (eCall f_bits (aC (eOp oIx (eOp oIx (eOp oIx (eV 0) (eC (.int 1))) (eV 2)) (eC (.int 2))) aN)))
    (fRet (eOp oEq (eOp oAnd (eOp oIx (eV 1) (eC (.int 0))) (eV 3)) (eV 3))))
def f_can : List D → Out D := runF 4 3 d_can
def d_l_mix_2 : Env → Fl := (fSeq (fAsg [] 2 (eOp oAdd (eOp oMul (eC (.int 7919)) (eV 1)) (eC (.int 12345))))
    (fSeq (fIf (tB1 (eOp oLt (eV 1) (eB bLen (aC (eV 0) aN))))
    (fAsg [] 2 (eOp oAdd (eV 2) (eOp oMul (eOp oIx (eV 0) (eV 1)) (eC (.int 6364136223846793005)))))
    fNx)
    (fRet (eOp oMod (eOp oMul (eV 2) (eC (.int 48271))) (eC (.int 1000000000039))))))
def f_l_mix_2 : List D → Out D := runF 3 2 d_l_mix_2
def b1_l_word : Env → Fl := (fSeq (fAsg [] 7 (eC (.int 0)))
    (fSeq (fIf (tB1 (eOp oEq (eV 6) (eV 4)))
    (fAsg [] 7 (eV 1))
    fNx)
    (fAsg [] 5 (eOp oAdd (eV 5) (eOp oIx (eV 2) (eOp oMod (eOp oAdd (eOp oAdd (eOp oDiv (eV 0) (eC (.int 49))) (eOp oMul (eC (.int 5)) (eV 6))) (eOp oMul (eC (.int 7)) (eV 7))) (eC (.int 26))))))))
def d_l_word : Env → Fl := (fSeq (fAsg [] 2 (eC (.str "abcdefghijklmnopqrstuvwxyz")))
    (fSeq (fAsg [] 3 (eOp oAdd (eC (.int 2)) (eOp oMod (eV 0) (eC (.int 7)))))
    (fSeq (fAsg [] 4 (eOp oMod (eOp oDiv (eV 0) (eC (.int 7))) (eV 3)))
    (fSeq (fAsg [] 5 (eC (.str "")))
    (fSeq (fFor [] [6] gN (iRg1 (aC (eV 3) aN))
    b1_l_word)
    (fSeq (fIf (tB1 (eOp (oIn false) (eV 5) (eL (oLst (aC (eC (.str "given")) (aC (eC (.str "made")) (aC (eC (.str "up")) (aC (eC (.str "down")) (aC (eC (.str "start")) aN)))))))))
    (fAsg [] 5 (eOp oAdd (eSl (eV 5) (pS (eC (.int 1))) pN) (eC (.str "q"))))
    fNx)
    (fRet (eV 5))))))))
def f_l_word : List D → Out D := runF 8 2 d_l_word
def b1_l_order : Env → Fl := (fSeq (fAsg [.fz, .fz, .fz, .ol, .fz, .fz, .fz, .fz] 5 (eCall f_l_mix_2 (aC (eV 0) (aC (eOp oAdd (eV 1) (eV 4)) aN))))
    (fSeq (fAsgB 6 (eOp oMod (eV 5) (eOp oAdd (eB bLen (aC (eV 3) aN)) (eC (.int 1)))))
    (fSeq (fInsB 3 (eV 6) (eV 4))
    (fSeq (fAsgB 7 (eOp oMod (eOp oDiv (eV 5) (eC (.int 64))) (eOp oSub (eB bLen (aC (eV 3) aN)) (eV 6))))
    (fInsB 3 (eOp oAdd (eOp oAdd (eV 6) (eC (.int 1))) (eV 7)) (eV 4))))))
def d_l_order : Env → Fl := (fSeq (fAsgO [.fz, .fz, .fz, .fz, .fz, .fz, .fz, .fz] 3 (oLst aN))
    (fSeq (fFor [.fz, .fz, .fz, .ol, .fz, .fz, .fz, .fz] [4] gN (iRg1 (aC (eV 2) aN))
    b1_l_order)
    (fRetV 3)))
def f_l_order : List D → Out (List D) := runL 8 3 d_l_order
def b1_l_arrows_2 : Env → Fl := (fSeq (fAsg [.fz, .fz, .fz, .fz, .ol, .fz, .fz, .fz, .fz] 6 (eCall f_l_mix_2 (aC (eV 0) (aC (eOp oAdd (eV 1) (eV 5)) aN))))
    (fSeq (fAsg [.fz, .fz, .fz, .fz, .ol, .fz, .fz, .fz, .fz] 7 (eOp oMod (eV 6) (eV 3)))
    (fSeq (fAsg [.fz, .fz, .fz, .fz, .ol, .fz, .fz, .fz, .fz] 8 (eOp oMod (eOp oDiv (eV 6) (eC (.int 64))) (eV 3)))
    (fIf (tAnd' (tB1 (eOp oNe (eV 7) (eV 8))) (tB1 (eOp (oIn true) (eTup (aC (eB bMin2 (aC (eV 7) (aC (eV 8) aN))) (aC (eB bMax2 (aC (eV 7) (aC (eV 8) aN))) aN))) (eV 4))))
    (fApp [.fz, .fz, .fz, .fz, .ol, .fz, .fz, .fz, .fz] 4 (eTup (aC (eB bMin2 (aC (eV 7) (aC (eV 8) aN))) (aC (eB bMax2 (aC (eV 7) (aC (eV 8) aN))) aN))))
    fNx))))
def d_l_arrows_2 : Env → Fl := (fSeq (fAsgO [.fz, .fz, .fz, .fz, .fz, .fz, .fz, .fz, .fz] 4 (oLst aN))
    (fSeq (fFor [.fz, .fz, .fz, .fz, .ol, .fz, .fz, .fz, .fz] [5] gN (iRg1 (aC (eV 2) aN))
    b1_l_arrows_2)
    (fRetV 4)))
def f_l_arrows_2 : List D → Out (List D) := runL 9 4 d_l_arrows_2
def c1_l_graph_3 : Env → Out Bool := (tB1 (eOp (oIn true) (eTup (aC (eV 24) (aC (eOp oAdd (eV 24) (eC (.int 1))) aN))) (eV 7)))
def e1_l_graph_3 : Env → Out D := (eTup (aC (eV 24) (aC (eOp oAdd (eV 24) (eC (.int 1))) aN)))
def c2_l_graph_3 : Env → Out Bool := (tB1 (eOp oNe (eV 25) (eTup (aC (eV 19) (aC (eV 20) aN)))))
def b1_l_graph_3 : Env → Fl := (fSeq (fAsg [.fz, .fz, .fz, .fz, .fz, .fz, .fz, .fz, .fz, .fz, .fz, .fz, .fz, .fz, .fz, .fz, .fz, .fz, .fz, .fz, .fz, .fz, .fz, .fz, .fz, .fz] 19 (eM isLstD mIndex (eV 4) (eV 8)))
    (fSeq (fAsg [.fz, .fz, .fz, .fz, .fz, .fz, .fz, .fz, .fz, .fz, .fz, .fz, .fz, .fz, .fz, .fz, .fz, .fz, .fz, .fz, .fz, .fz, .fz, .fz, .fz, .fz] 20 (eOp oAdd (eOp oAdd (eV 19) (eC (.int 1))) (eM isLstD mIndex (eSl (eV 4) (pS (eOp oAdd (eV 19) (eC (.int 1)))) pN) (eV 8))))
    (fAsg [.fz, .fz, .fz, .fz, .fz, .fz, .fz, .fz, .fz, .fz, .fz, .fz, .fz, .fz, .fz, .fz, .fz, .fz, .fz, .fz, .fz, .fz, .fz, .fz, .fz, .fz] 7 (eOp oAdd (eL (oLc [25] [25] (eI (eV 7)) gN c2_l_graph_3 (eV 25))) (eL (oLst (aC (eTup (aC (eV 19) (aC (eV 20) aN))) aN)))))))
def b2_l_graph_3 : Env → Fl := (fSeq (fAppIn [.fz, .fz, .fz, .fz, .fz, .fz, .fz, .fz, .fz, .oll, .oll, .fz, .fz, .fz, .fz, .fz, .fz, .fz, .fz, .fz, .fz, .fz, .fz, .fz, .fz, .fz] 10 (eV 21) (eV 12))
    (fSeq (fAppIn [.fz, .fz, .fz, .fz, .fz, .fz, .fz, .fz, .fz, .oll, .oll, .fz, .fz, .fz, .fz, .fz, .fz, .fz, .fz, .fz, .fz, .fz, .fz, .fz, .fz, .fz] 9 (eV 22) (eV 12))
    (fSeq (fAppIn [.fz, .fz, .fz, .fz, .fz, .fz, .fz, .fz, .fz, .oll, .oll, .fz, .fz, .fz, .fz, .fz, .fz, .fz, .fz, .fz, .fz, .fz, .fz, .fz, .fz, .fz] 10 (eV 22) (eOp oAdd (eV 12) (eC (.int 1))))
    (fSeq (fAppIn [.fz, .fz, .fz, .fz, .fz, .fz, .fz, .fz, .fz, .oll, .oll, .fz, .fz, .fz, .fz, .fz, .fz, .fz, .fz, .fz, .fz, .fz, .fz, .fz, .fz, .fz] 9 (eV 21) (eOp oAdd (eV 12) (eC (.int 1))))
    (fSeq (fAsg [.fz, .fz, .fz, .fz, .fz, .fz, .fz, .fz, .fz, .oll, .oll, .fz, .fz, .fz, .fz, .fz, .fz, .fz, .fz, .fz, .fz, .fz, .fz, .fz, .fz, .fz] 11 (eOp oOr (eV 11) (eOp oShl (eC (.int 1)) (eOp oAdd (eV 12) (eC (.int 1))))))
    (fAsg [.fz, .fz, .fz, .fz, .fz, .fz, .fz, .fz, .fz, .oll, .oll, .fz, .fz, .fz, .fz, .fz, .fz, .fz, .fz, .fz, .fz, .fz, .fz, .fz, .fz, .fz] 12 (eOp oAdd (eV 12) (eC (.int 2)))))))))
def b3_l_graph_3 : Env → Fl := (fSeq (fApp [.fz, .fz, .fz, .fz, .fz, .fz, .fz, .fz, .fz, .fz, .fz, .fz, .fz, .fz, .fz, .ol, .fz, .fz, .fz, .fz, .fz, .fz, .fz, .fz, .fz, .fz] 15 (eTup (aC (eV 8) (aC (eOp oEq (eOp oAnd (eOp oShr (eV 14) (eV 8)) (eC (.int 1))) (eC (.int 0))) (aC (eB bTuple (aC (eL (oB bSortI (aC (eOp oIx (eV 9) (eV 23)) aN))) aN)) (aC (eB bTuple (aC (eL (oB bSortI (aC (eOp oIx (eV 10) (eV 23)) aN))) aN)) aN))))))
    (fAsg [.fz, .fz, .fz, .fz, .fz, .fz, .fz, .fz, .fz, .fz, .fz, .fz, .fz, .fz, .fz, .ol, .fz, .fz, .fz, .fz, .fz, .fz, .fz, .fz, .fz, .fz] 14 (eOp oXor (eV 14) (eOp oShl (eC (.int 1)) (eV 8)))))
def e2_l_graph_3 : Env → Out D := (eTup (aC (eCall f_l_word (aC (eV 17) (aC (eV 8) aN))) (aC (eOp oIx (eL (oLst (aC (eC (.str "given")) (aC (eC (.str "made")) aN)))) (eOp oMod (eOp oDiv (eCall f_l_mix_2 (aC (eV 0) (aC (eOp oAdd (eV 1) (eV 8)) aN))) (eC (.int 4096))) (eC (.int 2)))) aN)))
def d_l_graph_3 : Env → Fl := (fSeq (fAsg [.fz, .fz, .fz, .fz, .fz, .fz, .fz, .fz, .fz, .fz, .fz, .fz, .fz, .fz, .fz, .fz, .fz, .fz, .fz, .fz, .fz, .fz, .fz, .fz, .fz, .fz] 4 (eL (oCall f_l_order (aC (eV 0) (aC (eV 1) (aC (eV 2) aN))))))
    (fSeq (fAsg [.fz, .fz, .fz, .fz, .fz, .fz, .fz, .fz, .fz, .fz, .fz, .fz, .fz, .fz, .fz, .fz, .fz, .fz, .fz, .fz, .fz, .fz, .fz, .fz, .fz, .fz] 5 (eOp oMul (eC (.int 2)) (eV 2)))
    (fSeq (fAsg [.fz, .fz, .fz, .fz, .fz, .fz, .fz, .fz, .fz, .fz, .fz, .fz, .fz, .fz, .fz, .fz, .fz, .fz, .fz, .fz, .fz, .fz, .fz, .fz, .fz, .fz] 6 (eCall f_l_mix_2 (aC (eV 0) (aC (eOp oAdd (eV 1) (eV 2)) aN))))
    (fSeq (fAsg [.fz, .fz, .fz, .fz, .fz, .fz, .fz, .fz, .fz, .fz, .fz, .fz, .fz, .fz, .fz, .fz, .fz, .fz, .fz, .fz, .fz, .fz, .fz, .fz, .fz, .fz] 7 (eL (oCall f_l_arrows_2 (aC (eV 0) (aC (eOp oAdd (eOp oAdd (eV 1) (eV 2)) (eC (.int 1))) (aC (eV 3) (aC (eV 5) aN)))))))
    (fSeq (fIf (tB1 (eOp oEq (eOp oMod (eV 6) (eC (.int 3))) (eC (.int 0))))
    (fAsg [.fz, .fz, .fz, .fz, .fz, .fz, .fz, .fz, .fz, .fz, .fz, .fz, .fz, .fz, .fz, .fz, .fz, .fz, .fz, .fz, .fz, .fz, .fz, .fz, .fz, .fz] 7 (eOp oAdd (eV 7) (eL (oLc [24] [24] (iRg1 (aC (eOp oSub (eV 5) (eC (.int 1))) aN)) gN c1_l_graph_3 e1_l_graph_3))))
    fNx)
    (fSeq (fFor [.fz, .fz, .fz, .fz, .fz, .fz, .fz, .fz, .fz, .fz, .fz, .fz, .fz, .fz, .fz, .fz, .fz, .fz, .fz, .fz, .fz, .fz, .fz, .fz, .fz, .fz] [8] gN (iRg1 (aC (eV 2) aN))
    b1_l_graph_3)
    (fSeq (fNest [.fz, .fz, .fz, .fz, .fz, .fz, .fz, .fz, .fz, .fz, .fz, .fz, .fz, .fz, .fz, .fz, .fz, .fz, .fz, .fz, .fz, .fz, .fz, .fz, .fz, .fz] 9 (eI (eV 4)))
    (fSeq (fNest [.fz, .fz, .fz, .fz, .fz, .fz, .fz, .fz, .fz, .oll, .fz, .fz, .fz, .fz, .fz, .fz, .fz, .fz, .fz, .fz, .fz, .fz, .fz, .fz, .fz, .fz] 10 (eI (eV 4)))
    (fSeq (fAsg [.fz, .fz, .fz, .fz, .fz, .fz, .fz, .fz, .fz, .oll, .oll, .fz, .fz, .fz, .fz, .fz, .fz, .fz, .fz, .fz, .fz, .fz, .fz, .fz, .fz, .fz] 11 (eC (.int 0)))
    (fSeq (fAsg [.fz, .fz, .fz, .fz, .fz, .fz, .fz, .fz, .fz, .oll, .oll, .fz, .fz, .fz, .fz, .fz, .fz, .fz, .fz, .fz, .fz, .fz, .fz, .fz, .fz, .fz] 12 (eOp oMod (eOp oDiv (eV 6) (eC (.int 3))) (eC (.int 20))))
    (fSeq (fFor [.fz, .fz, .fz, .fz, .fz, .fz, .fz, .fz, .fz, .oll, .oll, .fz, .fz, .fz, .fz, .fz, .fz, .fz, .fz, .fz, .fz, .fz, .fz, .fz, .fz, .fz] [21, 22] (gT 2) (eI (eV 7))
    b2_l_graph_3)
    (fSeq (fAsg [.fz, .fz, .fz, .fz, .fz, .fz, .fz, .fz, .fz, .fz, .fz, .fz, .fz, .fz, .fz, .fz, .fz, .fz, .fz, .fz, .fz, .fz, .fz, .fz, .fz, .fz] 13 (eOp oMod (eOp oDiv (eV 6) (eC (.int 60))) (eOp oShl (eC (.int 1)) (eV 2))))
    (fSeq (fAsg [.fz, .fz, .fz, .fz, .fz, .fz, .fz, .fz, .fz, .fz, .fz, .fz, .fz, .fz, .fz, .fz, .fz, .fz, .fz, .fz, .fz, .fz, .fz, .fz, .fz, .fz] 14 (eV 13))
    (fSeq (fAsgO [.fz, .fz, .fz, .fz, .fz, .fz, .fz, .fz, .fz, .fz, .fz, .fz, .fz, .fz, .fz, .fz, .fz, .fz, .fz, .fz, .fz, .fz, .fz, .fz, .fz, .fz] 15 (oLst aN))
    (fSeq (fFor [.fz, .fz, .fz, .fz, .fz, .fz, .fz, .fz, .fz, .fz, .fz, .fz, .fz, .fz, .fz, .ol, .fz, .fz, .fz, .fz, .fz, .fz, .fz, .fz, .fz, .fz] [23, 8] (gT 2) (iEn (aC (eV 4) aN))
    b3_l_graph_3)
    (fSeq (fAsg [.fz, .fz, .fz, .fz, .fz, .fz, .fz, .fz, .fz, .fz, .fz, .fz, .fz, .fz, .fz, .fz, .fz, .fz, .fz, .fz, .fz, .fz, .fz, .fz, .fz, .fz] 16 (eOp oMod (eOp oDiv (eV 6) (eC (.int 2000))) (eV 5)))
    (fSeq (fAsg [.fz, .fz, .fz, .fz, .fz, .fz, .fz, .fz, .fz, .fz, .fz, .fz, .fz, .fz, .fz, .fz, .fz, .fz, .fz, .fz, .fz, .fz, .fz, .fz, .fz, .fz] 15 (eOp oAdd (eSl (eV 15) (pS (eV 16)) pN) (eSl (eV 15) pN (pS (eV 16)))))
    (fSeq (fAsg [.fz, .fz, .fz, .fz, .fz, .fz, .fz, .fz, .fz, .fz, .fz, .fz, .fz, .fz, .fz, .fz, .fz, .fz, .fz, .fz, .fz, .fz, .fz, .fz, .fz, .fz] 17 (eOp oDiv (eV 6) (eC (.int 40000))))
    (fSeq (fAsg [.fz, .fz, .fz, .fz, .fz, .fz, .fz, .fz, .fz, .fz, .fz, .fz, .fz, .fz, .fz, .fz, .fz, .fz, .fz, .fz, .fz, .fz, .fz, .fz, .fz, .fz] 18 (eL (oLc [8] [8] (iRg1 (aC (eV 2) aN)) gN cYes e2_l_graph_3)))
    (fRet (eTup (aC (eB bTuple (aC (eV 18) aN)) (aC (eB bTuple (aC (eV 15) aN)) (aC (eV 11) (aC (eV 13) aN)))))))))))))))))))))))))
def f_l_graph_3 : List D → Out D := runF 26 4 d_l_graph_3
def b1_wants : Env → Fl := (fIf (tAnd' (tB1 (eOp oEq (eOp oIx (eV 5) (eC (.int 0))) (eV 2))) (tTru (eCall f_can (aC (eV 0) (aC (eV 1) (aC (eV 4) aN))))))
    (fSeq (fIf (tTru (eOp oIx (eV 5) (eC (.int 1))))
    (fRet (eC (.int 1)))
    fNx)
    (fAsg [] 3 (eUn oNeg (eC (.int 1)))))
    fNx)
def d_wants : Env → Fl := (fSeq (fAsg [] 3 (eC (.int 0)))
    (fSeq (fFor [] [4, 5] (gT 2) (iEn (aC (eOp oIx (eV 0) (eC (.int 1))) aN))
    b1_wants)
    (fRet (eV 3))))
def f_wants : List D → Out D := runF 6 3 d_wants
def b1_by_codes : Env → Fl := (fSetdApp [.fz, .odl, .fz, .fz] 1 2 (eOp oIx (eV 3) (eC (.int 1))))
def d_by_codes : Env → Fl := (fSeq (fDLNew 1)
    (fSeq (fFor [.fz, .odl, .fz, .fz] [2, 3] (gT 2) (iEn (aC (eV 0) aN))
    b1_by_codes)
    (fRet (eV 1))))
def f_by_codes : List D → Out D := runF 4 1 d_by_codes
def e1_unlike : Env → Out D := (eCall f_wants (aC (eV 0) (aC (eSl (eOp oIx (eV 1) (eV 8)) pN (pS (eC (.int 2)))) (aC (eV 4) aN))))
def b1_unlike : Env → Fl := (fIf (tB1 (eOp oNe (eOp oIx (eV 5) (eV 7)) (eOp oIx (eV 5) (eV 6))))
    (fApp [.fz, .fz, .fz, .ol, .fz, .fz, .fz, .fz, .fz] 3 (eTup (aC (eOp oIx (eV 2) (eV 7)) (aC (eOp oIx (eV 2) (eV 6)) (aC (eV 4) aN)))))
    fNx)
def b2_unlike : Env → Fl := (fFor [.fz, .fz, .fz, .ol, .fz, .fz, .fz, .fz, .fz] [7] gN (iRg1 (aC (eV 6) aN))
    b1_unlike)
def b3_unlike : Env → Fl := (fSeq (fAsg [.fz, .fz, .fz, .ol, .fz, .fz, .fz, .fz, .fz] 5 (eL (oLc [8] [8] (eI (eV 2)) gN cYes e1_unlike)))
    (fFor [.fz, .fz, .fz, .ol, .fz, .fz, .fz, .fz, .fz] [6] gN (iRg1 (aC (eB bLen (aC (eV 2) aN)) aN))
    b2_unlike))
def d_unlike : Env → Fl := (fSeq (fAsgO [.fz, .fz, .fz, .fz, .fz, .fz, .fz, .fz, .fz] 3 (oLst aN))
    (fSeq (fFor [.fz, .fz, .fz, .ol, .fz, .fz, .fz, .fz, .fz] [4] gN (eI (eL (oCall f_made (aC (eV 0) aN))))
    b3_unlike)
    (fRetV 3)))
def f_unlike : List D → Out (List D) := runL 9 3 d_unlike
def b1_among : Env → Fl := (fIf (tB1 (eOp oGt (eB bLen (aC (eOp oDIx (eV 3) (eV 4)) aN)) (eC (.int 1))))
    (fExt [.fz, .fz, .ol, .fz, .fz] 2 (oCall f_unlike (aC (eV 0) (aC (eV 1) (aC (eOp oDIx (eV 3) (eV 4)) aN)))))
    fNx)
def d_among : Env → Fl := (fSeq (fAsgO [.fz, .fz, .fz, .fz, .fz] 2 (oLst aN))
    (fSeq (fAsg [.fz, .fz, .ol, .fz, .fz] 3 (eCall f_by_codes (aC (eV 1) aN)))
    (fSeq (fForK 3 [4] gN
    b1_among)
    (fRetO (oB bSort3 (aC (eV 2) aN))))))
def f_among : List D → Out (List D) := runL 5 2 d_among
def e1_l_wider : Env → Out D := (eTup (aC (eOp oAdd (eV 11) (eB bInt (aC (eOp oGe (eV 11) (eV 1)) aN))) (aC (eV 12) (aC (eV 13) (aC (eV 14) aN)))))
def d_l_wider : Env → Fl := (fSeq (fAsgT [] [8, 9, 10, 6] (gT 4) (eV 0))
    (fSeq (fAsg [] 5 (eOp oAnd (eV 6) (eOp oSub (eOp oShl (eC (.int 1)) (eV 1)) (eC (.int 1)))))
    (fSeq (fAsg [] 6 (eOp oOr (eOp oOr (eV 5) (eOp oShl (eB bInt (aC (eV 3) aN)) (eV 1))) (eOp oShl (eOp oShr (eV 6) (eV 1)) (eOp oAdd (eV 1) (eC (.int 1))))))
    (fSeq (fAsg [] 7 (eL (oLc [11, 12, 13, 14] [11, 12, 13, 14] (eI (eV 9)) (gT 4) cYes e1_l_wider)))
    (fRet (eTup (aC (eOp oAdd (eOp oAdd (eSl (eV 8) pN (pS (eV 1))) (eTup (aC (eTup (aC (eV 4) (aC (eV 2) aN))) aN))) (eSl (eV 8) (pS (eV 1)) pN)) (aC (eB bTuple (aC (eV 7) aN)) (aC (eV 10) (aC (eV 6) aN))))))))))
def f_l_wider : List D → Out D := runF 15 5 d_l_wider
def d_fits : Env → Fl := (fRet (eOp oEq (eOp oAnd (eV 1) (eOp oIx (eV 0) (eC (.int 0)))) (eOp oIx (eV 0) (eC (.int 1)))))
def f_fits : List D → Out D := runF 2 2 d_fits
def b1_is_up : Env → Fl := (fIf (tTru (eCall f_fits (aC (eV 2) (aC (eV 1) aN))))
    (fRet (eC (.bl true)))
    fNx)
def d_is_up : Env → Fl := (fSeq (fFor [] [2] gN (eI (eV 0))
    b1_is_up)
    (fRet (eC (.bl false))))
def f_is_up : List D → Out D := runF 3 2 d_is_up
def c1_l_can_3 : Env → Out Bool := (tB1 (eOp oEq (eOp oAnd (eOp oShr (eOp oIx (eV 1) (eC (.int 0))) (eV 4)) (eC (.int 1))) (eC (.int 1))))
def d_l_can_3 : Env → Fl := (fSeq (fAsg [] 3 (eOp oIx (eOp oIx (eOp oIx (eV 0) (eC (.int 1))) (eV 2)) (eC (.int 2))))
    (fRet (eOp oEq (eB bLen (aC (eL (oLc [4] [4] (eI (eV 3)) gN c1_l_can_3 (eV 4))) aN)) (eB bLen (aC (eV 3) aN)))))
def f_l_can_3 : List D → Out D := runF 5 3 d_l_can_3
def b1_l_behind_2 : Env → Fl := (fAsg [] 3 (eOp oXor (eV 3) (eOp oShl (eC (.int 1)) (eV 4))))
def b2_l_behind_2 : Env → Fl := (fAsg [] 3 (eOp oOr (eV 3) (eOp oShl (eC (.int 1)) (eV 4))))
def d_l_behind_2 : Env → Fl := (fSeq (fAsgT [] [5, 6, 7, 8] (gT 4) (eOp oIx (eOp oIx (eV 0) (eC (.int 1))) (eV 2)))
    (fSeq (fAsg [] 3 (eOp oIx (eV 1) (eC (.int 0))))
    (fSeq (fFor [] [4] gN (eI (eV 7))
    b1_l_behind_2)
    (fSeq (fFor [] [4] gN (eI (eV 8))
    b2_l_behind_2)
    (fRet (eTup (aC (eV 3) (aC (eOp oXor (eOp oIx (eV 1) (eC (.int 1))) (eOp oShl (eC (.int 1)) (eV 5))) aN))))))))
def f_l_behind_2 : List D → Out D := runF 9 3 d_l_behind_2
def t1_l_stands : Env → Out Bool := (tB1 (eOp oLt (eV 3) (eB bLen (aC (eV 1) aN))))
def b1_l_stands : Env → Fl := (fIf (tTru (eCall f_l_can_3 (aC (eV 0) (aC (eOp oIx (eV 1) (eV 3)) (aC (eV 4) aN)))))
    (fSeq (fAsgB 5 (eCall f_l_behind_2 (aC (eV 0) (aC (eOp oIx (eV 1) (eV 3)) (aC (eV 4) aN)))))
    (fIf (tB1 (eOp (oDIn true) (eV 5) (eV 2)))
    (fSeq (fDPut 2 (eV 5) (eC (.bl true)))
    (fApp [.fz, .ol, .od, .fz, .fz, .fz] 1 (eV 5)))
    fNx))
    fNx)
def b2_l_stands : Env → Fl := (fSeq (fFor [.fz, .ol, .od, .fz, .fz, .fz] [4] gN (iRg1 (aC (eB bLen (aC (eOp oIx (eV 0) (eC (.int 1))) aN)) aN))
    b1_l_stands)
    (fAsg [.fz, .ol, .od, .fz, .fz, .fz] 3 (eOp oAdd (eV 3) (eC (.int 1)))))
def d_l_stands : Env → Fl := (fSeq (fAsgO [.fz, .fz, .fz, .fz, .fz, .fz] 1 (oLst (aC (eTup (aC (eOp oIx (eV 0) (eC (.int 2))) (aC (eOp oIx (eV 0) (eC (.int 3))) aN))) aN)))
    (fSeq (fDNewB 2 (eOp oIx (eV 1) (eC (.int 0))) (eC (.bl true)))
    (fSeq (fAsg [.fz, .ol, .od, .fz, .fz, .fz] 3 (eC (.int 0)))
    (fSeq (wh t1_l_stands
    b2_l_stands)
    (fRetV 1)))))
def f_l_stands : List D → Out (List D) := runL 6 1 d_l_stands
def b1_l_want : Env → Fl := (fIf (tAnd' (tB1 (eOp oEq (eOp oIx (eOp oIx (eOp oIx (eV 0) (eC (.int 1))) (eV 3)) (eC (.int 0))) (eV 2))) (tTru (eCall f_l_can_3 (aC (eV 0) (aC (eV 1) (aC (eV 3) aN))))))
    (fRet (eOp oIx (eL (oLst (aC (eUn oNeg (eC (.int 1))) (aC (eC (.int 1)) aN)))) (eB bInt (aC (eOp oIx (eOp oIx (eOp oIx (eV 0) (eC (.int 1))) (eV 3)) (eC (.int 1))) aN))))
    fNx)
def d_l_want : Env → Fl := (fSeq (fFor [] [3] gN (iRg1 (aC (eB bLen (aC (eOp oIx (eV 0) (eC (.int 1))) aN)) aN))
    b1_l_want)
    (fRet (eC (.int 0))))
def f_l_want : List D → Out D := runF 4 3 d_l_want
def e1_l_choice_3 : Env → Out D := (eTup (aC (eCall f_l_word (aC (eOp oDiv (eV 2) (eC (.int 8))) (aC (eV 9) aN))) (aC (eC (.str "given")) aN)))
def e2_l_choice_3 : Env → Out D := (eTup (aC (eCall f_l_word (aC (eOp oDiv (eV 2) (eC (.int 8))) (aC (eOp oAdd (eV 5) (eV 9)) aN))) (aC (eC (.str "made")) aN)))
def e3_l_choice_3 : Env → Out D := (eOp oAdd (eV 5) (eOp oMod (eOp oAdd (eV 10) (eV 18)) (eV 4)))
def e4_l_choice_3 : Env → Out D := (eOp oAdd (eV 5) (eOp oMod (eOp oAdd (eOp oDiv (eV 10) (eC (.int 2))) (eV 18)) (eV 4)))
def e5_l_choice_3 : Env → Out D := (eTup (aC (eV 19) (aC (eC (.bl true)) aN)))
def e6_l_choice_3 : Env → Out D := (eTup (aC (eV 19) (aC (eC (.bl false)) aN)))
def b1_l_choice_3 : Env → Fl := (fSeq (fAsg [.fz, .fz, .fz, .fz, .fz, .fz, .fz, .ol, .fz, .fz, .fz, .fz, .fz, .fz, .fz, .fz, .fz, .fz, .fz, .fz] 17 (eV 8))
    (fSeq (fIf (tB1 (eOp oEq (eV 15) (eB bLen (aC (eV 13) aN))))
    (fAsg [.fz, .fz, .fz, .fz, .fz, .fz, .fz, .ol, .fz, .fz, .fz, .fz, .fz, .fz, .fz, .fz, .fz, .fz, .fz, .fz] 17 (eC (.int 0)))
    fNx)
    (fSeq (fApp [.fz, .fz, .fz, .fz, .fz, .fz, .fz, .ol, .fz, .fz, .fz, .fz, .fz, .fz, .fz, .fz, .fz, .fz, .fz, .fz] 7 (eTup (aC (eOp oIx (eV 16) (eC (.int 0))) (aC (eOp oIx (eV 16) (eC (.int 1))) (aC (eTup (aC (eV 14) aN)) (aC (eTup (aC (eV 17) aN)) aN))))))
    (fSeq (fAsg [.fz, .fz, .fz, .fz, .fz, .fz, .fz, .ol, .fz, .fz, .fz, .fz, .fz, .fz, .fz, .fz, .fz, .fz, .fz, .fz] 14 (eV 17))
    (fAsg [.fz, .fz, .fz, .fz, .fz, .fz, .fz, .ol, .fz, .fz, .fz, .fz, .fz, .fz, .fz, .fz, .fz, .fz, .fz, .fz] 8 (eOp oAdd (eV 8) (eC (.int 1))))))))
def b2_l_choice_3 : Env → Fl := (fSeq (fAsg [.fz, .fz, .fz, .fz, .fz, .fz, .fz, .ol, .fz, .fz, .fz, .fz, .fz, .fz, .fz, .fz, .fz, .fz, .fz, .fz] 10 (eCall f_l_mix_2 (aC (eV 0) (aC (eOp oAdd (eOp oAdd (eV 1) (eC (.int 1))) (eV 9)) aN))))
    (fSeq (fAsg [.fz, .fz, .fz, .fz, .fz, .fz, .fz, .ol, .fz, .fz, .fz, .fz, .fz, .fz, .fz, .fz, .fz, .fz, .fz, .fz] 11 (eL (oLc [18] [18] (iRg1 (aC (eV 4) aN)) gN cYes e3_l_choice_3)))
    (fSeq (fAsg [.fz, .fz, .fz, .fz, .fz, .fz, .fz, .ol, .fz, .fz, .fz, .fz, .fz, .fz, .fz, .fz, .fz, .fz, .fz, .fz] 12 (eL (oLc [18] [18] (iRg1 (aC (eV 4) aN)) gN cYes e4_l_choice_3)))
    (fSeq (fAsgO [.fz, .fz, .fz, .fz, .fz, .fz, .fz, .ol, .fz, .fz, .fz, .fz, .fz, .fz, .fz, .fz, .fz, .fz, .fz, .fz] 13 (oOp oCat (eL (oLc [19] [19] (eI (eV 11)) gN cYes e5_l_choice_3)) (eL (oLc [19] [19] (eI (eV 12)) gN cYes e6_l_choice_3))))
    (fSeq (fInsB 13 (eOp oMod (eOp oDiv (eV 10) (eC (.int 4))) (eOp oAdd (eB bLen (aC (eV 13) aN)) (eC (.int 1)))) (eTup (aC (eOp oMod (eV 9) (eV 5)) (aC (eC (.bl false)) aN))))
    (fSeq (fAsg [.fz, .fz, .fz, .fz, .fz, .fz, .fz, .ol, .fz, .fz, .fz, .fz, .fz, .fz, .fz, .fz, .fz, .fz, .fz, .fz] 14 (eC (.int 0)))
    (fFor [.fz, .fz, .fz, .fz, .fz, .fz, .fz, .ol, .fz, .fz, .fz, .fz, .fz, .fz, .fz, .fz, .fz, .fz, .fz, .fz] [15, 16] (gT 2) (iEn (aC (eOp oAdd (eL (oLst (aC (eTup (aC (eOp oMod (eV 9) (eV 5)) (aC (eC (.bl true)) aN))) aN))) (eV 13)) aN))
    b1_l_choice_3)))))))
def d_l_choice_3 : Env → Fl := (fSeq (fAsg [.fz, .fz, .fz, .fz, .fz, .fz, .fz, .fz, .fz, .fz, .fz, .fz, .fz, .fz, .fz, .fz, .fz, .fz, .fz, .fz] 2 (eCall f_l_mix_2 (aC (eV 0) (aC (eV 1) aN))))
    (fSeq (fAsg [.fz, .fz, .fz, .fz, .fz, .fz, .fz, .fz, .fz, .fz, .fz, .fz, .fz, .fz, .fz, .fz, .fz, .fz, .fz, .fz] 3 (eOp oAdd (eC (.int 2)) (eOp oMod (eV 2) (eC (.int 2)))))
    (fSeq (fAsg [.fz, .fz, .fz, .fz, .fz, .fz, .fz, .fz, .fz, .fz, .fz, .fz, .fz, .fz, .fz, .fz, .fz, .fz, .fz, .fz] 4 (eOp oAdd (eC (.int 1)) (eOp oMod (eOp oDiv (eV 2) (eC (.int 2))) (eC (.int 2)))))
    (fSeq (fAsg [.fz, .fz, .fz, .fz, .fz, .fz, .fz, .fz, .fz, .fz, .fz, .fz, .fz, .fz, .fz, .fz, .fz, .fz, .fz, .fz] 5 (eOp oIx (eL (oLst (aC (eV 3) (aC (eC (.int 1)) aN)))) (eOp oMod (eOp oDiv (eV 2) (eC (.int 4))) (eC (.int 2)))))
    (fSeq (fAsg [.fz, .fz, .fz, .fz, .fz, .fz, .fz, .fz, .fz, .fz, .fz, .fz, .fz, .fz, .fz, .fz, .fz, .fz, .fz, .fz] 6 (eL (oLc [9] [9] (iRg1 (aC (eV 5) aN)) gN cYes e1_l_choice_3)))
    (fSeq (fAsg [.fz, .fz, .fz, .fz, .fz, .fz, .fz, .fz, .fz, .fz, .fz, .fz, .fz, .fz, .fz, .fz, .fz, .fz, .fz, .fz] 6 (eOp oAdd (eV 6) (eL (oLc [9] [9] (iRg1 (aC (eV 4) aN)) gN cYes e2_l_choice_3))))
    (fSeq (fAsgO [.fz, .fz, .fz, .fz, .fz, .fz, .fz, .fz, .fz, .fz, .fz, .fz, .fz, .fz, .fz, .fz, .fz, .fz, .fz, .fz] 7 (oLst aN))
    (fSeq (fAsg [.fz, .fz, .fz, .fz, .fz, .fz, .fz, .ol, .fz, .fz, .fz, .fz, .fz, .fz, .fz, .fz, .fz, .fz, .fz, .fz] 8 (eC (.int 1)))
    (fSeq (fFor [.fz, .fz, .fz, .fz, .fz, .fz, .fz, .ol, .fz, .fz, .fz, .fz, .fz, .fz, .fz, .fz, .fz, .fz, .fz, .fz] [9] gN (iRg1 (aC (eV 3) aN))
    b2_l_choice_3)
    (fRet (eTup (aC (eB bTuple (aC (eV 6) aN)) (aC (eB bTuple (aC (eV 7) aN)) (aC (eC (.int 1)) (aC (eC (.int 0)) aN)))))))))))))))
def f_l_choice_3 : List D → Out D := runF 20 2 d_l_choice_3
def b1_l_lookers_4 : Env → Fl := (fAsg [.fz, .fz, .fz, .fz, .fz, .fz, .fz, .fz, .fz, .fz, .fz, .fz] 2 (eOp oOr (eV 2) (eOp oShl (eC (.int 1)) (eV 3))))
def b2_l_lookers_4 : Env → Fl := (fFor [.fz, .fz, .fz, .fz, .fz, .fz, .fz, .fz, .fz, .fz, .fz, .fz] [3] gN (eI (eOp oAdd (eV 7) (eV 8)))
    b1_l_lookers_4)
def c1_l_lookers_4 : Env → Out Bool := (tB1 (eOp oEq (eOp oAnd (eOp oShr (eV 2) (eV 11)) (eC (.int 1))) (eC (.int 0))))
def b3_l_lookers_4 : Env → Fl := (fSeq (fAsgT [.fz, .fz, .fz, .fz, .ol, .fz, .fz, .fz, .fz, .fz, .fz, .fz] [5, 6, 7, 8] (gT 4) (eV 10))
    (fSeq (fIf (tB1 (eOp oEq (eOp oAnd (eOp oShr (eOp oDiv (eV 1) (eC (.int 3))) (eV 9)) (eC (.int 1))) (eC (.int 1))))
    (fSeq (fAsg [.fz, .fz, .fz, .fz, .ol, .fz, .fz, .fz, .fz, .fz, .fz, .fz] 7 (eB bTuple (aC (eL (oB bSortT (aC (eOp oAdd (eV 7) (eTup (aC (eV 3) aN))) aN))) aN)))
    (fAsg [.fz, .fz, .fz, .fz, .ol, .fz, .fz, .fz, .fz, .fz, .fz, .fz] 8 (eB bTuple (aC (eL (oB bSortT (aC (eOp oAdd (eV 8) (eTup (aC (eV 3) aN))) aN))) aN))))
    fNx)
    (fApp [.fz, .fz, .fz, .fz, .ol, .fz, .fz, .fz, .fz, .fz, .fz, .fz] 4 (eTup (aC (eV 5) (aC (eV 6) (aC (eV 7) (aC (eV 8) aN))))))))
def d_l_lookers_4 : Env → Fl := (fSeq (fAsg [.fz, .fz, .fz, .fz, .fz, .fz, .fz, .fz, .fz, .fz, .fz, .fz] 2 (eOp oIx (eV 0) (eC (.int 2))))
    (fSeq (fFor [.fz, .fz, .fz, .fz, .fz, .fz, .fz, .fz, .fz, .fz, .fz, .fz] [5, 6, 7, 8] (gT 4) (eI (eOp oIx (eV 0) (eC (.int 1))))
    b2_l_lookers_4)
    (fSeq (fAsg [.fz, .fz, .fz, .fz, .fz, .fz, .fz, .fz, .fz, .fz, .fz, .fz] 3 (eOp oIx (eL (oLc [11] [11] (iRg1 (aC (eC (.int 64)) aN)) gN c1_l_lookers_4 (eV 11))) (eOp oMod (eV 1) (eC (.int 3)))))
    (fSeq (fAsgO [.fz, .fz, .fz, .fz, .fz, .fz, .fz, .fz, .fz, .fz, .fz, .fz] 4 (oLst aN))
    (fSeq (fFor [.fz, .fz, .fz, .fz, .ol, .fz, .fz, .fz, .fz, .fz, .fz, .fz] [9, 10] (gT 2) (iEn (aC (eOp oIx (eV 0) (eC (.int 1))) aN))
    b3_l_lookers_4)
    (fRet (eTup (aC (eOp oIx (eV 0) (eC (.int 0))) (aC (eB bTuple (aC (eV 4) aN)) (aC (eOp oOr (eOp oIx (eV 0) (eC (.int 2))) (eOp oShl (eC (.int 1)) (eV 3))) (aC (eOp oIx (eV 0) (eC (.int 3))) aN)))))))))))
def f_l_lookers_4 : List D → Out D := runF 12 2 d_l_lookers_4
def i1_l_any_graph_2 : Env → Fl := (fIf (tB1 (eOp oEq (eOp oMod (eV 5) (eC (.int 4))) (eC (.int 0))))
    (fSeq (fAsg [] 9 (eOp oMod (eOp oDiv (eV 5) (eC (.int 4))) (eB bLen (aC (eOp oIx (eV 8) (eC (.int 1))) aN))))
    (fAsg [] 8 (eTup (aC (eOp oIx (eV 8) (eC (.int 0))) (aC (eOp oAdd (eSl (eOp oIx (eV 8) (eC (.int 1))) pN (pS (eV 9))) (eSl (eOp oIx (eV 8) (eC (.int 1))) (pS (eOp oAdd (eV 9) (eC (.int 1)))) pN)) (aC (eOp oIx (eV 8) (eC (.int 2))) (aC (eOp oIx (eV 8) (eC (.int 3))) aN)))))))
    fNx)
def b1_l_any_graph_2 : Env → Fl := (fSeq (fAsg [] 10 (eOp oMod (eOp oAdd (eOp oDiv (eV 5) (eC (.int 800))) (eOp oMul (eC (.int 7)) (eV 7))) (eOp oAdd (eB bLen (aC (eOp oIx (eV 8) (eC (.int 0))) aN)) (eC (.int 1)))))
    (fSeq (fAsg [] 11 (eOp oIx (eL (oLst (aC (eC (.str "given")) (aC (eC (.str "made")) aN)))) (eOp oMod (eOp oAdd (eOp oDiv (eV 5) (eC (.int 10000))) (eV 7)) (eC (.int 2)))))
    (fAsg [] 8 (eCall f_l_wider (aC (eV 8) (aC (eV 10) (aC (eV 11) (aC (eOp oEq (eOp oMod (eOp oAdd (eOp oDiv (eV 5) (eC (.int 20000))) (eOp oDiv (eV 7) (eC (.int 2)))) (eC (.int 2))) (eC (.int 1))) (aC (eOp oIx (eC (.str "abcdefghij")) (eV 7)) aN)))))))))
def d_l_any_graph_2 : Env → Fl := (fSeq (fAsg [] 4 (eCall f_l_mix_2 (aC (eV 0) (aC (eV 1) aN))))
    (fSeq (fIf (tB1 (eOp oEq (eOp oMod (eV 4) (eC (.int 3))) (eC (.int 0))))
    (fAsg [] 8 (eCall f_l_choice_3 (aC (eV 0) (aC (eOp oAdd (eV 1) (eC (.int 1))) aN))))
    (fAsg [] 8 (eCall f_l_graph_3 (aC (eV 0) (aC (eOp oAdd (eV 1) (eC (.int 1))) (aC (eOp oAdd (eC (.int 1)) (eOp oMod (eOp oDiv (eV 4) (eC (.int 3))) (eV 2))) (aC (eOp oMod (eOp oDiv (eV 4) (eC (.int 30))) (eOp oAdd (eV 3) (eC (.int 1)))) aN)))))))
    (fSeq (fAsg [] 5 (eOp oDiv (eV 4) (eC (.int 1000))))
    (fSeq i1_l_any_graph_2
    (fSeq (fAsg [] 6 (eOp oIx (eL (oLst (aC (eC (.int 0)) (aC (eC (.int 0)) (aC (eC (.int 0)) (aC (eC (.int 0)) (aC (eC (.int 1)) (aC (eC (.int 1)) (aC (eC (.int 2)) (aC (eOp oSub (eC (.int 10)) (eB bLen (aC (eOp oIx (eV 8) (eC (.int 0))) aN))) aN)))))))))) (eOp oMod (eOp oDiv (eV 5) (eC (.int 100))) (eC (.int 8)))))
    (fSeq (fFor [] [7] gN (iRg1 (aC (eV 6) aN))
    b1_l_any_graph_2)
    (fSeq (fIf (tB1 (eOp oEq (eOp oMod (eOp oDiv (eV 5) (eC (.int 30))) (eC (.int 3))) (eC (.int 0))))
    (fAsg [] 8 (eCall f_l_lookers_4 (aC (eV 8) (aC (eOp oDiv (eV 4) (eC (.int 17))) aN))))
    fNx)
    (fRet (eV 8)))))))))
def f_l_any_graph_2 : List D → Out D := runF 12 4 d_l_any_graph_2
def c1_l_is_up : Env → Out Bool := (tB1 (eOp oEq (eOp oAnd (eV 1) (eOp oIx (eV 2) (eC (.int 0)))) (eOp oIx (eV 2) (eC (.int 1)))))
def d_l_is_up : Env → Fl := (fRet (eOp oGt (eB bLen (aC (eL (oLc [2] [2] (eI (eV 0)) gN c1_l_is_up (eV 2))) aN)) (eC (.int 0))))
def f_l_is_up : List D → Out D := runF 3 2 d_l_is_up
def b1_gates_of : Env → Fl := (fApp [.fz, .ol, .fz, .fz, .fz, .fz] 1 (eTup (aC (eV 2) (aC (eC (.bl true)) (aC (eV 5) aN)))))
def b2_gates_of : Env → Fl := (fApp [.fz, .ol, .fz, .fz, .fz, .fz] 1 (eTup (aC (eV 2) (aC (eC (.bl false)) (aC (eV 5) aN)))))
def b3_gates_of : Env → Fl := (fSeq (fFor [.fz, .ol, .fz, .fz, .fz, .fz] [5] gN (eI (eV 3))
    b1_gates_of)
    (fFor [.fz, .ol, .fz, .fz, .fz, .fz] [5] gN (eI (eV 4))
    b2_gates_of))
def d_gates_of : Env → Fl := (fSeq (fAsgO [.fz, .fz, .fz, .fz, .fz, .fz] 1 (oLst aN))
    (fSeq (fFor [.fz, .ol, .fz, .fz, .fz, .fz] [2, 3, 4] (gT 3) (eI (eV 0))
    b3_gates_of)
    (fRetV 1)))
def f_gates_of : List D → Out (List D) := runL 6 1 d_gates_of
def b1_wire_called : Env → Fl := (fIf (tAnd' (tB1 (eOp oEq (eOp oIx (eV 6) (eC (.int 0))) (eV 3))) (tTru (eV 7)))
    (fSeq (fAsg [] 4 (eOr (eV 4) (eOp oIx (eV 6) (eC (.int 1)))))
    (fAsg [] 5 (eOr (eV 5) (eNot (eOp oIx (eV 6) (eC (.int 1)))))))
    fNx)
def d_wire_called : Env → Fl := (fSeq (fAsg [] 4 (eC (.bl false)))
    (fSeq (fAsg [] 5 (eC (.bl false)))
    (fSeq (fFor [] [6, 7] (gT 2) (iZp (aC (eV 0) (aC (eV 1) aN)))
    b1_wire_called)
    (fSeq (fIf (tB1 (eOp oEq (eOp oAnd (eOp oShr (eV 2) (eV 3)) (eC (.int 1))) (eC (.int 0))))
    (fRet (eAnd (eV 4) (eNot (eV 5))))
    fNx)
    (fRet (eAnd (eV 5) (eNot (eV 4))))))))
def f_wire_called : List D → Out D := runF 8 4 d_wire_called
def e1_rows_apart : Env → Out D := (eTup (aC (eV 3) aN))
def b1_rows_apart : Env → Fl := (fExt [.fz, .ol, .fz, .fz] 1 (oLc [3] [3] (eI (eV 2)) gN cYes e1_rows_apart))
def d_rows_apart : Env → Fl := (fSeq (fAsgO [.fz, .fz, .fz, .fz] 1 (oLst aN))
    (fSeq (fFor [.fz, .ol, .fz, .fz] [2] gN (eI (eV 0))
    b1_rows_apart)
    (fRet (eB bTuple (aC (eV 1) aN)))))
def f_rows_apart : List D → Out D := runF 4 1 d_rows_apart
def b1_apart : Env → Fl := (fApp [.fz, .ol, .fz, .fz, .fz] 1 (eTup (aC (eV 2) (aC (eCall f_rows_apart (aC (eV 3) aN)) (aC (eCall f_rows_apart (aC (eV 4) aN)) aN)))))
def d_apart : Env → Fl := (fSeq (fAsgO [.fz, .fz, .fz, .fz, .fz] 1 (oLst aN))
    (fSeq (fFor [.fz, .ol, .fz, .fz, .fz] [2, 3, 4] (gT 3) (eI (eV 0))
    b1_apart)
    (fRet (eB bTuple (aC (eV 1) aN)))))
def f_apart : List D → Out D := runF 5 1 d_apart
def e1_Play___init__ : Env → Out D := (eCall f_is_up (aC (eV 5) (aC (eOp oIx (eV 1) (eC (.int 3))) aN)))
def f_Play___init__ : List D → Out (List D) := runP 6 3 [(eV 1), (eV 2), (eTup (aC (eOp oIx (eV 1) (eC (.int 2))) (aC (eOp oIx (eV 1) (eC (.int 3))) aN))), (eL (oLc [3, 4, 5] [3, 4, 5] (eI (eL (oCall f_gates_of (aC (eV 2) aN)))) (gT 3) cYes e1_Play___init__))]
def d_Play_stand : Env → Fl := (fRet (eUn (plyF 2) (eV 0)))
def f_Play_stand : List D → Out D := runF 1 1 d_Play_stand
def d_Play_level : Env → Fl := (fRet (eOp oIx (eUn (plyF 3) (eV 0)) (eV 1)))
def f_Play_level : List D → Out D := runF 2 2 d_Play_level
def b1_Play_called : Env → Fl := (fIf (tB1 (eOp oNe (eOp oIx (eUn (plyF 3) (eV 0)) (eV 4)) (eCall f_is_up (aC (eOp oIx (eOp oIx (eV 1) (eV 4)) (eC (.int 2))) (aC (eV 2) aN)))))
    (fApp [.fz, .fz, .fz, .ol, .fz, .fz, .fz, .fz] 3 (eTup (aC (eC (.str "gate")) (aC (eV 4) aN))))
    fNx)
def b2_Play_called : Env → Fl := (fIf (tTru (eCall f_wire_called (aC (eV 1) (aC (eUn (plyF 3) (eV 0)) (aC (eV 2) (aC (eV 5) aN))))))
    (fApp [.fz, .fz, .fz, .ol, .fz, .fz, .fz, .fz] 3 (eTup (aC (eC (.str "wire")) (aC (eV 5) aN))))
    fNx)
def d_Play_called : Env → Fl := (fSeq (fAsg [.fz, .fz, .fz, .fz, .fz, .fz, .fz, .fz] 1 (eL (oCall f_gates_of (aC (eUn (plyF 1) (eV 0)) aN))))
    (fSeq (fAsg [.fz, .fz, .fz, .fz, .fz, .fz, .fz, .fz] 2 (eOp oIx (eUn (plyF 2) (eV 0)) (eC (.int 1))))
    (fSeq (fAsgO [.fz, .fz, .fz, .fz, .fz, .fz, .fz, .fz] 3 (oLst aN))
    (fSeq (fFor [.fz, .fz, .fz, .ol, .fz, .fz, .fz, .fz] [4] gN (iRg1 (aC (eB bLen (aC (eV 1) aN)) aN))
    b1_Play_called)
    (fSeq (fFor [.fz, .fz, .fz, .ol, .fz, .fz, .fz, .fz] [5, 6, 7] (gT 3) (eI (eUn (plyF 1) (eV 0)))
    b2_Play_called)
    (fRetV 3))))))
def f_Play_called : List D → Out (List D) := runL 8 1 d_Play_called
def b1_Play_moves : Env → Fl := (fIf (tAnd' (tB1 (eOp oEq (eOp oIx (eOp oIx (eOp oIx (eUn (plyF 0) (eV 0)) (eC (.int 0))) (eOp oIx (eOp oIx (eOp oIx (eUn (plyF 0) (eV 0)) (eC (.int 1))) (eV 2)) (eC (.int 0)))) (eC (.int 1))) (eC (.str "given")))) (tTru (eCall f_can (aC (eUn (plyF 0) (eV 0)) (aC (eUn (plyF 2) (eV 0)) (aC (eV 2) aN))))))
    (fApp [.fz, .ol, .fz] 1 (eTup (aC (eC (.str "step")) (aC (eV 2) aN))))
    fNx)
def d_Play_moves : Env → Fl := (fSeq (fAsgO [.fz, .fz, .fz] 1 (oLst aN))
    (fSeq (fFor [.fz, .ol, .fz] [2] gN (iRg1 (aC (eB bLen (aC (eOp oIx (eUn (plyF 0) (eV 0)) (eC (.int 1))) aN)) aN))
    b1_Play_moves)
    (fRetO (oOp oCat (eV 1) (eL (oMeth0 f_Play_called (eV 0)))))))
def f_Play_moves : List D → Out (List D) := runL 3 1 d_Play_moves
def e1_l_gates : Env → Out D := (eTup (aC (eV 2) (aC (eC (.int 1)) (aC (eV 5) aN))))
def e2_l_gates : Env → Out D := (eTup (aC (eV 2) (aC (eUn oNeg (eC (.int 1))) (aC (eV 5) aN))))
def b1_l_gates : Env → Fl := (fAsg [] 1 (eOp oAdd (eOp oAdd (eV 1) (eL (oLc [5] [5] (eI (eV 3)) gN cYes e1_l_gates))) (eL (oLc [5] [5] (eI (eV 4)) gN cYes e2_l_gates))))
def d_l_gates : Env → Fl := (fSeq (fAsg [] 1 (eL (oLst aN)))
    (fSeq (fFor [] [2, 3, 4] (gT 3) (eI (eV 0))
    b1_l_gates)
    (fRet (eV 1))))
def f_l_gates : List D → Out D := runF 6 1 d_l_gates
def c1_l_called : Env → Out Bool := (tB1 (eOp oNe (eOp oIx (eV 2) (eV 10)) (eCall f_l_is_up (aC (eOp oIx (eOp oIx (eV 3) (eV 10)) (eC (.int 2))) (aC (eV 1) aN)))))
def e1_l_called : Env → Out D := (eTup (aC (eC (.str "gate")) (aC (eV 10) aN)))
def c2_l_called : Env → Out Bool := (tAnd' (tTru (eV 12)) (tB1 (eOp oEq (eOp oIx (eV 11) (eC (.int 0))) (eV 5))))
def e2_l_called : Env → Out D := (eOp oIx (eV 11) (eC (.int 1)))
def b1_l_called : Env → Fl := (fSeq (fAsg [.fz, .fz, .fz, .fz, .ol, .fz, .fz, .fz, .fz, .fz, .fz, .fz, .fz] 8 (eL (oLc [11, 12] [11, 12] (iZpM (aC (eV 3) (aC (eV 2) aN))) (gT 2) c2_l_called e2_l_called)))
    (fSeq (fAsg [.fz, .fz, .fz, .fz, .ol, .fz, .fz, .fz, .fz, .fz, .fz, .fz, .fz] 9 (eOp oIx (eL (oLst (aC (eC (.int 1)) (aC (eUn oNeg (eC (.int 1))) aN)))) (eOp oAnd (eOp oShr (eV 1) (eV 5)) (eC (.int 1)))))
    (fIf (tAnd' (tB1 (eOp (oIn false) (eV 9) (eV 8))) (tB1 (eOp (oIn true) (eOp oSub (eC (.int 0)) (eV 9)) (eV 8))))
    (fApp [.fz, .fz, .fz, .fz, .ol, .fz, .fz, .fz, .fz, .fz, .fz, .fz, .fz] 4 (eTup (aC (eC (.str "wire")) (aC (eV 5) aN))))
    fNx)))
def d_l_called : Env → Fl := (fSeq (fAsg [.fz, .fz, .fz, .fz, .fz, .fz, .fz, .fz, .fz, .fz, .fz, .fz, .fz] 3 (eCall f_l_gates (aC (eV 0) aN)))
    (fSeq (fAsgO [.fz, .fz, .fz, .fz, .fz, .fz, .fz, .fz, .fz, .fz, .fz, .fz, .fz] 4 (oLc [10] [10] (iRg1 (aC (eB bLen (aC (eV 3) aN)) aN)) gN c1_l_called e1_l_called))
    (fSeq (fFor [.fz, .fz, .fz, .fz, .ol, .fz, .fz, .fz, .fz, .fz, .fz, .fz, .fz] [5, 6, 7] (gT 3) (eI (eV 0))
    b1_l_called)
    (fRetV 4))))
def f_l_called : List D → Out (List D) := runL 13 3 d_l_called
def b1_l_moves : Env → Fl := (fIf (tAnd' (tB1 (eOp oEq (eOp oIx (eOp oIx (eOp oIx (eV 0) (eC (.int 0))) (eOp oIx (eOp oIx (eOp oIx (eV 0) (eC (.int 1))) (eV 4)) (eC (.int 0)))) (eC (.int 1))) (eC (.str "given")))) (tTru (eCall f_l_can_3 (aC (eV 0) (aC (eOp oIx (eV 2) (eC (.int 0))) (aC (eV 4) aN))))))
    (fApp [.fz, .fz, .fz, .ol, .fz] 3 (eTup (aC (eC (.str "step")) (aC (eV 4) aN))))
    fNx)
def d_l_moves : Env → Fl := (fSeq (fAsgO [.fz, .fz, .fz, .fz, .fz] 3 (oLst aN))
    (fSeq (fFor [.fz, .fz, .fz, .ol, .fz] [4] gN (iRg1 (aC (eB bLen (aC (eOp oIx (eV 0) (eC (.int 1))) aN)) aN))
    b1_l_moves)
    (fRet (eOp oAdd (eV 3) (eL (oCall f_l_called (aC (eV 1) (aC (eOp oIx (eOp oIx (eV 2) (eC (.int 0))) (eC (.int 1))) (aC (eOp oIx (eV 2) (eC (.int 1))) aN)))))))))
def f_l_moves : List D → Out D := runF 5 3 d_l_moves
def e1_l_begun : Env → Out D := (eCall f_l_is_up (aC (eOp oIx (eV 2) (eC (.int 2))) (aC (eOp oIx (eV 0) (eC (.int 3))) aN)))
def d_l_begun : Env → Fl := (fRet (eTup (aC (eTup (aC (eOp oIx (eV 0) (eC (.int 2))) (aC (eOp oIx (eV 0) (eC (.int 3))) aN))) (aC (eB bTuple (aC (eL (oLc [2] [2] (eI (eCall f_l_gates (aC (eV 1) aN))) gN cYes e1_l_begun)) aN)) aN))))
def f_l_begun : List D → Out D := runF 3 2 d_l_begun
def i1_l_any_gate : Env → Fl := (fIf (tOr' (tAnd' (tB1 (eOp oEq (eCall f_l_want (aC (eV 2) (aC (eV 10) (aC (eV 5) aN)))) (eV 4))) (tB1 (eOp oGt (eV 11) (eC (.int 0))))) (tB1 (eOp oEq (eV 11) (eC (.int 5)))))
    (fSeq (fAsg [.fz, .fz, .fz, .fz, .fz, .fz, .ol, .fz, .fz, .fz, .fz, .fz, .fz] 12 (eV 7))
    (fSeq (fIf (tB1 (eOp oEq (eOp oMod (eV 8) (eC (.int 3))) (eC (.int 1))))
    (fAsg [.fz, .fz, .fz, .fz, .fz, .fz, .ol, .fz, .fz, .fz, .fz, .fz, .fz] 12 (eOp oXor (eV 7) (eOp oShl (eC (.int 1)) (eOp oMod (eOp oAdd (eOp oDiv (eV 8) (eC (.int 3))) (eV 9)) (eB bLen (aC (eOp oIx (eV 2) (eC (.int 0))) aN))))))
    fNx)
    (fIf (tB1 (eOp (oIn true) (eTup (aC (eV 12) (aC (eOp oAnd (eOp oIx (eV 10) (eC (.int 1))) (eV 12)) aN))) (eV 6)))
    (fApp [.fz, .fz, .fz, .fz, .fz, .fz, .ol, .fz, .fz, .fz, .fz, .fz, .fz] 6 (eTup (aC (eV 12) (aC (eOp oAnd (eOp oIx (eV 10) (eC (.int 1))) (eV 12)) aN))))
    fNx)))
    fNx)
def b1_l_any_gate : Env → Fl := (fSeq (fAsg [.fz, .fz, .fz, .fz, .fz, .fz, .ol, .fz, .fz, .fz, .fz, .fz, .fz] 11 (eOp oMod (eOp oDiv (eCall f_l_mix_2 (aC (eV 0) (aC (eOp oAdd (eV 1) (eOp oMod (eV 9) (eC (.int 12)))) aN))) (eOp oAdd (eC (.int 7)) (eV 9))) (eC (.int 24))))
    i1_l_any_gate)
def d_l_any_gate : Env → Fl := (fSeq (fAsgO [.fz, .fz, .fz, .fz, .fz, .fz, .fz, .fz, .fz, .fz, .fz, .fz, .fz] 6 (oLst aN))
    (fSeq (fAsg [.fz, .fz, .fz, .fz, .fz, .fz, .ol, .fz, .fz, .fz, .fz, .fz, .fz] 7 (eOp oSub (eOp oShl (eC (.int 1)) (eB bLen (aC (eOp oIx (eV 2) (eC (.int 0))) aN))) (eC (.int 1))))
    (fSeq (fAsg [.fz, .fz, .fz, .fz, .fz, .fz, .ol, .fz, .fz, .fz, .fz, .fz, .fz] 8 (eCall f_l_mix_2 (aC (eV 0) (aC (eV 1) aN))))
    (fSeq (fFor [.fz, .fz, .fz, .fz, .fz, .fz, .ol, .fz, .fz, .fz, .fz, .fz, .fz] [9, 10] (gT 2) (iEn (aC (eV 3) aN))
    b1_l_any_gate)
    (fRet (eB bTuple (aC (eV 6) aN)))))))
def f_l_any_gate : List D → Out D := runF 13 6 d_l_any_gate
def b1_l_any_net : Env → Fl := (fSeq (fAsg [.fz, .fz, .fz, .fz, .ol, .fz, .ol, .fz, .fz, .fz, .fz] 8 (eCall f_l_mix_2 (aC (eV 0) (aC (eOp oAdd (eV 1) (eV 5)) aN))))
    (fSeq (fAsg [.fz, .fz, .fz, .fz, .ol, .fz, .ol, .fz, .fz, .fz, .fz] 9 (eCall f_l_any_gate (aC (eV 0) (aC (eOp oAdd (eOp oAdd (eV 1) (eOp oMul (eC (.int 2)) (eV 5))) (eOp oDiv (eOp oSub (eC (.int 1)) (eV 7)) (eC (.int 2)))) (aC (eV 2) (aC (eV 3) (aC (eV 7) (aC (eV 5) aN))))))))
    (fSeq (fAsg [.fz, .fz, .fz, .fz, .ol, .fz, .ol, .fz, .fz, .fz, .fz] 10 (eTup (aC (eV 9) aN)))
    (fSeq (fIf (tB1 (eOp oEq (eOp oMod (eV 8) (eC (.int 5))) (eC (.int 3))))
    (fAsg [.fz, .fz, .fz, .fz, .ol, .fz, .ol, .fz, .fz, .fz, .fz] 10 (eTup (aC (eSl (eV 9) pN (pS (eC (.int 1)))) (aC (eSl (eV 9) (pS (eC (.int 1))) pN) aN))))
    fNx)
    (fSeq (fIf (tB1 (eOp oEq (eOp oMod (eV 8) (eC (.int 17))) (eC (.int 4))))
    (fAsg [.fz, .fz, .fz, .fz, .ol, .fz, .ol, .fz, .fz, .fz, .fz] 10 (eTup aN))
    fNx)
    (fApp [.fz, .fz, .fz, .fz, .ol, .fz, .ol, .fz, .fz, .fz, .fz] 6 (eV 10)))))))
def i1_l_any_net : Env → Fl := (fIf (tB1 (eOp oEq (eOp oIx (eOp oIx (eOp oIx (eV 2) (eC (.int 0))) (eV 5)) (eC (.int 1))) (eC (.str "made"))))
    (fSeq (fAsgO [.fz, .fz, .fz, .fz, .ol, .fz, .fz, .fz, .fz, .fz, .fz] 6 (oLst aN))
    (fSeq (fFor [.fz, .fz, .fz, .fz, .ol, .fz, .ol, .fz, .fz, .fz, .fz] [7] gN (eI (eL (oLst (aC (eC (.int 1)) (aC (eUn oNeg (eC (.int 1))) aN)))))
    b1_l_any_net)
    (fApp [.fz, .fz, .fz, .fz, .ol, .fz, .fz, .fz, .fz, .fz, .fz] 4 (eTup (aC (eV 5) (aC (eOp oIx (eV 6) (eC (.int 0))) (aC (eOp oIx (eV 6) (eC (.int 1))) aN)))))))
    fNx)
def b2_l_any_net : Env → Fl := i1_l_any_net
def d_l_any_net : Env → Fl := (fSeq (fAsgO [.fz, .fz, .fz, .fz, .fz, .fz, .fz, .fz, .fz, .fz, .fz] 4 (oLst aN))
    (fSeq (fFor [.fz, .fz, .fz, .fz, .ol, .fz, .fz, .fz, .fz, .fz, .fz] [5] gN (iRg1 (aC (eB bLen (aC (eOp oIx (eV 2) (eC (.int 0))) aN)) aN))
    b2_l_any_net)
    (fRet (eB bTuple (aC (eV 4) aN)))))
def f_l_any_net : List D → Out D := runF 11 4 d_l_any_net
def e1_l_apart : Env → Out D := (eTup (aC (eV 9) aN))
def b1_l_apart : Env → Fl := (fAsg [.fz, .ol, .fz, .fz, .fz, .ol, .fz, .fz, .fz, .fz] 7 (eOp oAdd (eV 7) (eL (oLc [9] [9] (eI (eV 8)) gN cYes e1_l_apart))))
def b2_l_apart : Env → Fl := (fSeq (fAsg [.fz, .ol, .fz, .fz, .fz, .ol, .fz, .fz, .fz, .fz] 7 (eL (oLst aN)))
    (fSeq (fFor [.fz, .ol, .fz, .fz, .fz, .ol, .fz, .fz, .fz, .fz] [8] gN (eI (eV 6))
    b1_l_apart)
    (fApp [.fz, .ol, .fz, .fz, .fz, .ol, .fz, .fz, .fz, .fz] 5 (eB bTuple (aC (eV 7) aN)))))
def b3_l_apart : Env → Fl := (fSeq (fAsgO [.fz, .ol, .fz, .fz, .fz, .fz, .fz, .fz, .fz, .fz] 5 (oLst aN))
    (fSeq (fFor [.fz, .ol, .fz, .fz, .fz, .ol, .fz, .fz, .fz, .fz] [6] gN (eI (eL (oLst (aC (eV 3) (aC (eV 4) aN)))))
    b2_l_apart)
    (fApp [.fz, .ol, .fz, .fz, .fz, .fz, .fz, .fz, .fz, .fz] 1 (eTup (aC (eV 2) (aC (eOp oIx (eV 5) (eC (.int 0))) (aC (eOp oIx (eV 5) (eC (.int 1))) aN)))))))
def d_l_apart : Env → Fl := (fSeq (fAsgO [.fz, .fz, .fz, .fz, .fz, .fz, .fz, .fz, .fz, .fz] 1 (oLst aN))
    (fSeq (fFor [.fz, .ol, .fz, .fz, .fz, .fz, .fz, .fz, .fz, .fz] [2, 3, 4] (gT 3) (eI (eV 0))
    b3_l_apart)
    (fRet (eB bTuple (aC (eV 1) aN)))))
def f_l_apart : List D → Out D := runF 10 1 d_l_apart
def e1_l_within : Env → Out D := (eB bLen (aC (eV 6) aN))
def b1_l_within : Env → Fl := (fSeq (fAsg [] 5 (eB bSum (aC (eL (oLc [6] [6] (eI (eOp oAdd (eV 3) (eV 4))) gN cYes e1_l_within)) aN)))
    (fSeq (fAsg [] 1 (eOp oAdd (eV 1) (eV 5)))
    (fIf (tB1 (eOp oGt (eV 5) (eC (.int 8))))
    (fRet (eC (.bl false)))
    fNx)))
def d_l_within : Env → Fl := (fSeq (fAsg [] 1 (eC (.int 0)))
    (fSeq (fFor [] [2, 3, 4] (gT 3) (eI (eV 0))
    b1_l_within)
    (fRet (eOp oLe (eV 1) (eC (.int 40))))))
def f_l_within : List D → Out D := runF 7 1 d_l_within
def e1_l_begins : Env → Out D := (eMeth f_Play_level (eV 2) (aC (eV 6) aN))
def c1_l_begins : Env → Out Bool := (tNot' (tTru (eUn (isD .bool) (eV 7))))
def d_l_begins : Env → Fl := (fSeq (fAsg [.fz, .fz, .fz, .fz, .fz, .fz, .fz, .fz] 2 (eNew f_Play___init__ (aC (eV 0) (aC (eV 1) aN))))
    (fSeq (fAsg [.fz, .fz, .fz, .fz, .fz, .fz, .fz, .fz] 3 (eCall f_l_begun (aC (eV 0) (aC (eV 1) aN))))
    (fSeq (fAsg [.fz, .fz, .fz, .fz, .fz, .fz, .fz, .fz] 4 (eL (oLc [6] [6] (iRg1 (aC (eB bLen (aC (eOp oIx (eV 3) (eC (.int 1))) aN)) aN)) gN cYes e1_l_begins)))
    (fSeq (fIf (tOr' (tB1 (eOp oNe (eMeth0 f_Play_stand (eV 2)) (eOp oIx (eV 3) (eC (.int 0))))) (tOr' (tNot' (tTru (eUn (isD .tuple) (eMeth0 f_Play_stand (eV 2))))) (tB1 (eOp oNe (eB bTuple (aC (eV 4) aN)) (eOp oIx (eV 3) (eC (.int 1)))))))
    (fRet (eC (.bl false)))
    fNx)
    (fSeq (fIf (tB1 (eOp oGt (eB bLen (aC (eL (oLc [7] [7] (eI (eV 4)) gN c1_l_begins (eV 7))) aN)) (eC (.int 0))))
    (fRet (eC (.bl false)))
    fNx)
    (fSeq (fAsgO [.fz, .fz, .fz, .fz, .fz, .fz, .fz, .fz] 5 (oMeth0 f_Play_moves (eV 2)))
    (fSeq (fIf (tOr' (tNot' (tTru (eUn (isD .list) (eV 5)))) (tB1 (eOp oNe (eV 5) (eCall f_l_moves (aC (eV 0) (aC (eV 1) (aC (eV 3) aN)))))))
    (fRet (eC (.bl false)))
    fNx)
    (fSeq (fApp [.fz, .fz, .fz, .fz, .fz, .ol, .fz, .fz] 5 (eTup (aC (eC (.str "step")) (aC (eC (.int 0)) aN))))
    (fRet (eOp oEq (eL (oMeth0 f_Play_moves (eV 2))) (eCall f_l_moves (aC (eV 0) (aC (eV 1) (aC (eV 3) aN))))))))))))))
def f_l_begins : List D → Out D := runF 8 2 d_l_begins
def d_law_k61 : Env → Fl := (fSeq (fAsg [] 1 (eCall f_l_any_graph_2 (aC (eV 0) (aC (eC (.int 0)) (aC (eC (.int 3)) (aC (eC (.int 3)) aN))))))
    (fSeq (fAsg [] 2 (eCall f_l_any_net (aC (eV 0) (aC (eC (.int 12)) (aC (eV 1) (aC (eL (oCall f_l_stands (aC (eV 1) aN))) aN))))))
    (fSeq (fAsg [] 3 (eCall f_apart (aC (eV 2) aN)))
    (fSeq (fIf (tB1 (eOp oNe (eV 3) (eCall f_l_apart (aC (eV 2) aN))))
    (fRet (eC (.bl false)))
    fNx)
    (fSeq (fIf (tAnd' (tTru (eCall f_l_within (aC (eV 2) aN))) (tNot' (tTru (eCall f_l_begins (aC (eV 1) (aC (eV 3) aN))))))
    (fRet (eC (.bl false)))
    fNx)
    (fRet (eAnd (eCall f_l_begins (aC (eV 1) (aC (eV 2) aN))) (eCall f_l_begins (aC (eV 1) (aC (eV 2) aN))))))))))
def f_law_k61 : List D → Out D := runF 4 1 d_law_k61
end
end CW
namespace CW
open PySem PySem.Spec PyProof.Rows L2
abbrev Pw : Program := PySem.Challenge.pw_calmwires_k61_moves
def top (i : Nat) : Stmt := Pw.main.body.getD i (.Pass ⟨0, 0, 0, 0⟩)
def PpN : OX := ⟨[], [], [], []⟩
structure Txt (K : PySem.W.Frag) (mg : Str → Option Value) : Prop where
  a__wall : DefAt K mg "_wall" (top 0) ["k"]
  a_fits : DefAt K mg "fits" (top 2) ["row", "code"]
  a_is_up : DefAt K mg "is_up" (top 3) ["gate", "code"]
  a_bits : DefAt K mg "bits" (top 5) ["some"]
  a_can : DefAt K mg "can" (top 7) ["graph", "stand", "step"]
  a_gates_of : DefAt K mg "gates_of" (top 9) ["net"]
  a_wire_called : DefAt K mg "wire_called" (top 10) ["gates", "levels", "code", "wire"]
  a_rows_apart : DefAt K mg "rows_apart" (top 12) ["gates"]
  a_apart : DefAt K mg "apart" (top 11) ["net"]
  a_Play___init__ : InitP K mg "Play.__init__" (inClass (top 13) 0) ["self", "graph", "net"]
  a_Play_stand : MethAt K "stand" "Play.stand" (inClass (top 13) 1) ["self"]
  a_Play_level : MethAt K "level" "Play.level" (inClass (top 13) 2) ["self", "g"]
  a_Play_called : MethAt K "called" "Play.called" (inClass (top 13) 3) ["self"]
  a_Play_moves : MethAt K "moves" "Play.moves" (inClass (top 13) 4) ["self"]
  a_l_mix_2 : DefAt K mg "_law_mix" (top 15) ["_law_script", "_law_k"]
  a_l_word : DefAt K mg "_law_word" (top 16) ["_law_cell", "_law_k"]
  a_l_order : DefAt K mg "_law_order" (top 17) ["_law_script", "_law_first", "_law_n"]
  a_l_arrows_2 : DefAt K mg "_law_arrows" (top 18) ["_law_script", "_law_first", "_law_many", "_law_size"]
  a_l_graph_3 : DefAt K mg "_law_graph" (top 19) ["_law_script", "_law_first", "_law_n", "_law_many"]
  a_l_can_3 : DefAt K mg "_law_can" (top 20) ["_law_graph_here", "_law_stand", "_law_step"]
  a_l_behind_2 : DefAt K mg "_law_behind" (top 21) ["_law_graph_here", "_law_stand", "_law_step"]
  a_l_stands : DefAt K mg "_law_stands" (top 22) ["_law_graph_here"]
  a_l_want : DefAt K mg "_law_want" (top 23) ["_law_graph_here", "_law_stand", "_law_wire"]
  a_l_choice_3 : DefAt K mg "_law_choice" (top 24) ["_law_script", "_law_first"]
  a_l_wider : DefAt K mg "_law_wider" (top 25) ["_law_graph_here", "_law_at", "_law_kind", "_law_up_here", "_law_word_here"]
  a_l_lookers_4 : DefAt K mg "_law_lookers" (top 26) ["_law_graph_here", "_law_cell"]
  a_l_any_graph_2 : DefAt K mg "_law_any_graph" (top 27) ["_law_script", "_law_first", "_law_most", "_law_arrows_here"]
  a_l_gates : DefAt K mg "_law_gates" (top 28) ["_law_net"]
  a_l_is_up : DefAt K mg "_law_up" (top 29) ["_law_gate", "_law_code"]
  a_l_called : DefAt K mg "_law_called" (top 30) ["_law_net", "_law_code", "_law_levels"]
  a_l_moves : DefAt K mg "_law_moves" (top 31) ["_law_graph_here", "_law_net", "_law_play"]
  a_l_wire_step : DefAt K mg "_law_wire_step" (top 32) ["_law_graph_here", "_law_stand", "_law_wire"]
  a_l_gone_2 : DefAt K mg "_law_gone" (top 33) ["_law_graph_here", "_law_net", "_law_play", "_law_move"]
  a_l_begun : DefAt K mg "_law_begun" (top 34) ["_law_graph_here", "_law_net"]
  a_l_any_gate : DefAt K mg "_law_any_gate" (top 35) ["_law_script", "_law_first", "_law_graph_here", "_law_some", "_law_want_here", "_law_wire"]
  a_l_any_net : DefAt K mg "_law_any_net" (top 36) ["_law_script", "_law_first", "_law_graph_here", "_law_some"]
  a_l_apart : DefAt K mg "_law_apart" (top 37) ["_law_net"]
  a_l_within : DefAt K mg "_law_within" (top 38) ["_law_net"]
  a_l_begins : DefAt K mg "_law_begins" (top 39) ["_law_graph_here", "_law_net"]
  a_law_k61 : DefAt K mg "law" (top 40) ["_law_script"]
  ply : PlyC K
  f_bool : mg "bool" = none
  f_enumerate : mg "enumerate" = none
  f_int : mg "int" = none
  f_isinstance : mg "isinstance" = none
  f_len : mg "len" = none
  f_list : mg "list" = none
  f_max : mg "max" = none
  f_min : mg "min" = none
  f_range : mg "range" = none
  f_sorted : mg "sorted" = none
  f_sum : mg "sum" = none
  f_tuple : mg "tuple" = none
  f_zip : mg "zip" = none
noncomputable section
variable {P : Program} {w : World} {K : PySem.W.Frag} {mg : Str → Option Value} {base : Heap}
abbrev n_fits : List Str := ["row", "code"]
theorem sc_fits : FnScope n_fits ["row", "code"] (defScope (top 2)) := ⟨rfl, rfl, rfl, by decide +kernel, rfl, by decide +kernel, by decide +kernel⟩
theorem g_fits (T : Txt K mg) : FnD P w K mg base 2 "fits" f_fits := fnD_of (Pp := PpN) [] T.a_fits sc_fits rfl fun f cdv A outer s H E hr =>
  (sb_one (ss_ret (se_cmp (cd_eq hr) (se_and (se_var 1) (se_ix (se_var 0) se_int)) (se_ix (se_var 0) se_int))))
abbrev n_is_up : List Str := ["gate", "code", "row"]
theorem sc_is_up : FnScope n_is_up ["gate", "code"] (defScope (top 3)) := ⟨rfl, rfl, rfl, by decide +kernel, rfl, by decide +kernel, by decide +kernel⟩
theorem g_is_up (T : Txt K mg) : FnD P w K mg base 3 "is_up" f_is_up := fnD_of (Pp := PpN) [] T.a_is_up sc_is_up rfl fun f cdv A outer s H E hr =>
  (sb_cons (O1 := []) (ss_for PassesOwn.never rfl (si_seq (se_var 0)) (sg_name 2 sc_is_up.nd)
    (sb_one (ss_if (st_tru (se_call ((g_fits T).mono (by decide)) hr (sa_cons (se_var 2) (sa_cons (se_var 1) sa_nil))))
    (sb_one (ss_ret se_bl))
    sb_nil)))
    (sb_one (ss_ret se_bl)))
abbrev n_bits : List Str := ["some", "number", "k"]
theorem sc_bits : FnScope n_bits ["some"] (defScope (top 5)) := ⟨rfl, rfl, rfl, by decide +kernel, rfl, by decide +kernel, by decide +kernel⟩
theorem g_bits (T : Txt K mg) : FnD P w K mg base 2 "bits" f_bits := fnD_of (Pp := PpN) [] T.a_bits sc_bits rfl fun f cdv A outer s H E hr =>
  (sb_cons (O1 := []) (ss_asg 1 sc_bits.nd se_int)
    (sb_cons (O1 := []) (ss_for PassesOwn.never rfl (si_seq (se_var 0)) (sg_name 2 sc_bits.nd)
    (sb_one (ss_asg 1 sc_bits.nd (se_or (se_var 1) (se_shl se_int (se_var 2))))))
    (sb_one (ss_ret (se_var 1)))))
abbrev n_can : List Str := ["graph", "stand", "step", "takes"]
theorem sc_can : FnScope n_can ["graph", "stand", "step"] (defScope (top 7)) := ⟨rfl, rfl, rfl, by decide +kernel, rfl, by decide +kernel, by decide +kernel⟩
theorem g_can (T : Txt K mg) : FnD P w K mg base 3 "can" f_can := fnD_of (Pp := PpN) [] T.a_can sc_can rfl fun f cdv A outer s H E hr =>
  (sb_cons (O1 := []) (ss_asg 3 sc_can.nd (se_call ((g_bits T).mono (by decide)) hr (sa_cons (se_ix (se_ix (se_ix (se_var 0) se_int) (se_var 2)) se_int) sa_nil)))
    (sb_one (ss_ret (se_cmp (cd_eq hr) (se_and (se_ix (se_var 1) se_int) (se_var 3)) (se_var 3)))))
abbrev n_gates_of : List Str := ["net", "some", "wire", "rises", "falls", "gate"]
theorem sc_gates_of : FnScope n_gates_of ["net"] (defScope (top 9)) := ⟨rfl, rfl, rfl, by decide +kernel, rfl, by decide +kernel, by decide +kernel⟩
theorem g_gates_of (T : Txt K mg) : FnL P w K mg base 2 "gates_of" f_gates_of := fnL_of (Pp := PpN) [.fz, .fz, .fz, .fz, .fz, .fz] T.a_gates_of sc_gates_of rfl fun f cdv A outer s H E hr =>
  (sb_cons (O1 := [.fz, .ol, .fz, .fz, .fz, .fz]) (ss_asgO 1 sc_gates_of.nd (so_lst sa_nil))
    (sb_cons (O1 := [.fz, .ol, .fz, .fz, .fz, .fz]) (ss_for PassesOwn.never rfl (si_seq (se_var 0)) (sg_tup sc_gates_of.nd rfl (nm_cons 2 (nm_cons 3 (nm_cons 4 .nil))))
    (sb_cons (O1 := [.fz, .ol, .fz, .fz, .fz, .fz]) (ss_for PassesOwn.never rfl (si_seq (se_var 3)) (sg_name 5 sc_gates_of.nd)
    (sb_one (ss_app 1 (se_tup (sa_cons (se_var 2) (sa_cons se_bl (sa_cons (se_var 5) sa_nil)))))))
    (sb_one (ss_for PassesOwn.never rfl (si_seq (se_var 4)) (sg_name 5 sc_gates_of.nd)
    (sb_one (ss_app 1 (se_tup (sa_cons (se_var 2) (sa_cons se_bl (sa_cons (se_var 5) sa_nil))))))))))
    (sb_one (ss_retV 1))))
abbrev n_wire_called : List Str := ["gates", "levels", "code", "wire", "rising", "falling", "one", "level"]
theorem sc_wire_called : FnScope n_wire_called ["gates", "levels", "code", "wire"] (defScope (top 10)) := ⟨rfl, rfl, rfl, by decide +kernel, rfl, by decide +kernel, by decide +kernel⟩
theorem g_wire_called (T : Txt K mg) : FnD P w K mg base 2 "wire_called" f_wire_called := fnD_of (Pp := PpN) [] T.a_wire_called sc_wire_called rfl fun f cdv A outer s H E hr =>
  (sb_cons (O1 := []) (ss_asg 4 sc_wire_called.nd se_bl)
    (sb_cons (O1 := []) (ss_asg 5 sc_wire_called.nd se_bl)
    (sb_cons (O1 := []) (ss_for PassesOwn.never rfl (si_zip T.f_zip (sa_cons (se_var 0) (sa_cons (se_var 1) sa_nil))) (sg_tup sc_wire_called.nd rfl (nm_cons 6 (nm_cons 7 .nil)))
    (sb_one (ss_if (SW.st (sw_and (st_cmp (cd_eq hr) (se_ix (se_var 6) se_int) (se_var 3)) (sw_and1 (st_tru (se_var 7)))))
    (sb_cons (O1 := []) (ss_asg 4 sc_wire_called.nd (se_or2 (se_var 4) (se_one (se_ix (se_var 6) se_int))))
    (sb_one (ss_asg 5 sc_wire_called.nd (se_or2 (se_var 5) (se_one (se_not (se_ix (se_var 6) se_int)))))))
    sb_nil)))
    (sb_cons (O1 := []) (ss_if (st_cmp (cd_eq hr) (se_and (se_shr (se_var 2) (se_var 3)) se_int) se_int)
    (sb_one (ss_ret (se_and2 (se_var 4) (se_one (se_not (se_var 5))))))
    sb_nil)
    (sb_one (ss_ret (se_and2 (se_var 5) (se_one (se_not (se_var 4))))))))))
abbrev n_rows_apart : List Str := ["gates", "some", "gate", "row"]
theorem sc_rows_apart : FnScope n_rows_apart ["gates"] (defScope (top 12)) := ⟨rfl, rfl, rfl, by decide +kernel, rfl, by decide +kernel, by decide +kernel⟩
theorem g_rows_apart (T : Txt K mg) : FnD P w K mg base 2 "rows_apart" f_rows_apart := fnD_of (Pp := PpN) [.fz, .fz, .fz, .fz] T.a_rows_apart sc_rows_apart rfl fun f cdv A outer s H E hr =>
  (sb_cons (O1 := [.fz, .ol, .fz, .fz]) (ss_asgO 1 sc_rows_apart.nd (so_lst sa_nil))
    (sb_cons (O1 := [.fz, .fz, .fz, .fz]) (ss_for PassesOwn.never rfl (si_seq (se_var 0)) (sg_name 2 sc_rows_apart.nd)
    (sb_one (ss_ext 1 (so_lc [("row", 3)] rfl sc_rows_apart.nd (si_seq (se_var 2)) (blkOk_by (N := n_rows_apart) (sc := defScope (top 12)) (by decide +kernel)) (fun _ _ _ _ _ => (sg_name 3 sc_rows_apart.nd)) (fun _ _ _ _ _ => sts_nil) (fun _ _ _ _ _ => (se_tup (sa_cons (se_var 3) sa_nil)))))))
    (sb_one (ss_ret (se_blt bd_tuple T.f_tuple (sa_cons (se_var 1) sa_nil))))))
abbrev n_apart : List Str := ["net", "found", "wire", "rises", "falls"]
theorem sc_apart : FnScope n_apart ["net"] (defScope (top 11)) := ⟨rfl, rfl, rfl, by decide +kernel, rfl, by decide +kernel, by decide +kernel⟩
theorem g_apart (T : Txt K mg) : FnD P w K mg base 3 "apart" f_apart := fnD_of (Pp := PpN) [.fz, .fz, .fz, .fz, .fz] T.a_apart sc_apart rfl fun f cdv A outer s H E hr =>
  (sb_cons (O1 := [.fz, .ol, .fz, .fz, .fz]) (ss_asgO 1 sc_apart.nd (so_lst sa_nil))
    (sb_cons (O1 := [.fz, .fz, .fz, .fz, .fz]) (ss_for PassesOwn.never rfl (si_seq (se_var 0)) (sg_tup sc_apart.nd rfl (nm_cons 2 (nm_cons 3 (nm_cons 4 .nil))))
    (sb_one (ss_app 1 (se_tup (sa_cons (se_var 2) (sa_cons (se_call ((g_rows_apart T).mono (by decide)) hr (sa_cons (se_var 3) sa_nil)) (sa_cons (se_call ((g_rows_apart T).mono (by decide)) hr (sa_cons (se_var 4) sa_nil)) sa_nil)))))))
    (sb_one (ss_ret (se_blt bd_tuple T.f_tuple (sa_cons (se_var 1) sa_nil))))))
abbrev n_Play___init__ : List Str := ["self", "graph", "net", "wire", "rise", "gate"]
theorem sc_Play___init__ : FnScope n_Play___init__ ["self", "graph", "net"] (defScope (inClass (top 13) 0)) := ⟨rfl, rfl, rfl, by decide +kernel, rfl, by decide +kernel, by decide +kernel⟩
theorem g_Play___init__ (T : Txt K mg) : FnP P w K mg base 4 f_Play___init__ := fnP_of T.a_Play___init__ sc_Play___init__ (by decide) fun f cdv A outer s H E hr =>
  (si_cons T.ply (se_var 1)
    (si_cons T.ply (se_var 2)
    (si_cons T.ply (se_tup (sa_cons (se_ix (se_var 1) se_int) (sa_cons (se_ix (se_var 1) se_int) sa_nil)))
    (si_cons T.ply (SE.ofO (so_lc [("wire", 3), ("rise", 4), ("gate", 5)] rfl sc_Play___init__.nd (si_seq (SE.ofO (so_call ((g_gates_of T).mono (by decide)) hr (sa_cons (se_var 2) sa_nil)))) (blkOk_by (N := n_Play___init__) (sc := defScope (inClass (top 13) 0)) (by decide +kernel)) (fun _ _ _ _ _ => (sg_tup sc_Play___init__.nd rfl (nm_cons 3 (nm_cons 4 (nm_cons 5 .nil))))) (fun _ _ _ _ _ => sts_nil) (fun _ _ _ _ _ => (se_call ((g_is_up T).mono (by decide)) hr (sa_cons (se_var 5) (sa_cons (se_ix (se_var 1) se_int) sa_nil))))))
    si_nil))))
abbrev n_Play_stand : List Str := ["self"]
theorem sc_Play_stand : FnScope n_Play_stand ["self"] (defScope (inClass (top 13) 1)) := ⟨rfl, rfl, rfl, by decide +kernel, rfl, by decide +kernel, by decide +kernel⟩
theorem g_Play_stand (T : Txt K mg) : FnDM P w K mg base 2 "stand" f_Play_stand := fnDM_of (Pp := PpN) [] T.a_Play_stand sc_Play_stand rfl fun f cdv A outer s H E hr =>
  (sb_one (ss_ret (se_fld 2 T.ply (se_var 0))))
abbrev n_Play_level : List Str := ["self", "g"]
theorem sc_Play_level : FnScope n_Play_level ["self", "g"] (defScope (inClass (top 13) 2)) := ⟨rfl, rfl, rfl, by decide +kernel, rfl, by decide +kernel, by decide +kernel⟩
theorem g_Play_level (T : Txt K mg) : FnDM P w K mg base 2 "level" f_Play_level := fnDM_of (Pp := PpN) [] T.a_Play_level sc_Play_level rfl fun f cdv A outer s H E hr =>
  (sb_one (ss_ret (se_ix (se_fld 3 T.ply (se_var 0)) (se_var 1))))
abbrev n_Play_called : List Str := ["self", "gates", "code", "some", "g", "wire", "rises", "falls"]
theorem sc_Play_called : FnScope n_Play_called ["self"] (defScope (inClass (top 13) 3)) := ⟨rfl, rfl, rfl, by decide +kernel, rfl, by decide +kernel, by decide +kernel⟩
theorem g_Play_called (T : Txt K mg) : FnLM P w K mg base 4 "called" f_Play_called := fnLM_of (Pp := PpN) [.fz, .fz, .fz, .fz, .fz, .fz, .fz, .fz] T.a_Play_called sc_Play_called rfl fun f cdv A outer s H E hr =>
  (sb_cons (O1 := [.fz, .fz, .fz, .fz, .fz, .fz, .fz, .fz]) (ss_asg 1 sc_Play_called.nd (SE.ofO (so_call ((g_gates_of T).mono (by decide)) hr (sa_cons (se_fld 1 T.ply (se_var 0)) sa_nil))))
    (sb_cons (O1 := [.fz, .fz, .fz, .fz, .fz, .fz, .fz, .fz]) (ss_asg 2 sc_Play_called.nd (se_ix (se_fld 2 T.ply (se_var 0)) se_int))
    (sb_cons (O1 := [.fz, .fz, .fz, .ol, .fz, .fz, .fz, .fz]) (ss_asgO 3 sc_Play_called.nd (so_lst sa_nil))
    (sb_cons (O1 := [.fz, .fz, .fz, .ol, .fz, .fz, .fz, .fz]) (ss_for PassesOwn.never rfl (si_rng1 T.f_range (sa_cons (se_blt bd_len T.f_len (sa_cons (se_var 1) sa_nil)) sa_nil)) (sg_name 4 sc_Play_called.nd)
    (sb_one (ss_if (st_cmp (cd_ne hr) (se_ix (se_fld 3 T.ply (se_var 0)) (se_var 4)) (se_call ((g_is_up T).mono (by decide)) hr (sa_cons (se_ix (se_ix (se_var 1) (se_var 4)) se_int) (sa_cons (se_var 2) sa_nil))))
    (sb_one (ss_app 3 (se_tup (sa_cons se_str (sa_cons (se_var 4) sa_nil)))))
    sb_nil)))
    (sb_cons (O1 := [.fz, .fz, .fz, .ol, .fz, .fz, .fz, .fz]) (ss_for PassesOwn.never rfl (si_seq (se_fld 1 T.ply (se_var 0))) (sg_tup sc_Play_called.nd rfl (nm_cons 5 (nm_cons 6 (nm_cons 7 .nil))))
    (sb_one (ss_if (st_tru (se_call ((g_wire_called T).mono (by decide)) hr (sa_cons (se_var 1) (sa_cons (se_fld 3 T.ply (se_var 0)) (sa_cons (se_var 2) (sa_cons (se_var 5) sa_nil))))))
    (sb_one (ss_app 3 (se_tup (sa_cons se_str (sa_cons (se_var 5) sa_nil)))))
    sb_nil)))
    (sb_one (ss_retV 3)))))))
abbrev n_Play_moves : List Str := ["self", "some", "step"]
theorem sc_Play_moves : FnScope n_Play_moves ["self"] (defScope (inClass (top 13) 4)) := ⟨rfl, rfl, rfl, by decide +kernel, rfl, by decide +kernel, by decide +kernel⟩
theorem g_Play_moves (T : Txt K mg) : FnLM P w K mg base 5 "moves" f_Play_moves := fnLM_of (Pp := PpN) [.fz, .fz, .fz] T.a_Play_moves sc_Play_moves rfl fun f cdv A outer s H E hr =>
  (sb_cons (O1 := [.fz, .ol, .fz]) (ss_asgO 1 sc_Play_moves.nd (so_lst sa_nil))
    (sb_cons (O1 := [.fz, .fz, .fz]) (ss_for PassesOwn.never rfl (si_rng1 T.f_range (sa_cons (se_blt bd_len T.f_len (sa_cons (se_ix (se_fld 0 T.ply (se_var 0)) se_int) sa_nil)) sa_nil)) (sg_name 2 sc_Play_moves.nd)
    (sb_one (ss_if (SW.st (sw_and (st_cmp (cd_eq hr) (se_ix (se_ix (se_ix (se_fld 0 T.ply (se_var 0)) se_int) (se_ix (se_ix (se_ix (se_fld 0 T.ply (se_var 0)) se_int) (se_var 2)) se_int)) se_int) se_str) (sw_and1 (st_tru (se_call ((g_can T).mono (by decide)) hr (sa_cons (se_fld 0 T.ply (se_var 0)) (sa_cons (se_fld 2 T.ply (se_var 0)) (sa_cons (se_var 2) sa_nil))))))))
    (sb_one (ss_app 1 (se_tup (sa_cons se_str (sa_cons (se_var 2) sa_nil)))))
    sb_nil)))
    (sb_one (ss_retO (so_cat (se_var 1) (SE.ofO (so_meth0 ((g_Play_called T).mono (by decide)) T.ply hr (se_var 0))))))))
abbrev n_l_mix_2 : List Str := ["_law_script", "_law_k", "_law_number"]
theorem sc_l_mix_2 : FnScope n_l_mix_2 ["_law_script", "_law_k"] (defScope (top 15)) := ⟨rfl, rfl, rfl, by decide +kernel, rfl, by decide +kernel, by decide +kernel⟩
theorem g_l_mix_2 (T : Txt K mg) : FnD P w K mg base 2 "_law_mix" f_l_mix_2 := fnD_of (Pp := PpN) [] T.a_l_mix_2 sc_l_mix_2 rfl fun f cdv A outer s H E hr =>
  (sb_cons (O1 := []) (ss_asg 2 sc_l_mix_2.nd (se_add (se_mul se_int (se_var 1)) se_int))
    (sb_cons (O1 := []) (ss_if (st_cmp cd_lt (se_var 1) (se_blt bd_len T.f_len (sa_cons (se_var 0) sa_nil)))
    (sb_one (ss_asg 2 sc_l_mix_2.nd (se_add (se_var 2) (se_mul (se_ix (se_var 0) (se_var 1)) se_int))))
    sb_nil)
    (sb_one (ss_ret (se_mod (se_mul (se_var 2) se_int) se_int)))))
abbrev n_l_word : List Str := ["_law_cell", "_law_k", "_law_letters", "_law_size", "_law_at", "_law_word_here", "_law_j", "_law_shift"]
theorem sc_l_word : FnScope n_l_word ["_law_cell", "_law_k"] (defScope (top 16)) := ⟨rfl, rfl, rfl, by decide +kernel, rfl, by decide +kernel, by decide +kernel⟩
theorem g_l_word (T : Txt K mg) : FnD P w K mg base 2 "_law_word" f_l_word := fnD_of (Pp := PpN) [] T.a_l_word sc_l_word rfl fun f cdv A outer s H E hr =>
  (sb_cons (O1 := []) (ss_asg 2 sc_l_word.nd se_str)
    (sb_cons (O1 := []) (ss_asg 3 sc_l_word.nd (se_add se_int (se_mod (se_var 0) se_int)))
    (sb_cons (O1 := []) (ss_asg 4 sc_l_word.nd (se_mod (se_div (se_var 0) se_int) (se_var 3)))
    (sb_cons (O1 := []) (ss_asg 5 sc_l_word.nd se_str)
    (sb_cons (O1 := []) (ss_for PassesOwn.never rfl (si_rng1 T.f_range (sa_cons (se_var 3) sa_nil)) (sg_name 6 sc_l_word.nd)
    (sb_cons (O1 := []) (ss_asg 7 sc_l_word.nd se_int)
    (sb_cons (O1 := []) (ss_if (st_cmp (cd_eq hr) (se_var 6) (se_var 4))
    (sb_one (ss_asg 7 sc_l_word.nd (se_var 1)))
    sb_nil)
    (sb_one (ss_asg 5 sc_l_word.nd (se_add (se_var 5) (se_ix (se_var 2) (se_mod (se_add (se_add (se_div (se_var 0) se_int) (se_mul se_int (se_var 6))) (se_mul se_int (se_var 7))) se_int))))))))
    (sb_cons (O1 := []) (ss_if (st_cmp (cd_in hr) (se_var 5) (SE.ofO (so_lst (sa_cons se_str (sa_cons se_str (sa_cons se_str (sa_cons se_str (sa_cons se_str sa_nil))))))) (by rfl))
    (sb_one (ss_asg 5 sc_l_word.nd (se_add (se_sl (se_var 5) (sp_some se_int) sp_none) se_str)))
    sb_nil)
    (sb_one (ss_ret (se_var 5)))))))))
abbrev n_l_order : List Str := ["_law_script", "_law_first", "_law_n", "_law_order_here", "_law_w", "_law_cell", "_law_at", "_law_far"]
theorem sc_l_order : FnScope n_l_order ["_law_script", "_law_first", "_law_n"] (defScope (top 17)) := ⟨rfl, rfl, rfl, by decide +kernel, rfl, by decide +kernel, by decide +kernel⟩
theorem g_l_order (T : Txt K mg) : FnL P w K mg base 3 "_law_order" f_l_order := fnL_of (Pp := PpN) [.fz, .fz, .fz, .fz, .fz, .fz, .fz, .fz] T.a_l_order sc_l_order rfl fun f cdv A outer s H E hr =>
  (sb_cons (O1 := [.fz, .fz, .fz, .ol, .fz, .fz, .fz, .fz]) (ss_asgO 3 sc_l_order.nd (so_lst sa_nil))
    (sb_cons (O1 := [.fz, .fz, .fz, .ol, .fz, .fz, .fz, .fz]) (ss_for PassesOwn.never rfl (si_rng1 T.f_range (sa_cons (se_var 2) sa_nil)) (sg_name 4 sc_l_order.nd)
    (sb_cons (O1 := [.fz, .fz, .fz, .ol, .fz, .fz, .fz, .fz]) (ss_asg 5 sc_l_order.nd (se_call ((g_l_mix_2 T).mono (by decide)) hr (sa_cons (se_var 0) (sa_cons (se_add (se_var 1) (se_var 4)) sa_nil))))
    (sb_cons (O1 := [.fz, .fz, .fz, .ol, .fz, .fz, .fz, .fz]) (ss_asgB 6 sc_l_order.nd (se_mod (se_var 5) (se_add (se_blt bd_len T.f_len (sa_cons (se_var 3) sa_nil)) se_int)))
    (sb_cons (O1 := [.fz, .fz, .fz, .ol, .fz, .fz, .fz, .fz]) (ss_insB 3 (se_var 6) (se_var 4))
    (sb_cons (O1 := [.fz, .fz, .fz, .ol, .fz, .fz, .fz, .fz]) (ss_asgB 7 sc_l_order.nd (se_mod (se_div (se_var 5) se_int) (se_sub (se_blt bd_len T.f_len (sa_cons (se_var 3) sa_nil)) (se_var 6))))
    (sb_one (ss_insB 3 (se_add (se_add (se_var 6) se_int) (se_var 7)) (se_var 4))))))))
    (sb_one (ss_retV 3))))
abbrev n_l_arrows_2 : List Str := ["_law_script", "_law_first", "_law_many", "_law_size", "_law_pairs", "_law_k", "_law_cell", "_law_i", "_law_j"]
theorem sc_l_arrows_2 : FnScope n_l_arrows_2 ["_law_script", "_law_first", "_law_many", "_law_size"] (defScope (top 18)) := ⟨rfl, rfl, rfl, by decide +kernel, rfl, by decide +kernel, by decide +kernel⟩
theorem g_l_arrows_2 (T : Txt K mg) : FnL P w K mg base 3 "_law_arrows" f_l_arrows_2 := fnL_of (Pp := PpN) [.fz, .fz, .fz, .fz, .fz, .fz, .fz, .fz, .fz] T.a_l_arrows_2 sc_l_arrows_2 rfl fun f cdv A outer s H E hr =>
  (sb_cons (O1 := [.fz, .fz, .fz, .fz, .ol, .fz, .fz, .fz, .fz]) (ss_asgO 4 sc_l_arrows_2.nd (so_lst sa_nil))
    (sb_cons (O1 := [.fz, .fz, .fz, .fz, .ol, .fz, .fz, .fz, .fz]) (ss_for PassesOwn.never rfl (si_rng1 T.f_range (sa_cons (se_var 2) sa_nil)) (sg_name 5 sc_l_arrows_2.nd)
    (sb_cons (O1 := [.fz, .fz, .fz, .fz, .ol, .fz, .fz, .fz, .fz]) (ss_asg 6 sc_l_arrows_2.nd (se_call ((g_l_mix_2 T).mono (by decide)) hr (sa_cons (se_var 0) (sa_cons (se_add (se_var 1) (se_var 5)) sa_nil))))
    (sb_cons (O1 := [.fz, .fz, .fz, .fz, .ol, .fz, .fz, .fz, .fz]) (ss_asg 7 sc_l_arrows_2.nd (se_mod (se_var 6) (se_var 3)))
    (sb_cons (O1 := [.fz, .fz, .fz, .fz, .ol, .fz, .fz, .fz, .fz]) (ss_asg 8 sc_l_arrows_2.nd (se_mod (se_div (se_var 6) se_int) (se_var 3)))
    (sb_one (ss_if (SW.st (sw_and (st_cmp (cd_ne hr) (se_var 7) (se_var 8)) (sw_and1 (st_cmp (cd_nin hr) (se_tup (sa_cons (se_blt (bd_min2 rfl) T.f_min (sa_cons (se_var 7) (sa_cons (se_var 8) sa_nil))) (sa_cons (se_blt (bd_max2 rfl) T.f_max (sa_cons (se_var 7) (sa_cons (se_var 8) sa_nil))) sa_nil))) (se_var 4) (by rfl)))))
    (sb_one (ss_app 4 (se_tup (sa_cons (se_blt (bd_min2 rfl) T.f_min (sa_cons (se_var 7) (sa_cons (se_var 8) sa_nil))) (sa_cons (se_blt (bd_max2 rfl) T.f_max (sa_cons (se_var 7) (sa_cons (se_var 8) sa_nil))) sa_nil)))))
    sb_nil))))))
    (sb_one (ss_retV 4))))
abbrev n_l_graph_3 : List Str := ["_law_script", "_law_first", "_law_n", "_law_many", "_law_order_here", "_law_size", "_law_cell", "_law_pairs", "_law_w", "_law_takes", "_law_fills", "_law_marks", "_law_spots", "_law_code", "_law_seen", "_law_steps", "_law_turn", "_law_word_here", "_law_wires", "_law_one", "_law_two", "_law_i", "_law_j", "_law_d", "_law_k", "_law_pair"]
theorem sc_l_graph_3 : FnScope n_l_graph_3 ["_law_script", "_law_first", "_law_n", "_law_many"] (defScope (top 19)) := ⟨rfl, rfl, rfl, by decide +kernel, rfl, by decide +kernel, by decide +kernel⟩
theorem g_l_graph_3 (T : Txt K mg) : FnD P w K mg base 4 "_law_graph" f_l_graph_3 := fnD_of (Pp := PpN) [.fz, .fz, .fz, .fz, .fz, .fz, .fz, .fz, .fz, .fz, .fz, .fz, .fz, .fz, .fz, .fz, .fz, .fz, .fz, .fz, .fz, .fz, .fz, .fz, .fz, .fz] T.a_l_graph_3 sc_l_graph_3 rfl fun f cdv A outer s H E hr =>
  (sb_cons (O1 := [.fz, .fz, .fz, .fz, .fz, .fz, .fz, .fz, .fz, .fz, .fz, .fz, .fz, .fz, .fz, .fz, .fz, .fz, .fz, .fz, .fz, .fz, .fz, .fz, .fz, .fz]) (ss_asg 4 sc_l_graph_3.nd (SE.ofO (so_call ((g_l_order T).mono (by decide)) hr (sa_cons (se_var 0) (sa_cons (se_var 1) (sa_cons (se_var 2) sa_nil))))))
    (sb_cons (O1 := [.fz, .fz, .fz, .fz, .fz, .fz, .fz, .fz, .fz, .fz, .fz, .fz, .fz, .fz, .fz, .fz, .fz, .fz, .fz, .fz, .fz, .fz, .fz, .fz, .fz, .fz]) (ss_asg 5 sc_l_graph_3.nd (se_mul se_int (se_var 2)))
    (sb_cons (O1 := [.fz, .fz, .fz, .fz, .fz, .fz, .fz, .fz, .fz, .fz, .fz, .fz, .fz, .fz, .fz, .fz, .fz, .fz, .fz, .fz, .fz, .fz, .fz, .fz, .fz, .fz]) (ss_asg 6 sc_l_graph_3.nd (se_call ((g_l_mix_2 T).mono (by decide)) hr (sa_cons (se_var 0) (sa_cons (se_add (se_var 1) (se_var 2)) sa_nil))))
    (sb_cons (O1 := [.fz, .fz, .fz, .fz, .fz, .fz, .fz, .fz, .fz, .fz, .fz, .fz, .fz, .fz, .fz, .fz, .fz, .fz, .fz, .fz, .fz, .fz, .fz, .fz, .fz, .fz]) (ss_asg 7 sc_l_graph_3.nd (SE.ofO (so_call ((g_l_arrows_2 T).mono (by decide)) hr (sa_cons (se_var 0) (sa_cons (se_add (se_add (se_var 1) (se_var 2)) se_int) (sa_cons (se_var 3) (sa_cons (se_var 5) sa_nil)))))))
    (sb_cons (O1 := [.fz, .fz, .fz, .fz, .fz, .fz, .fz, .fz, .fz, .fz, .fz, .fz, .fz, .fz, .fz, .fz, .fz, .fz, .fz, .fz, .fz, .fz, .fz, .fz, .fz, .fz]) (ss_if (st_cmp (cd_eq hr) (se_mod (se_var 6) se_int) se_int)
    (sb_one (ss_asg 7 sc_l_graph_3.nd (se_add (se_var 7) (SE.ofO (so_lc [("_law_k", 24)] rfl sc_l_graph_3.nd (si_rng1 T.f_range (sa_cons (se_sub (se_var 5) se_int) sa_nil)) (blkOk_by (N := n_l_graph_3) (sc := defScope (top 19)) (by decide +kernel)) (fun _ _ _ _ _ => (sg_name 24 sc_l_graph_3.nd)) (fun _ _ _ _ _ => (sts_one (st_cmp (cd_nin hr) (se_tup (sa_cons (se_var 24) (sa_cons (se_add (se_var 24) se_int) sa_nil))) (se_var 7) (by rfl)))) (fun _ _ _ _ _ => (se_tup (sa_cons (se_var 24) (sa_cons (se_add (se_var 24) se_int) sa_nil)))))))))
    sb_nil)
    (sb_cons (O1 := [.fz, .fz, .fz, .fz, .fz, .fz, .fz, .fz, .fz, .fz, .fz, .fz, .fz, .fz, .fz, .fz, .fz, .fz, .fz, .fz, .fz, .fz, .fz, .fz, .fz, .fz]) (ss_for PassesOwn.never rfl (si_rng1 T.f_range (sa_cons (se_var 2) sa_nil)) (sg_name 8 sc_l_graph_3.nd)
    (sb_cons (O1 := [.fz, .fz, .fz, .fz, .fz, .fz, .fz, .fz, .fz, .fz, .fz, .fz, .fz, .fz, .fz, .fz, .fz, .fz, .fz, .fz, .fz, .fz, .fz, .fz, .fz, .fz]) (ss_asg 19 sc_l_graph_3.nd (se_index (se_var 4) (se_var 8)))
    (sb_cons (O1 := [.fz, .fz, .fz, .fz, .fz, .fz, .fz, .fz, .fz, .fz, .fz, .fz, .fz, .fz, .fz, .fz, .fz, .fz, .fz, .fz, .fz, .fz, .fz, .fz, .fz, .fz]) (ss_asg 20 sc_l_graph_3.nd (se_add (se_add (se_var 19) se_int) (se_index (se_sl (se_var 4) (sp_some (se_add (se_var 19) se_int)) sp_none) (se_var 8))))
    (sb_one (ss_asg 7 sc_l_graph_3.nd (se_add (SE.ofO (so_lc [("_law_pair", 25)] rfl sc_l_graph_3.nd (si_seq (se_var 7)) (blkOk_by (N := n_l_graph_3) (sc := defScope (top 19)) (by decide +kernel)) (fun _ _ _ _ _ => (sg_name 25 sc_l_graph_3.nd)) (fun _ _ _ _ _ => (sts_one (st_cmp (cd_ne hr) (se_var 25) (se_tup (sa_cons (se_var 19) (sa_cons (se_var 20) sa_nil)))))) (fun _ _ _ _ _ => (se_var 25)))) (SE.ofO (so_lst (sa_cons (se_tup (sa_cons (se_var 19) (sa_cons (se_var 20) sa_nil))) sa_nil)))))))))
    (sb_cons (O1 := [.fz, .fz, .fz, .fz, .fz, .fz, .fz, .fz, .fz, .oll, .fz, .fz, .fz, .fz, .fz, .fz, .fz, .fz, .fz, .fz, .fz, .fz, .fz, .fz, .fz, .fz]) (ss_nest 9 23 [("_law_d", 23)] rfl rfl sc_l_graph_3.nd (si_seq (se_var 4)) (blkOk_by (N := n_l_graph_3) (sc := defScope (top 19)) (by decide +kernel)) (fun _ _ _ _ _ => (sg_name 23 sc_l_graph_3.nd)))
    (sb_cons (O1 := [.fz, .fz, .fz, .fz, .fz, .fz, .fz, .fz, .fz, .oll, .oll, .fz, .fz, .fz, .fz, .fz, .fz, .fz, .fz, .fz, .fz, .fz, .fz, .fz, .fz, .fz]) (ss_nest 10 23 [("_law_d", 23)] rfl rfl sc_l_graph_3.nd (si_seq (se_var 4)) (blkOk_by (N := n_l_graph_3) (sc := defScope (top 19)) (by decide +kernel)) (fun _ _ _ _ _ => (sg_name 23 sc_l_graph_3.nd)))
    (sb_cons (O1 := [.fz, .fz, .fz, .fz, .fz, .fz, .fz, .fz, .fz, .oll, .oll, .fz, .fz, .fz, .fz, .fz, .fz, .fz, .fz, .fz, .fz, .fz, .fz, .fz, .fz, .fz]) (ss_asg 11 sc_l_graph_3.nd se_int)
    (sb_cons (O1 := [.fz, .fz, .fz, .fz, .fz, .fz, .fz, .fz, .fz, .oll, .oll, .fz, .fz, .fz, .fz, .fz, .fz, .fz, .fz, .fz, .fz, .fz, .fz, .fz, .fz, .fz]) (ss_asg 12 sc_l_graph_3.nd (se_mod (se_div (se_var 6) se_int) se_int))
    (sb_cons (O1 := [.fz, .fz, .fz, .fz, .fz, .fz, .fz, .fz, .fz, .fz, .fz, .fz, .fz, .fz, .fz, .fz, .fz, .fz, .fz, .fz, .fz, .fz, .fz, .fz, .fz, .fz]) (ss_for PassesOwn.never rfl (si_seq (se_var 7)) (sg_tup sc_l_graph_3.nd rfl (nm_cons 21 (nm_cons 22 .nil)))
    (sb_cons (O1 := [.fz, .fz, .fz, .fz, .fz, .fz, .fz, .fz, .fz, .oll, .oll, .fz, .fz, .fz, .fz, .fz, .fz, .fz, .fz, .fz, .fz, .fz, .fz, .fz, .fz, .fz]) (ss_appIn 10 (se_var 21) (se_var 12))
    (sb_cons (O1 := [.fz, .fz, .fz, .fz, .fz, .fz, .fz, .fz, .fz, .oll, .oll, .fz, .fz, .fz, .fz, .fz, .fz, .fz, .fz, .fz, .fz, .fz, .fz, .fz, .fz, .fz]) (ss_appIn 9 (se_var 22) (se_var 12))
    (sb_cons (O1 := [.fz, .fz, .fz, .fz, .fz, .fz, .fz, .fz, .fz, .oll, .oll, .fz, .fz, .fz, .fz, .fz, .fz, .fz, .fz, .fz, .fz, .fz, .fz, .fz, .fz, .fz]) (ss_appIn 10 (se_var 22) (se_add (se_var 12) se_int))
    (sb_cons (O1 := [.fz, .fz, .fz, .fz, .fz, .fz, .fz, .fz, .fz, .oll, .oll, .fz, .fz, .fz, .fz, .fz, .fz, .fz, .fz, .fz, .fz, .fz, .fz, .fz, .fz, .fz]) (ss_appIn 9 (se_var 21) (se_add (se_var 12) se_int))
    (sb_cons (O1 := [.fz, .fz, .fz, .fz, .fz, .fz, .fz, .fz, .fz, .oll, .oll, .fz, .fz, .fz, .fz, .fz, .fz, .fz, .fz, .fz, .fz, .fz, .fz, .fz, .fz, .fz]) (ss_asg 11 sc_l_graph_3.nd (se_or (se_var 11) (se_shl se_int (se_add (se_var 12) se_int))))
    (sb_one (ss_asg 12 sc_l_graph_3.nd (se_add (se_var 12) se_int)))))))))
    (sb_cons (O1 := [.fz, .fz, .fz, .fz, .fz, .fz, .fz, .fz, .fz, .fz, .fz, .fz, .fz, .fz, .fz, .fz, .fz, .fz, .fz, .fz, .fz, .fz, .fz, .fz, .fz, .fz]) (ss_asg 13 sc_l_graph_3.nd (se_mod (se_div (se_var 6) se_int) (se_shl se_int (se_var 2))))
    (sb_cons (O1 := [.fz, .fz, .fz, .fz, .fz, .fz, .fz, .fz, .fz, .fz, .fz, .fz, .fz, .fz, .fz, .fz, .fz, .fz, .fz, .fz, .fz, .fz, .fz, .fz, .fz, .fz]) (ss_asg 14 sc_l_graph_3.nd (se_var 13))
    (sb_cons (O1 := [.fz, .fz, .fz, .fz, .fz, .fz, .fz, .fz, .fz, .fz, .fz, .fz, .fz, .fz, .fz, .ol, .fz, .fz, .fz, .fz, .fz, .fz, .fz, .fz, .fz, .fz]) (ss_asgO 15 sc_l_graph_3.nd (so_lst sa_nil))
    (sb_cons (O1 := [.fz, .fz, .fz, .fz, .fz, .fz, .fz, .fz, .fz, .fz, .fz, .fz, .fz, .fz, .fz, .fz, .fz, .fz, .fz, .fz, .fz, .fz, .fz, .fz, .fz, .fz]) (ss_for PassesOwn.never rfl (si_enum T.f_enumerate (sa_cons (se_var 4) sa_nil)) (sg_tup sc_l_graph_3.nd rfl (nm_cons 23 (nm_cons 8 .nil)))
    (sb_cons (O1 := [.fz, .fz, .fz, .fz, .fz, .fz, .fz, .fz, .fz, .fz, .fz, .fz, .fz, .fz, .fz, .ol, .fz, .fz, .fz, .fz, .fz, .fz, .fz, .fz, .fz, .fz]) (ss_app 15 (se_tup (sa_cons (se_var 8) (sa_cons (se_cmp (cd_eq hr) (se_and (se_shr (se_var 14) (se_var 8)) se_int) se_int) (sa_cons (se_blt bd_tuple T.f_tuple (sa_cons (SE.ofO (so_blt bo_sortI T.f_sorted (sa_cons (se_ix (se_var 9) (se_var 23)) sa_nil))) sa_nil)) (sa_cons (se_blt bd_tuple T.f_tuple (sa_cons (SE.ofO (so_blt bo_sortI T.f_sorted (sa_cons (se_ix (se_var 10) (se_var 23)) sa_nil))) sa_nil)) sa_nil))))))
    (sb_one (ss_asg 14 sc_l_graph_3.nd (se_xor (se_var 14) (se_shl se_int (se_var 8)))))))
    (sb_cons (O1 := [.fz, .fz, .fz, .fz, .fz, .fz, .fz, .fz, .fz, .fz, .fz, .fz, .fz, .fz, .fz, .fz, .fz, .fz, .fz, .fz, .fz, .fz, .fz, .fz, .fz, .fz]) (ss_asg 16 sc_l_graph_3.nd (se_mod (se_div (se_var 6) se_int) (se_var 5)))
    (sb_cons (O1 := [.fz, .fz, .fz, .fz, .fz, .fz, .fz, .fz, .fz, .fz, .fz, .fz, .fz, .fz, .fz, .fz, .fz, .fz, .fz, .fz, .fz, .fz, .fz, .fz, .fz, .fz]) (ss_asg 15 sc_l_graph_3.nd (se_add (se_sl (se_var 15) (sp_some (se_var 16)) sp_none) (se_sl (se_var 15) sp_none (sp_some (se_var 16)))))
    (sb_cons (O1 := [.fz, .fz, .fz, .fz, .fz, .fz, .fz, .fz, .fz, .fz, .fz, .fz, .fz, .fz, .fz, .fz, .fz, .fz, .fz, .fz, .fz, .fz, .fz, .fz, .fz, .fz]) (ss_asg 17 sc_l_graph_3.nd (se_div (se_var 6) se_int))
    (sb_cons (O1 := [.fz, .fz, .fz, .fz, .fz, .fz, .fz, .fz, .fz, .fz, .fz, .fz, .fz, .fz, .fz, .fz, .fz, .fz, .fz, .fz, .fz, .fz, .fz, .fz, .fz, .fz]) (ss_asgC 18 (soa_lc 18 [("_law_w", 8)] rfl sc_l_graph_3.nd (si_rng1 T.f_range (sa_cons (se_var 2) sa_nil)) (blkOk_by (N := n_l_graph_3) (sc := defScope (top 19)) (by decide +kernel)) (fun _ _ _ _ _ => (sg_name 8 sc_l_graph_3.nd)) (fun _ _ _ _ _ => sts_nil) (fun _ _ _ _ _ => (se_tup (sa_cons (se_call ((g_l_word T).mono (by decide)) hr (sa_cons (se_var 17) (sa_cons (se_var 8) sa_nil))) (sa_cons (se_ix (SE.ofO (so_lst (sa_cons se_str (sa_cons se_str sa_nil)))) (se_mod (se_div (se_call ((g_l_mix_2 T).mono (by decide)) hr (sa_cons (se_var 0) (sa_cons (se_add (se_var 1) (se_var 8)) sa_nil))) se_int) se_int)) sa_nil))))))
    (sb_one (ss_ret (se_tup (sa_cons (se_blt bd_tuple T.f_tuple (sa_cons (se_var 18) sa_nil)) (sa_cons (se_blt bd_tuple T.f_tuple (sa_cons (se_var 15) sa_nil)) (sa_cons (se_var 11) (sa_cons (se_var 13) sa_nil))))))))))))))))))))))))))
abbrev n_l_can_3 : List Str := ["_law_graph_here", "_law_stand", "_law_step", "_law_takes", "_law_spot"]
theorem sc_l_can_3 : FnScope n_l_can_3 ["_law_graph_here", "_law_stand", "_law_step"] (defScope (top 20)) := ⟨rfl, rfl, rfl, by decide +kernel, rfl, by decide +kernel, by decide +kernel⟩
theorem g_l_can_3 (T : Txt K mg) : FnD P w K mg base 2 "_law_can" f_l_can_3 := fnD_of (Pp := PpN) [] T.a_l_can_3 sc_l_can_3 rfl fun f cdv A outer s H E hr =>
  (sb_cons (O1 := []) (ss_asg 3 sc_l_can_3.nd (se_ix (se_ix (se_ix (se_var 0) se_int) (se_var 2)) se_int))
    (sb_one (ss_ret (se_cmp (cd_eq hr) (se_blt bd_len T.f_len (sa_cons (SE.ofO (so_lc [("_law_spot", 4)] rfl sc_l_can_3.nd (si_seq (se_var 3)) (blkOk_by (N := n_l_can_3) (sc := defScope (top 20)) (by decide +kernel)) (fun _ _ _ _ _ => (sg_name 4 sc_l_can_3.nd)) (fun _ _ _ _ _ => (sts_one (st_cmp (cd_eq hr) (se_and (se_shr (se_ix (se_var 1) se_int) (se_var 4)) se_int) se_int))) (fun _ _ _ _ _ => (se_var 4)))) sa_nil)) (se_blt bd_len T.f_len (sa_cons (se_var 3) sa_nil))))))
abbrev n_l_behind_2 : List Str := ["_law_graph_here", "_law_stand", "_law_step", "_law_marks", "_law_spot", "_law_wire", "_law_up_here", "_law_takes", "_law_fills"]
theorem sc_l_behind_2 : FnScope n_l_behind_2 ["_law_graph_here", "_law_stand", "_law_step"] (defScope (top 21)) := ⟨rfl, rfl, rfl, by decide +kernel, rfl, by decide +kernel, by decide +kernel⟩
theorem g_l_behind_2 (T : Txt K mg) : FnD P w K mg base 2 "_law_behind" f_l_behind_2 := fnD_of (Pp := PpN) [] T.a_l_behind_2 sc_l_behind_2 rfl fun f cdv A outer s H E hr =>
  (sb_cons (O1 := []) (ss_asgT (sg_tup sc_l_behind_2.nd rfl (nm_cons 5 (nm_cons 6 (nm_cons 7 (nm_cons 8 .nil))))) (se_ix (se_ix (se_var 0) se_int) (se_var 2)))
    (sb_cons (O1 := []) (ss_asg 3 sc_l_behind_2.nd (se_ix (se_var 1) se_int))
    (sb_cons (O1 := []) (ss_for PassesOwn.never rfl (si_seq (se_var 7)) (sg_name 4 sc_l_behind_2.nd)
    (sb_one (ss_asg 3 sc_l_behind_2.nd (se_xor (se_var 3) (se_shl se_int (se_var 4))))))
    (sb_cons (O1 := []) (ss_for PassesOwn.never rfl (si_seq (se_var 8)) (sg_name 4 sc_l_behind_2.nd)
    (sb_one (ss_asg 3 sc_l_behind_2.nd (se_or (se_var 3) (se_shl se_int (se_var 4))))))
    (sb_one (ss_ret (se_tup (sa_cons (se_var 3) (sa_cons (se_xor (se_ix (se_var 1) se_int) (se_shl se_int (se_var 5))) sa_nil)))))))))
abbrev n_l_stands : List Str := ["_law_graph_here", "_law_some", "_law_seen", "_law_at", "_law_step", "_law_there"]
theorem sc_l_stands : FnScope n_l_stands ["_law_graph_here"] (defScope (top 22)) := ⟨rfl, rfl, rfl, by decide +kernel, rfl, by decide +kernel, by decide +kernel⟩
theorem g_l_stands (T : Txt K mg) : FnL P w K mg base 3 "_law_stands" f_l_stands := fnL_of (Pp := PpN) [.fz, .fz, .fz, .fz, .fz, .fz] T.a_l_stands sc_l_stands rfl fun f cdv A outer s H E hr =>
  (sb_cons (O1 := [.fz, .ol, .fz, .fz, .fz, .fz]) (ss_asgO 1 sc_l_stands.nd (so_lst (sa_cons (se_tup (sa_cons (se_ix (se_var 0) se_int) (sa_cons (se_ix (se_var 0) se_int) sa_nil))) sa_nil)))
    (sb_cons (O1 := [.fz, .ol, .od, .fz, .fz, .fz]) (ss_dnewB 2 hr sc_l_stands.nd (se_ix (se_var 1) se_int) se_bl)
    (sb_cons (O1 := [.fz, .ol, .od, .fz, .fz, .fz]) (ss_asg 3 sc_l_stands.nd se_int)
    (sb_cons (O1 := [.fz, .ol, .fz, .fz, .fz, .fz]) (ss_while PassesOwn.never (st_cmp cd_lt (se_var 3) (se_blt bd_len T.f_len (sa_cons (se_var 1) sa_nil)))
    (sb_cons (O1 := [.fz, .ol, .od, .fz, .fz, .fz]) (ss_for PassesOwn.never rfl (si_rng1 T.f_range (sa_cons (se_blt bd_len T.f_len (sa_cons (se_ix (se_var 0) se_int) sa_nil)) sa_nil)) (sg_name 4 sc_l_stands.nd)
    (sb_one (ss_if (st_tru (se_call ((g_l_can_3 T).mono (by decide)) hr (sa_cons (se_var 0) (sa_cons (se_ix (se_var 1) (se_var 3)) (sa_cons (se_var 4) sa_nil)))))
    (sb_cons (O1 := [.fz, .ol, .od, .fz, .fz, .fz]) (ss_asgB 5 sc_l_stands.nd (se_call ((g_l_behind_2 T).mono (by decide)) hr (sa_cons (se_var 0) (sa_cons (se_ix (se_var 1) (se_var 3)) (sa_cons (se_var 4) sa_nil)))))
    (sb_one (ss_if (st_cmp (cd_dnin hr) (se_var 5) (se_var 2) (by rfl))
    (sb_cons (O1 := [.fz, .ol, .od, .fz, .fz, .fz]) (ss_dput 2 hr (se_var 5) se_bl)
    (sb_one (ss_app 1 (se_var 5))))
    sb_nil)))
    sb_nil)))
    (sb_one (ss_asg 3 sc_l_stands.nd (se_add (se_var 3) se_int)))))
    (sb_one (ss_retV 1))))))
abbrev n_l_want : List Str := ["_law_graph_here", "_law_stand", "_law_wire", "_law_step"]
theorem sc_l_want : FnScope n_l_want ["_law_graph_here", "_law_stand", "_law_wire"] (defScope (top 23)) := ⟨rfl, rfl, rfl, by decide +kernel, rfl, by decide +kernel, by decide +kernel⟩
theorem g_l_want (T : Txt K mg) : FnD P w K mg base 3 "_law_want" f_l_want := fnD_of (Pp := PpN) [] T.a_l_want sc_l_want rfl fun f cdv A outer s H E hr =>
  (sb_cons (O1 := []) (ss_for PassesOwn.never rfl (si_rng1 T.f_range (sa_cons (se_blt bd_len T.f_len (sa_cons (se_ix (se_var 0) se_int) sa_nil)) sa_nil)) (sg_name 3 sc_l_want.nd)
    (sb_one (ss_if (SW.st (sw_and (st_cmp (cd_eq hr) (se_ix (se_ix (se_ix (se_var 0) se_int) (se_var 3)) se_int) (se_var 2)) (sw_and1 (st_tru (se_call ((g_l_can_3 T).mono (by decide)) hr (sa_cons (se_var 0) (sa_cons (se_var 1) (sa_cons (se_var 3) sa_nil))))))))
    (sb_one (ss_ret (se_ix (SE.ofO (so_lst (sa_cons (se_neg se_int) (sa_cons se_int sa_nil)))) (se_blt bd_int T.f_int (sa_cons (se_ix (se_ix (se_ix (se_var 0) se_int) (se_var 3)) se_int) sa_nil)))))
    sb_nil)))
    (sb_one (ss_ret se_int)))
abbrev n_l_choice_3 : List Str := ["_law_script", "_law_first", "_law_head", "_law_many", "_law_own", "_law_least", "_law_wires", "_law_steps", "_law_spots", "_law_k", "_law_cell", "_law_chain", "_law_back", "_law_both", "_law_last", "_law_at", "_law_deed", "_law_fill", "_law_j", "_law_wire"]
theorem sc_l_choice_3 : FnScope n_l_choice_3 ["_law_script", "_law_first"] (defScope (top 24)) := ⟨rfl, rfl, rfl, by decide +kernel, rfl, by decide +kernel, by decide +kernel⟩
theorem g_l_choice_3 (T : Txt K mg) : FnD P w K mg base 3 "_law_choice" f_l_choice_3 := fnD_of (Pp := PpN) [.fz, .fz, .fz, .fz, .fz, .fz, .fz, .fz, .fz, .fz, .fz, .fz, .fz, .fz, .fz, .fz, .fz, .fz, .fz, .fz] T.a_l_choice_3 sc_l_choice_3 rfl fun f cdv A outer s H E hr =>
  (sb_cons (O1 := [.fz, .fz, .fz, .fz, .fz, .fz, .fz, .fz, .fz, .fz, .fz, .fz, .fz, .fz, .fz, .fz, .fz, .fz, .fz, .fz]) (ss_asg 2 sc_l_choice_3.nd (se_call ((g_l_mix_2 T).mono (by decide)) hr (sa_cons (se_var 0) (sa_cons (se_var 1) sa_nil))))
    (sb_cons (O1 := [.fz, .fz, .fz, .fz, .fz, .fz, .fz, .fz, .fz, .fz, .fz, .fz, .fz, .fz, .fz, .fz, .fz, .fz, .fz, .fz]) (ss_asg 3 sc_l_choice_3.nd (se_add se_int (se_mod (se_var 2) se_int)))
    (sb_cons (O1 := [.fz, .fz, .fz, .fz, .fz, .fz, .fz, .fz, .fz, .fz, .fz, .fz, .fz, .fz, .fz, .fz, .fz, .fz, .fz, .fz]) (ss_asg 4 sc_l_choice_3.nd (se_add se_int (se_mod (se_div (se_var 2) se_int) se_int)))
    (sb_cons (O1 := [.fz, .fz, .fz, .fz, .fz, .fz, .fz, .fz, .fz, .fz, .fz, .fz, .fz, .fz, .fz, .fz, .fz, .fz, .fz, .fz]) (ss_asg 5 sc_l_choice_3.nd (se_ix (SE.ofO (so_lst (sa_cons (se_var 3) (sa_cons se_int sa_nil)))) (se_mod (se_div (se_var 2) se_int) se_int)))
    (sb_cons (O1 := [.fz, .fz, .fz, .fz, .fz, .fz, .fz, .fz, .fz, .fz, .fz, .fz, .fz, .fz, .fz, .fz, .fz, .fz, .fz, .fz]) (ss_asgC 6 (soa_lc 6 [("_law_k", 9)] rfl sc_l_choice_3.nd (si_rng1 T.f_range (sa_cons (se_var 5) sa_nil)) (blkOk_by (N := n_l_choice_3) (sc := defScope (top 24)) (by decide +kernel)) (fun _ _ _ _ _ => (sg_name 9 sc_l_choice_3.nd)) (fun _ _ _ _ _ => sts_nil) (fun _ _ _ _ _ => (se_tup (sa_cons (se_call ((g_l_word T).mono (by decide)) hr (sa_cons (se_div (se_var 2) se_int) (sa_cons (se_var 9) sa_nil))) (sa_cons se_str sa_nil))))))
    (sb_cons (O1 := [.fz, .fz, .fz, .fz, .fz, .fz, .fz, .fz, .fz, .fz, .fz, .fz, .fz, .fz, .fz, .fz, .fz, .fz, .fz, .fz]) (ss_asg 6 sc_l_choice_3.nd (se_add (se_var 6) (SE.ofO (so_lc [("_law_k", 9)] rfl sc_l_choice_3.nd (si_rng1 T.f_range (sa_cons (se_var 4) sa_nil)) (blkOk_by (N := n_l_choice_3) (sc := defScope (top 24)) (by decide +kernel)) (fun _ _ _ _ _ => (sg_name 9 sc_l_choice_3.nd)) (fun _ _ _ _ _ => sts_nil) (fun _ _ _ _ _ => (se_tup (sa_cons (se_call ((g_l_word T).mono (by decide)) hr (sa_cons (se_div (se_var 2) se_int) (sa_cons (se_add (se_var 5) (se_var 9)) sa_nil))) (sa_cons se_str sa_nil))))))))
    (sb_cons (O1 := [.fz, .fz, .fz, .fz, .fz, .fz, .fz, .ol, .fz, .fz, .fz, .fz, .fz, .fz, .fz, .fz, .fz, .fz, .fz, .fz]) (ss_asgO 7 sc_l_choice_3.nd (so_lst sa_nil))
    (sb_cons (O1 := [.fz, .fz, .fz, .fz, .fz, .fz, .fz, .ol, .fz, .fz, .fz, .fz, .fz, .fz, .fz, .fz, .fz, .fz, .fz, .fz]) (ss_asg 8 sc_l_choice_3.nd se_int)
    (sb_cons (O1 := [.fz, .fz, .fz, .fz, .fz, .fz, .fz, .fz, .fz, .fz, .fz, .fz, .fz, .fz, .fz, .fz, .fz, .fz, .fz, .fz]) (ss_for PassesOwn.never rfl (si_rng1 T.f_range (sa_cons (se_var 3) sa_nil)) (sg_name 9 sc_l_choice_3.nd)
    (sb_cons (O1 := [.fz, .fz, .fz, .fz, .fz, .fz, .fz, .ol, .fz, .fz, .fz, .fz, .fz, .fz, .fz, .fz, .fz, .fz, .fz, .fz]) (ss_asg 10 sc_l_choice_3.nd (se_call ((g_l_mix_2 T).mono (by decide)) hr (sa_cons (se_var 0) (sa_cons (se_add (se_add (se_var 1) se_int) (se_var 9)) sa_nil))))
    (sb_cons (O1 := [.fz, .fz, .fz, .fz, .fz, .fz, .fz, .ol, .fz, .fz, .fz, .fz, .fz, .fz, .fz, .fz, .fz, .fz, .fz, .fz]) (ss_asgC 11 (soa_lc 11 [("_law_j", 18)] rfl sc_l_choice_3.nd (si_rng1 T.f_range (sa_cons (se_var 4) sa_nil)) (blkOk_by (N := n_l_choice_3) (sc := defScope (top 24)) (by decide +kernel)) (fun _ _ _ _ _ => (sg_name 18 sc_l_choice_3.nd)) (fun _ _ _ _ _ => sts_nil) (fun _ _ _ _ _ => (se_add (se_var 5) (se_mod (se_add (se_var 10) (se_var 18)) (se_var 4))))))
    (sb_cons (O1 := [.fz, .fz, .fz, .fz, .fz, .fz, .fz, .ol, .fz, .fz, .fz, .fz, .fz, .fz, .fz, .fz, .fz, .fz, .fz, .fz]) (ss_asgC 12 (soa_lc 12 [("_law_j", 18)] rfl sc_l_choice_3.nd (si_rng1 T.f_range (sa_cons (se_var 4) sa_nil)) (blkOk_by (N := n_l_choice_3) (sc := defScope (top 24)) (by decide +kernel)) (fun _ _ _ _ _ => (sg_name 18 sc_l_choice_3.nd)) (fun _ _ _ _ _ => sts_nil) (fun _ _ _ _ _ => (se_add (se_var 5) (se_mod (se_add (se_div (se_var 10) se_int) (se_var 18)) (se_var 4))))))
    (sb_cons (O1 := [.fz, .fz, .fz, .fz, .fz, .fz, .fz, .ol, .fz, .fz, .fz, .fz, .fz, .ol, .fz, .fz, .fz, .fz, .fz, .fz]) (ss_asgO 13 sc_l_choice_3.nd (so_cat (SE.ofO (so_lc [("_law_wire", 19)] rfl sc_l_choice_3.nd (si_seq (se_var 11)) (blkOk_by (N := n_l_choice_3) (sc := defScope (top 24)) (by decide +kernel)) (fun _ _ _ _ _ => (sg_name 19 sc_l_choice_3.nd)) (fun _ _ _ _ _ => sts_nil) (fun _ _ _ _ _ => (se_tup (sa_cons (se_var 19) (sa_cons se_bl sa_nil)))))) (SE.ofO (so_lc [("_law_wire", 19)] rfl sc_l_choice_3.nd (si_seq (se_var 12)) (blkOk_by (N := n_l_choice_3) (sc := defScope (top 24)) (by decide +kernel)) (fun _ _ _ _ _ => (sg_name 19 sc_l_choice_3.nd)) (fun _ _ _ _ _ => sts_nil) (fun _ _ _ _ _ => (se_tup (sa_cons (se_var 19) (sa_cons se_bl sa_nil))))))))
    (sb_cons (O1 := [.fz, .fz, .fz, .fz, .fz, .fz, .fz, .ol, .fz, .fz, .fz, .fz, .fz, .fz, .fz, .fz, .fz, .fz, .fz, .fz]) (ss_insB 13 (se_mod (se_div (se_var 10) se_int) (se_add (se_blt bd_len T.f_len (sa_cons (se_var 13) sa_nil)) se_int)) (se_tup (sa_cons (se_mod (se_var 9) (se_var 5)) (sa_cons se_bl sa_nil))))
    (sb_cons (O1 := [.fz, .fz, .fz, .fz, .fz, .fz, .fz, .ol, .fz, .fz, .fz, .fz, .fz, .fz, .fz, .fz, .fz, .fz, .fz, .fz]) (ss_asg 14 sc_l_choice_3.nd se_int)
    (sb_one (ss_for PassesOwn.never rfl (si_enum T.f_enumerate (sa_cons (se_add (SE.ofO (so_lst (sa_cons (se_tup (sa_cons (se_mod (se_var 9) (se_var 5)) (sa_cons se_bl sa_nil))) sa_nil))) (se_var 13)) sa_nil)) (sg_tup sc_l_choice_3.nd rfl (nm_cons 15 (nm_cons 16 .nil)))
    (sb_cons (O1 := [.fz, .fz, .fz, .fz, .fz, .fz, .fz, .ol, .fz, .fz, .fz, .fz, .fz, .fz, .fz, .fz, .fz, .fz, .fz, .fz]) (ss_asg 17 sc_l_choice_3.nd (se_var 8))
    (sb_cons (O1 := [.fz, .fz, .fz, .fz, .fz, .fz, .fz, .ol, .fz, .fz, .fz, .fz, .fz, .fz, .fz, .fz, .fz, .fz, .fz, .fz]) (ss_if (st_cmp (cd_eq hr) (se_var 15) (se_blt bd_len T.f_len (sa_cons (se_var 13) sa_nil)))
    (sb_one (ss_asg 17 sc_l_choice_3.nd se_int))
    sb_nil)
    (sb_cons (O1 := [.fz, .fz, .fz, .fz, .fz, .fz, .fz, .ol, .fz, .fz, .fz, .fz, .fz, .fz, .fz, .fz, .fz, .fz, .fz, .fz]) (ss_app 7 (se_tup (sa_cons (se_ix (se_var 16) se_int) (sa_cons (se_ix (se_var 16) se_int) (sa_cons (se_tup (sa_cons (se_var 14) sa_nil)) (sa_cons (se_tup (sa_cons (se_var 17) sa_nil)) sa_nil))))))
    (sb_cons (O1 := [.fz, .fz, .fz, .fz, .fz, .fz, .fz, .ol, .fz, .fz, .fz, .fz, .fz, .fz, .fz, .fz, .fz, .fz, .fz, .fz]) (ss_asg 14 sc_l_choice_3.nd (se_var 17))
    (sb_one (ss_asg 8 sc_l_choice_3.nd (se_add (se_var 8) se_int))))))))))))))))
    (sb_one (ss_ret (se_tup (sa_cons (se_blt bd_tuple T.f_tuple (sa_cons (se_var 6) sa_nil)) (sa_cons (se_blt bd_tuple T.f_tuple (sa_cons (se_var 7) sa_nil)) (sa_cons se_int (sa_cons se_int sa_nil))))))))))))))))
abbrev n_l_wider : List Str := ["_law_graph_here", "_law_at", "_law_kind", "_law_up_here", "_law_word_here", "_law_low", "_law_code", "_law_rows", "_law_wires", "_law_steps", "_law_marks", "_law_wire", "_law_rise", "_law_takes", "_law_fills"]
theorem sc_l_wider : FnScope n_l_wider ["_law_graph_here", "_law_at", "_law_kind", "_law_up_here", "_law_word_here"] (defScope (top 25)) := ⟨rfl, rfl, rfl, by decide +kernel, rfl, by decide +kernel, by decide +kernel⟩
theorem g_l_wider (T : Txt K mg) : FnD P w K mg base 2 "_law_wider" f_l_wider := fnD_of (Pp := PpN) [] T.a_l_wider sc_l_wider rfl fun f cdv A outer s H E hr =>
  (sb_cons (O1 := []) (ss_asgT (sg_tup sc_l_wider.nd rfl (nm_cons 8 (nm_cons 9 (nm_cons 10 (nm_cons 6 .nil))))) (se_var 0))
    (sb_cons (O1 := []) (ss_asg 5 sc_l_wider.nd (se_and (se_var 6) (se_sub (se_shl se_int (se_var 1)) se_int)))
    (sb_cons (O1 := []) (ss_asg 6 sc_l_wider.nd (se_or (se_or (se_var 5) (se_shl (se_blt bd_int T.f_int (sa_cons (se_var 3) sa_nil)) (se_var 1))) (se_shl (se_shr (se_var 6) (se_var 1)) (se_add (se_var 1) se_int))))
    (sb_cons (O1 := []) (ss_asgC 7 (soa_lc 7 [("_law_wire", 11), ("_law_rise", 12), ("_law_takes", 13), ("_law_fills", 14)] rfl sc_l_wider.nd (si_seq (se_var 9)) (blkOk_by (N := n_l_wider) (sc := defScope (top 25)) (by decide +kernel)) (fun _ _ _ _ _ => (sg_tup sc_l_wider.nd rfl (nm_cons 11 (nm_cons 12 (nm_cons 13 (nm_cons 14 .nil)))))) (fun _ _ _ _ _ => sts_nil) (fun _ _ _ _ _ => (se_tup (sa_cons (se_add (se_var 11) (se_blt bd_int T.f_int (sa_cons (se_cmp cd_ge (se_var 11) (se_var 1)) sa_nil))) (sa_cons (se_var 12) (sa_cons (se_var 13) (sa_cons (se_var 14) sa_nil))))))))
    (sb_one (ss_ret (se_tup (sa_cons (se_add (se_add (se_sl (se_var 8) sp_none (sp_some (se_var 1))) (se_tup (sa_cons (se_tup (sa_cons (se_var 4) (sa_cons (se_var 2) sa_nil))) sa_nil))) (se_sl (se_var 8) (sp_some (se_var 1)) sp_none)) (sa_cons (se_blt bd_tuple T.f_tuple (sa_cons (se_var 7) sa_nil)) (sa_cons (se_var 10) (sa_cons (se_var 6) sa_nil)))))))))))
abbrev n_l_lookers_4 : List Str := ["_law_graph_here", "_law_cell", "_law_there", "_law_spot", "_law_steps", "_law_wire", "_law_up_here", "_law_takes", "_law_fills", "_law_k", "_law_step", "_law_p"]
theorem sc_l_lookers_4 : FnScope n_l_lookers_4 ["_law_graph_here", "_law_cell"] (defScope (top 26)) := ⟨rfl, rfl, rfl, by decide +kernel, rfl, by decide +kernel, by decide +kernel⟩
theorem g_l_lookers_4 (T : Txt K mg) : FnD P w K mg base 2 "_law_lookers" f_l_lookers_4 := fnD_of (Pp := PpN) [.fz, .fz, .fz, .fz, .fz, .fz, .fz, .fz, .fz, .fz, .fz, .fz] T.a_l_lookers_4 sc_l_lookers_4 rfl fun f cdv A outer s H E hr =>
  (sb_cons (O1 := [.fz, .fz, .fz, .fz, .fz, .fz, .fz, .fz, .fz, .fz, .fz, .fz]) (ss_asg 2 sc_l_lookers_4.nd (se_ix (se_var 0) se_int))
    (sb_cons (O1 := [.fz, .fz, .fz, .fz, .fz, .fz, .fz, .fz, .fz, .fz, .fz, .fz]) (ss_for PassesOwn.never rfl (si_seq (se_ix (se_var 0) se_int)) (sg_tup sc_l_lookers_4.nd rfl (nm_cons 5 (nm_cons 6 (nm_cons 7 (nm_cons 8 .nil)))))
    (sb_one (ss_for PassesOwn.never rfl (si_seq (se_add (se_var 7) (se_var 8))) (sg_name 3 sc_l_lookers_4.nd)
    (sb_one (ss_asg 2 sc_l_lookers_4.nd (se_or (se_var 2) (se_shl se_int (se_var 3))))))))
    (sb_cons (O1 := [.fz, .fz, .fz, .fz, .fz, .fz, .fz, .fz, .fz, .fz, .fz, .fz]) (ss_asg 3 sc_l_lookers_4.nd (se_ix (SE.ofO (so_lc [("_law_p", 11)] rfl sc_l_lookers_4.nd (si_rng1 T.f_range (sa_cons se_int sa_nil)) (blkOk_by (N := n_l_lookers_4) (sc := defScope (top 26)) (by decide +kernel)) (fun _ _ _ _ _ => (sg_name 11 sc_l_lookers_4.nd)) (fun _ _ _ _ _ => (sts_one (st_cmp (cd_eq hr) (se_and (se_shr (se_var 2) (se_var 11)) se_int) se_int))) (fun _ _ _ _ _ => (se_var 11)))) (se_mod (se_var 1) se_int)))
    (sb_cons (O1 := [.fz, .fz, .fz, .fz, .ol, .fz, .fz, .fz, .fz, .fz, .fz, .fz]) (ss_asgO 4 sc_l_lookers_4.nd (so_lst sa_nil))
    (sb_cons (O1 := [.fz, .fz, .fz, .fz, .fz, .fz, .fz, .fz, .fz, .fz, .fz, .fz]) (ss_for PassesOwn.never rfl (si_enum T.f_enumerate (sa_cons (se_ix (se_var 0) se_int) sa_nil)) (sg_tup sc_l_lookers_4.nd rfl (nm_cons 9 (nm_cons 10 .nil)))
    (sb_cons (O1 := [.fz, .fz, .fz, .fz, .ol, .fz, .fz, .fz, .fz, .fz, .fz, .fz]) (ss_asgT (sg_tup sc_l_lookers_4.nd rfl (nm_cons 5 (nm_cons 6 (nm_cons 7 (nm_cons 8 .nil))))) (se_var 10))
    (sb_cons (O1 := [.fz, .fz, .fz, .fz, .ol, .fz, .fz, .fz, .fz, .fz, .fz, .fz]) (ss_if (st_cmp (cd_eq hr) (se_and (se_shr (se_div (se_var 1) se_int) (se_var 9)) se_int) se_int)
    (sb_cons (O1 := [.fz, .fz, .fz, .fz, .ol, .fz, .fz, .fz, .fz, .fz, .fz, .fz]) (ss_asg 7 sc_l_lookers_4.nd (se_blt bd_tuple T.f_tuple (sa_cons (SE.ofO (so_blt bo_sortT T.f_sorted (sa_cons (se_add (se_var 7) (se_tup (sa_cons (se_var 3) sa_nil))) sa_nil))) sa_nil)))
    (sb_one (ss_asg 8 sc_l_lookers_4.nd (se_blt bd_tuple T.f_tuple (sa_cons (SE.ofO (so_blt bo_sortT T.f_sorted (sa_cons (se_add (se_var 8) (se_tup (sa_cons (se_var 3) sa_nil))) sa_nil))) sa_nil)))))
    sb_nil)
    (sb_one (ss_app 4 (se_tup (sa_cons (se_var 5) (sa_cons (se_var 6) (sa_cons (se_var 7) (sa_cons (se_var 8) sa_nil))))))))))
    (sb_one (ss_ret (se_tup (sa_cons (se_ix (se_var 0) se_int) (sa_cons (se_blt bd_tuple T.f_tuple (sa_cons (se_var 4) sa_nil)) (sa_cons (se_or (se_ix (se_var 0) se_int) (se_shl se_int (se_var 3))) (sa_cons (se_ix (se_var 0) se_int) sa_nil))))))))))))
abbrev n_l_any_graph_2 : List Str := ["_law_script", "_law_first", "_law_most", "_law_arrows_here", "_law_cell", "_law_more", "_law_many", "_law_k", "_law_graph_here", "_law_gone_here", "_law_at", "_law_kind"]
theorem sc_l_any_graph_2 : FnScope n_l_any_graph_2 ["_law_script", "_law_first", "_law_most", "_law_arrows_here"] (defScope (top 27)) := ⟨rfl, rfl, rfl, by decide +kernel, rfl, by decide +kernel, by decide +kernel⟩
theorem g_l_any_graph_2 (T : Txt K mg) : FnD P w K mg base 5 "_law_any_graph" f_l_any_graph_2 := fnD_of (Pp := PpN) [] T.a_l_any_graph_2 sc_l_any_graph_2 rfl fun f cdv A outer s H E hr =>
  (sb_cons (O1 := []) (ss_asg 4 sc_l_any_graph_2.nd (se_call ((g_l_mix_2 T).mono (by decide)) hr (sa_cons (se_var 0) (sa_cons (se_var 1) sa_nil))))
    (sb_cons (O1 := []) (ss_if (st_cmp (cd_eq hr) (se_mod (se_var 4) se_int) se_int)
    (sb_one (ss_asg 8 sc_l_any_graph_2.nd (se_call ((g_l_choice_3 T).mono (by decide)) hr (sa_cons (se_var 0) (sa_cons (se_add (se_var 1) se_int) sa_nil)))))
    (sb_one (ss_asg 8 sc_l_any_graph_2.nd (se_call ((g_l_graph_3 T).mono (by decide)) hr (sa_cons (se_var 0) (sa_cons (se_add (se_var 1) se_int) (sa_cons (se_add se_int (se_mod (se_div (se_var 4) se_int) (se_var 2))) (sa_cons (se_mod (se_div (se_var 4) se_int) (se_add (se_var 3) se_int)) sa_nil))))))))
    (sb_cons (O1 := []) (ss_asg 5 sc_l_any_graph_2.nd (se_div (se_var 4) se_int))
    (sb_cons (O1 := []) (ss_if (st_cmp (cd_eq hr) (se_mod (se_var 5) se_int) se_int)
    (sb_cons (O1 := []) (ss_asg 9 sc_l_any_graph_2.nd (se_mod (se_div (se_var 5) se_int) (se_blt bd_len T.f_len (sa_cons (se_ix (se_var 8) se_int) sa_nil))))
    (sb_one (ss_asg 8 sc_l_any_graph_2.nd (se_tup (sa_cons (se_ix (se_var 8) se_int) (sa_cons (se_add (se_sl (se_ix (se_var 8) se_int) sp_none (sp_some (se_var 9))) (se_sl (se_ix (se_var 8) se_int) (sp_some (se_add (se_var 9) se_int)) sp_none)) (sa_cons (se_ix (se_var 8) se_int) (sa_cons (se_ix (se_var 8) se_int) sa_nil))))))))
    sb_nil)
    (sb_cons (O1 := []) (ss_asg 6 sc_l_any_graph_2.nd (se_ix (SE.ofO (so_lst (sa_cons se_int (sa_cons se_int (sa_cons se_int (sa_cons se_int (sa_cons se_int (sa_cons se_int (sa_cons se_int (sa_cons (se_sub se_int (se_blt bd_len T.f_len (sa_cons (se_ix (se_var 8) se_int) sa_nil))) sa_nil)))))))))) (se_mod (se_div (se_var 5) se_int) se_int)))
    (sb_cons (O1 := []) (ss_for PassesOwn.never rfl (si_rng1 T.f_range (sa_cons (se_var 6) sa_nil)) (sg_name 7 sc_l_any_graph_2.nd)
    (sb_cons (O1 := []) (ss_asg 10 sc_l_any_graph_2.nd (se_mod (se_add (se_div (se_var 5) se_int) (se_mul se_int (se_var 7))) (se_add (se_blt bd_len T.f_len (sa_cons (se_ix (se_var 8) se_int) sa_nil)) se_int)))
    (sb_cons (O1 := []) (ss_asg 11 sc_l_any_graph_2.nd (se_ix (SE.ofO (so_lst (sa_cons se_str (sa_cons se_str sa_nil)))) (se_mod (se_add (se_div (se_var 5) se_int) (se_var 7)) se_int)))
    (sb_one (ss_asg 8 sc_l_any_graph_2.nd (se_call ((g_l_wider T).mono (by decide)) hr (sa_cons (se_var 8) (sa_cons (se_var 10) (sa_cons (se_var 11) (sa_cons (se_cmp (cd_eq hr) (se_mod (se_add (se_div (se_var 5) se_int) (se_div (se_var 7) se_int)) se_int) se_int) (sa_cons (se_ix se_str (se_var 7)) sa_nil)))))))))))
    (sb_cons (O1 := []) (ss_if (st_cmp (cd_eq hr) (se_mod (se_div (se_var 5) se_int) se_int) se_int)
    (sb_one (ss_asg 8 sc_l_any_graph_2.nd (se_call ((g_l_lookers_4 T).mono (by decide)) hr (sa_cons (se_var 8) (sa_cons (se_div (se_var 4) se_int) sa_nil)))))
    sb_nil)
    (sb_one (ss_ret (se_var 8))))))))))
abbrev n_l_gates : List Str := ["_law_net", "_law_some", "_law_wire", "_law_rises", "_law_falls", "_law_gate"]
theorem sc_l_gates : FnScope n_l_gates ["_law_net"] (defScope (top 28)) := ⟨rfl, rfl, rfl, by decide +kernel, rfl, by decide +kernel, by decide +kernel⟩
theorem g_l_gates (T : Txt K mg) : FnD P w K mg base 2 "_law_gates" f_l_gates := fnD_of (Pp := PpN) [] T.a_l_gates sc_l_gates rfl fun f cdv A outer s H E hr =>
  (sb_cons (O1 := []) (ss_asg 1 sc_l_gates.nd (SE.ofO (so_lst sa_nil)))
    (sb_cons (O1 := []) (ss_for PassesOwn.never rfl (si_seq (se_var 0)) (sg_tup sc_l_gates.nd rfl (nm_cons 2 (nm_cons 3 (nm_cons 4 .nil))))
    (sb_one (ss_asg 1 sc_l_gates.nd (se_add (se_add (se_var 1) (SE.ofO (so_lc [("_law_gate", 5)] rfl sc_l_gates.nd (si_seq (se_var 3)) (blkOk_by (N := n_l_gates) (sc := defScope (top 28)) (by decide +kernel)) (fun _ _ _ _ _ => (sg_name 5 sc_l_gates.nd)) (fun _ _ _ _ _ => sts_nil) (fun _ _ _ _ _ => (se_tup (sa_cons (se_var 2) (sa_cons se_int (sa_cons (se_var 5) sa_nil)))))))) (SE.ofO (so_lc [("_law_gate", 5)] rfl sc_l_gates.nd (si_seq (se_var 4)) (blkOk_by (N := n_l_gates) (sc := defScope (top 28)) (by decide +kernel)) (fun _ _ _ _ _ => (sg_name 5 sc_l_gates.nd)) (fun _ _ _ _ _ => sts_nil) (fun _ _ _ _ _ => (se_tup (sa_cons (se_var 2) (sa_cons (se_neg se_int) (sa_cons (se_var 5) sa_nil)))))))))))
    (sb_one (ss_ret (se_var 1)))))
abbrev n_l_is_up : List Str := ["_law_gate", "_law_code", "_law_row"]
theorem sc_l_is_up : FnScope n_l_is_up ["_law_gate", "_law_code"] (defScope (top 29)) := ⟨rfl, rfl, rfl, by decide +kernel, rfl, by decide +kernel, by decide +kernel⟩
theorem g_l_is_up (T : Txt K mg) : FnD P w K mg base 2 "_law_up" f_l_is_up := fnD_of (Pp := PpN) [] T.a_l_is_up sc_l_is_up rfl fun f cdv A outer s H E hr =>
  (sb_one (ss_ret (se_cmp cd_gt (se_blt bd_len T.f_len (sa_cons (SE.ofO (so_lc [("_law_row", 2)] rfl sc_l_is_up.nd (si_seq (se_var 0)) (blkOk_by (N := n_l_is_up) (sc := defScope (top 29)) (by decide +kernel)) (fun _ _ _ _ _ => (sg_name 2 sc_l_is_up.nd)) (fun _ _ _ _ _ => (sts_one (st_cmp (cd_eq hr) (se_and (se_var 1) (se_ix (se_var 2) se_int)) (se_ix (se_var 2) se_int)))) (fun _ _ _ _ _ => (se_var 2)))) sa_nil)) se_int)))
abbrev n_l_called : List Str := ["_law_net", "_law_code", "_law_levels", "_law_gates_here", "_law_some", "_law_wire", "_law_rises", "_law_falls", "_law_ways", "_law_mode", "_law_g", "_law_one", "_law_level"]
theorem sc_l_called : FnScope n_l_called ["_law_net", "_law_code", "_law_levels"] (defScope (top 30)) := ⟨rfl, rfl, rfl, by decide +kernel, rfl, by decide +kernel, by decide +kernel⟩
theorem g_l_called (T : Txt K mg) : FnL P w K mg base 3 "_law_called" f_l_called := fnL_of (Pp := PpN) [.fz, .fz, .fz, .fz, .fz, .fz, .fz, .fz, .fz, .fz, .fz, .fz, .fz] T.a_l_called sc_l_called rfl fun f cdv A outer s H E hr =>
  (sb_cons (O1 := [.fz, .fz, .fz, .fz, .fz, .fz, .fz, .fz, .fz, .fz, .fz, .fz, .fz]) (ss_asg 3 sc_l_called.nd (se_call ((g_l_gates T).mono (by decide)) hr (sa_cons (se_var 0) sa_nil)))
    (sb_cons (O1 := [.fz, .fz, .fz, .fz, .ol, .fz, .fz, .fz, .fz, .fz, .fz, .fz, .fz]) (ss_asgOC 4 (soa_lc 4 [("_law_g", 10)] rfl sc_l_called.nd (si_rng1 T.f_range (sa_cons (se_blt bd_len T.f_len (sa_cons (se_var 3) sa_nil)) sa_nil)) (blkOk_by (N := n_l_called) (sc := defScope (top 30)) (by decide +kernel)) (fun _ _ _ _ _ => (sg_name 10 sc_l_called.nd)) (fun _ _ _ _ _ => (sts_one (st_cmp (cd_ne hr) (se_ix (se_var 2) (se_var 10)) (se_call ((g_l_is_up T).mono (by decide)) hr (sa_cons (se_ix (se_ix (se_var 3) (se_var 10)) se_int) (sa_cons (se_var 1) sa_nil)))))) (fun _ _ _ _ _ => (se_tup (sa_cons se_str (sa_cons (se_var 10) sa_nil))))))
    (sb_cons (O1 := [.fz, .fz, .fz, .fz, .ol, .fz, .fz, .fz, .fz, .fz, .fz, .fz, .fz]) (ss_for PassesOwn.never rfl (si_seq (se_var 0)) (sg_tup sc_l_called.nd rfl (nm_cons 5 (nm_cons 6 (nm_cons 7 .nil))))
    (sb_cons (O1 := [.fz, .fz, .fz, .fz, .ol, .fz, .fz, .fz, .fz, .fz, .fz, .fz, .fz]) (ss_asgC 8 (soa_lc 8 [("_law_one", 11), ("_law_level", 12)] rfl sc_l_called.nd (si_zipM T.f_zip (sa_cons (se_var 3) (sa_cons (se_var 2) sa_nil))) (blkOk_by (N := n_l_called) (sc := defScope (top 30)) (by decide +kernel)) (fun _ _ _ _ _ => (sg_tup sc_l_called.nd rfl (nm_cons 11 (nm_cons 12 .nil)))) (fun _ _ _ _ _ => (sts_one (SW.st (sw_and (st_tru (se_var 12)) (sw_and1 (st_cmp (cd_eq hr) (se_ix (se_var 11) se_int) (se_var 5))))))) (fun _ _ _ _ _ => (se_ix (se_var 11) se_int))))
    (sb_cons (O1 := [.fz, .fz, .fz, .fz, .ol, .fz, .fz, .fz, .fz, .fz, .fz, .fz, .fz]) (ss_asg 9 sc_l_called.nd (se_ix (SE.ofO (so_lst (sa_cons se_int (sa_cons (se_neg se_int) sa_nil)))) (se_and (se_shr (se_var 1) (se_var 5)) se_int)))
    (sb_one (ss_if (SW.st (sw_and (st_cmp (cd_in hr) (se_var 9) (se_var 8) (by rfl)) (sw_and1 (st_cmp (cd_nin hr) (se_sub se_int (se_var 9)) (se_var 8) (by rfl)))))
    (sb_one (ss_app 4 (se_tup (sa_cons se_str (sa_cons (se_var 5) sa_nil)))))
    sb_nil)))))
    (sb_one (ss_retV 4)))))
abbrev n_l_moves : List Str := ["_law_graph_here", "_law_net", "_law_play", "_law_some", "_law_step"]
theorem sc_l_moves : FnScope n_l_moves ["_law_graph_here", "_law_net", "_law_play"] (defScope (top 31)) := ⟨rfl, rfl, rfl, by decide +kernel, rfl, by decide +kernel, by decide +kernel⟩
theorem g_l_moves (T : Txt K mg) : FnD P w K mg base 4 "_law_moves" f_l_moves := fnD_of (Pp := PpN) [.fz, .fz, .fz, .fz, .fz] T.a_l_moves sc_l_moves rfl fun f cdv A outer s H E hr =>
  (sb_cons (O1 := [.fz, .fz, .fz, .ol, .fz]) (ss_asgO 3 sc_l_moves.nd (so_lst sa_nil))
    (sb_cons (O1 := [.fz, .fz, .fz, .fz, .fz]) (ss_for PassesOwn.never rfl (si_rng1 T.f_range (sa_cons (se_blt bd_len T.f_len (sa_cons (se_ix (se_var 0) se_int) sa_nil)) sa_nil)) (sg_name 4 sc_l_moves.nd)
    (sb_one (ss_if (SW.st (sw_and (st_cmp (cd_eq hr) (se_ix (se_ix (se_ix (se_var 0) se_int) (se_ix (se_ix (se_ix (se_var 0) se_int) (se_var 4)) se_int)) se_int) se_str) (sw_and1 (st_tru (se_call ((g_l_can_3 T).mono (by decide)) hr (sa_cons (se_var 0) (sa_cons (se_ix (se_var 2) se_int) (sa_cons (se_var 4) sa_nil))))))))
    (sb_one (ss_app 3 (se_tup (sa_cons se_str (sa_cons (se_var 4) sa_nil)))))
    sb_nil)))
    (sb_one (ss_ret (se_add (se_var 3) (SE.ofO (so_call ((g_l_called T).mono (by decide)) hr (sa_cons (se_var 1) (sa_cons (se_ix (se_ix (se_var 2) se_int) se_int) (sa_cons (se_ix (se_var 2) se_int) sa_nil))))))))))
abbrev n_l_begun : List Str := ["_law_graph_here", "_law_net", "_law_one"]
theorem sc_l_begun : FnScope n_l_begun ["_law_graph_here", "_law_net"] (defScope (top 34)) := ⟨rfl, rfl, rfl, by decide +kernel, rfl, by decide +kernel, by decide +kernel⟩
theorem g_l_begun (T : Txt K mg) : FnD P w K mg base 3 "_law_begun" f_l_begun := fnD_of (Pp := PpN) [] T.a_l_begun sc_l_begun rfl fun f cdv A outer s H E hr =>
  (sb_one (ss_ret (se_tup (sa_cons (se_tup (sa_cons (se_ix (se_var 0) se_int) (sa_cons (se_ix (se_var 0) se_int) sa_nil))) (sa_cons (se_blt bd_tuple T.f_tuple (sa_cons (SE.ofO (so_lc [("_law_one", 2)] rfl sc_l_begun.nd (si_seq (se_call ((g_l_gates T).mono (by decide)) hr (sa_cons (se_var 1) sa_nil))) (blkOk_by (N := n_l_begun) (sc := defScope (top 34)) (by decide +kernel)) (fun _ _ _ _ _ => (sg_name 2 sc_l_begun.nd)) (fun _ _ _ _ _ => sts_nil) (fun _ _ _ _ _ => (se_call ((g_l_is_up T).mono (by decide)) hr (sa_cons (se_ix (se_var 2) se_int) (sa_cons (se_ix (se_var 0) se_int) sa_nil)))))) sa_nil)) sa_nil)))))
abbrev n_l_any_gate : List Str := ["_law_script", "_law_first", "_law_graph_here", "_law_some", "_law_want_here", "_law_wire", "_law_rows", "_law_full", "_law_cell", "_law_k", "_law_stand", "_law_bit", "_law_care"]
theorem sc_l_any_gate : FnScope n_l_any_gate ["_law_script", "_law_first", "_law_graph_here", "_law_some", "_law_want_here", "_law_wire"] (defScope (top 35)) := ⟨rfl, rfl, rfl, by decide +kernel, rfl, by decide +kernel, by decide +kernel⟩
theorem g_l_any_gate (T : Txt K mg) : FnD P w K mg base 4 "_law_any_gate" f_l_any_gate := fnD_of (Pp := PpN) [.fz, .fz, .fz, .fz, .fz, .fz, .fz, .fz, .fz, .fz, .fz, .fz, .fz] T.a_l_any_gate sc_l_any_gate rfl fun f cdv A outer s H E hr =>
  (sb_cons (O1 := [.fz, .fz, .fz, .fz, .fz, .fz, .ol, .fz, .fz, .fz, .fz, .fz, .fz]) (ss_asgO 6 sc_l_any_gate.nd (so_lst sa_nil))
    (sb_cons (O1 := [.fz, .fz, .fz, .fz, .fz, .fz, .ol, .fz, .fz, .fz, .fz, .fz, .fz]) (ss_asg 7 sc_l_any_gate.nd (se_sub (se_shl se_int (se_blt bd_len T.f_len (sa_cons (se_ix (se_var 2) se_int) sa_nil))) se_int))
    (sb_cons (O1 := [.fz, .fz, .fz, .fz, .fz, .fz, .ol, .fz, .fz, .fz, .fz, .fz, .fz]) (ss_asg 8 sc_l_any_gate.nd (se_call ((g_l_mix_2 T).mono (by decide)) hr (sa_cons (se_var 0) (sa_cons (se_var 1) sa_nil))))
    (sb_cons (O1 := [.fz, .fz, .fz, .fz, .fz, .fz, .fz, .fz, .fz, .fz, .fz, .fz, .fz]) (ss_for PassesOwn.never rfl (si_enum T.f_enumerate (sa_cons (se_var 3) sa_nil)) (sg_tup sc_l_any_gate.nd rfl (nm_cons 9 (nm_cons 10 .nil)))
    (sb_cons (O1 := [.fz, .fz, .fz, .fz, .fz, .fz, .ol, .fz, .fz, .fz, .fz, .fz, .fz]) (ss_asg 11 sc_l_any_gate.nd (se_mod (se_div (se_call ((g_l_mix_2 T).mono (by decide)) hr (sa_cons (se_var 0) (sa_cons (se_add (se_var 1) (se_mod (se_var 9) se_int)) sa_nil))) (se_add se_int (se_var 9))) se_int))
    (sb_one (ss_if (SW.st (sw_or (SW.st (sw_and (st_cmp (cd_eq hr) (se_call ((g_l_want T).mono (by decide)) hr (sa_cons (se_var 2) (sa_cons (se_var 10) (sa_cons (se_var 5) sa_nil)))) (se_var 4)) (sw_and1 (st_cmp cd_gt (se_var 11) se_int)))) (sw_or1 (st_cmp (cd_eq hr) (se_var 11) se_int))))
    (sb_cons (O1 := [.fz, .fz, .fz, .fz, .fz, .fz, .ol, .fz, .fz, .fz, .fz, .fz, .fz]) (ss_asg 12 sc_l_any_gate.nd (se_var 7))
    (sb_cons (O1 := [.fz, .fz, .fz, .fz, .fz, .fz, .ol, .fz, .fz, .fz, .fz, .fz, .fz]) (ss_if (st_cmp (cd_eq hr) (se_mod (se_var 8) se_int) se_int)
    (sb_one (ss_asg 12 sc_l_any_gate.nd (se_xor (se_var 7) (se_shl se_int (se_mod (se_add (se_div (se_var 8) se_int) (se_var 9)) (se_blt bd_len T.f_len (sa_cons (se_ix (se_var 2) se_int) sa_nil)))))))
    sb_nil)
    (sb_one (ss_if (st_cmp (cd_nin hr) (se_tup (sa_cons (se_var 12) (sa_cons (se_and (se_ix (se_var 10) se_int) (se_var 12)) sa_nil))) (se_var 6) (by rfl))
    (sb_one (ss_app 6 (se_tup (sa_cons (se_var 12) (sa_cons (se_and (se_ix (se_var 10) se_int) (se_var 12)) sa_nil)))))
    sb_nil))))
    sb_nil))))
    (sb_one (ss_ret (se_blt bd_tuple T.f_tuple (sa_cons (se_var 6) sa_nil))))))))
abbrev n_l_any_net : List Str := ["_law_script", "_law_first", "_law_graph_here", "_law_some", "_law_net", "_law_wire", "_law_both", "_law_want_here", "_law_cell", "_law_gate", "_law_gates_here"]
theorem sc_l_any_net : FnScope n_l_any_net ["_law_script", "_law_first", "_law_graph_here", "_law_some"] (defScope (top 36)) := ⟨rfl, rfl, rfl, by decide +kernel, rfl, by decide +kernel, by decide +kernel⟩
theorem g_l_any_net (T : Txt K mg) : FnD P w K mg base 5 "_law_any_net" f_l_any_net := fnD_of (Pp := PpN) [.fz, .fz, .fz, .fz, .fz, .fz, .fz, .fz, .fz, .fz, .fz] T.a_l_any_net sc_l_any_net rfl fun f cdv A outer s H E hr =>
  (sb_cons (O1 := [.fz, .fz, .fz, .fz, .ol, .fz, .fz, .fz, .fz, .fz, .fz]) (ss_asgO 4 sc_l_any_net.nd (so_lst sa_nil))
    (sb_cons (O1 := [.fz, .fz, .fz, .fz, .fz, .fz, .fz, .fz, .fz, .fz, .fz]) (ss_for PassesOwn.never rfl (si_rng1 T.f_range (sa_cons (se_blt bd_len T.f_len (sa_cons (se_ix (se_var 2) se_int) sa_nil)) sa_nil)) (sg_name 5 sc_l_any_net.nd)
    (sb_one (ss_if (st_cmp (cd_eq hr) (se_ix (se_ix (se_ix (se_var 2) se_int) (se_var 5)) se_int) se_str)
    (sb_cons (O1 := [.fz, .fz, .fz, .fz, .ol, .fz, .ol, .fz, .fz, .fz, .fz]) (ss_asgO 6 sc_l_any_net.nd (so_lst sa_nil))
    (sb_cons (O1 := [.fz, .fz, .fz, .fz, .ol, .fz, .fz, .fz, .fz, .fz, .fz]) (ss_for PassesOwn.never rfl (si_seq (SE.ofO (so_lst (sa_cons se_int (sa_cons (se_neg se_int) sa_nil))))) (sg_name 7 sc_l_any_net.nd)
    (sb_cons (O1 := [.fz, .fz, .fz, .fz, .ol, .fz, .ol, .fz, .fz, .fz, .fz]) (ss_asg 8 sc_l_any_net.nd (se_call ((g_l_mix_2 T).mono (by decide)) hr (sa_cons (se_var 0) (sa_cons (se_add (se_var 1) (se_var 5)) sa_nil))))
    (sb_cons (O1 := [.fz, .fz, .fz, .fz, .ol, .fz, .ol, .fz, .fz, .fz, .fz]) (ss_asg 9 sc_l_any_net.nd (se_call ((g_l_any_gate T).mono (by decide)) hr (sa_cons (se_var 0) (sa_cons (se_add (se_add (se_var 1) (se_mul se_int (se_var 5))) (se_div (se_sub se_int (se_var 7)) se_int)) (sa_cons (se_var 2) (sa_cons (se_var 3) (sa_cons (se_var 7) (sa_cons (se_var 5) sa_nil))))))))
    (sb_cons (O1 := [.fz, .fz, .fz, .fz, .ol, .fz, .ol, .fz, .fz, .fz, .fz]) (ss_asg 10 sc_l_any_net.nd (se_tup (sa_cons (se_var 9) sa_nil)))
    (sb_cons (O1 := [.fz, .fz, .fz, .fz, .ol, .fz, .ol, .fz, .fz, .fz, .fz]) (ss_if (st_cmp (cd_eq hr) (se_mod (se_var 8) se_int) se_int)
    (sb_one (ss_asg 10 sc_l_any_net.nd (se_tup (sa_cons (se_sl (se_var 9) sp_none (sp_some se_int)) (sa_cons (se_sl (se_var 9) (sp_some se_int) sp_none) sa_nil)))))
    sb_nil)
    (sb_cons (O1 := [.fz, .fz, .fz, .fz, .ol, .fz, .ol, .fz, .fz, .fz, .fz]) (ss_if (st_cmp (cd_eq hr) (se_mod (se_var 8) se_int) se_int)
    (sb_one (ss_asg 10 sc_l_any_net.nd (se_tup sa_nil)))
    sb_nil)
    (sb_one (ss_app 6 (se_var 10)))))))))
    (sb_one (ss_app 4 (se_tup (sa_cons (se_var 5) (sa_cons (se_ix (se_var 6) se_int) (sa_cons (se_ix (se_var 6) se_int) sa_nil))))))))
    sb_nil)))
    (sb_one (ss_ret (se_blt bd_tuple T.f_tuple (sa_cons (se_var 4) sa_nil))))))
abbrev n_l_apart : List Str := ["_law_net", "_law_some", "_law_wire", "_law_rises", "_law_falls", "_law_both", "_law_gates_here", "_law_rows", "_law_gate", "_law_row"]
theorem sc_l_apart : FnScope n_l_apart ["_law_net"] (defScope (top 37)) := ⟨rfl, rfl, rfl, by decide +kernel, rfl, by decide +kernel, by decide +kernel⟩
theorem g_l_apart (T : Txt K mg) : FnD P w K mg base 2 "_law_apart" f_l_apart := fnD_of (Pp := PpN) [.fz, .fz, .fz, .fz, .fz, .fz, .fz, .fz, .fz, .fz] T.a_l_apart sc_l_apart rfl fun f cdv A outer s H E hr =>
  (sb_cons (O1 := [.fz, .ol, .fz, .fz, .fz, .fz, .fz, .fz, .fz, .fz]) (ss_asgO 1 sc_l_apart.nd (so_lst sa_nil))
    (sb_cons (O1 := [.fz, .fz, .fz, .fz, .fz, .fz, .fz, .fz, .fz, .fz]) (ss_for PassesOwn.never rfl (si_seq (se_var 0)) (sg_tup sc_l_apart.nd rfl (nm_cons 2 (nm_cons 3 (nm_cons 4 .nil))))
    (sb_cons (O1 := [.fz, .ol, .fz, .fz, .fz, .ol, .fz, .fz, .fz, .fz]) (ss_asgO 5 sc_l_apart.nd (so_lst sa_nil))
    (sb_cons (O1 := [.fz, .ol, .fz, .fz, .fz, .fz, .fz, .fz, .fz, .fz]) (ss_for PassesOwn.never rfl (si_seq (SE.ofO (so_lst (sa_cons (se_var 3) (sa_cons (se_var 4) sa_nil))))) (sg_name 6 sc_l_apart.nd)
    (sb_cons (O1 := [.fz, .ol, .fz, .fz, .fz, .ol, .fz, .fz, .fz, .fz]) (ss_asg 7 sc_l_apart.nd (SE.ofO (so_lst sa_nil)))
    (sb_cons (O1 := [.fz, .ol, .fz, .fz, .fz, .ol, .fz, .fz, .fz, .fz]) (ss_for PassesOwn.never rfl (si_seq (se_var 6)) (sg_name 8 sc_l_apart.nd)
    (sb_one (ss_asg 7 sc_l_apart.nd (se_add (se_var 7) (SE.ofO (so_lc [("_law_row", 9)] rfl sc_l_apart.nd (si_seq (se_var 8)) (blkOk_by (N := n_l_apart) (sc := defScope (top 37)) (by decide +kernel)) (fun _ _ _ _ _ => (sg_name 9 sc_l_apart.nd)) (fun _ _ _ _ _ => sts_nil) (fun _ _ _ _ _ => (se_tup (sa_cons (se_var 9) sa_nil)))))))))
    (sb_one (ss_app 5 (se_blt bd_tuple T.f_tuple (sa_cons (se_var 7) sa_nil)))))))
    (sb_one (ss_app 1 (se_tup (sa_cons (se_var 2) (sa_cons (se_ix (se_var 5) se_int) (sa_cons (se_ix (se_var 5) se_int) sa_nil)))))))))
    (sb_one (ss_ret (se_blt bd_tuple T.f_tuple (sa_cons (se_var 1) sa_nil))))))
abbrev n_l_within : List Str := ["_law_net", "_law_total", "_law_wire", "_law_rises", "_law_falls", "_law_many", "_law_gate"]
theorem sc_l_within : FnScope n_l_within ["_law_net"] (defScope (top 38)) := ⟨rfl, rfl, rfl, by decide +kernel, rfl, by decide +kernel, by decide +kernel⟩
theorem g_l_within (T : Txt K mg) : FnD P w K mg base 2 "_law_within" f_l_within := fnD_of (Pp := PpN) [] T.a_l_within sc_l_within rfl fun f cdv A outer s H E hr =>
  (sb_cons (O1 := []) (ss_asg 1 sc_l_within.nd se_int)
    (sb_cons (O1 := []) (ss_for PassesOwn.never rfl (si_seq (se_var 0)) (sg_tup sc_l_within.nd rfl (nm_cons 2 (nm_cons 3 (nm_cons 4 .nil))))
    (sb_cons (O1 := []) (ss_asg 5 sc_l_within.nd (se_blt (bd_sum rfl) T.f_sum (sa_cons (SE.ofO (so_lc [("_law_gate", 6)] rfl sc_l_within.nd (si_seq (se_add (se_var 3) (se_var 4))) (blkOk_by (N := n_l_within) (sc := defScope (top 38)) (by decide +kernel)) (fun _ _ _ _ _ => (sg_name 6 sc_l_within.nd)) (fun _ _ _ _ _ => sts_nil) (fun _ _ _ _ _ => (se_blt bd_len T.f_len (sa_cons (se_var 6) sa_nil))))) sa_nil)))
    (sb_cons (O1 := []) (ss_asg 1 sc_l_within.nd (se_add (se_var 1) (se_var 5)))
    (sb_one (ss_if (st_cmp cd_gt (se_var 5) se_int)
    (sb_one (ss_ret se_bl))
    sb_nil)))))
    (sb_one (ss_ret (se_cmp cd_le (se_var 1) se_int)))))
abbrev n_l_begins : List Str := ["_law_graph_here", "_law_net", "_law_play", "_law_due", "_law_levels", "_law_told", "_law_g", "_law_level"]
theorem sc_l_begins : FnScope n_l_begins ["_law_graph_here", "_law_net"] (defScope (top 39)) := ⟨rfl, rfl, rfl, by decide +kernel, rfl, by decide +kernel, by decide +kernel⟩
theorem g_l_begins (T : Txt K mg) : FnD P w K mg base 6 "_law_begins" f_l_begins := fnD_of (Pp := PpN) [.fz, .fz, .fz, .fz, .fz, .fz, .fz, .fz] T.a_l_begins sc_l_begins rfl fun f cdv A outer s H E hr =>
  (sb_cons (O1 := [.fz, .fz, .fz, .fz, .fz, .fz, .fz, .fz]) (ss_asg 2 sc_l_begins.nd (se_new ((g_Play___init__ T).mono (by decide)) hr (sa_cons (se_var 0) (sa_cons (se_var 1) sa_nil))))
    (sb_cons (O1 := [.fz, .fz, .fz, .fz, .fz, .fz, .fz, .fz]) (ss_asg 3 sc_l_begins.nd (se_call ((g_l_begun T).mono (by decide)) hr (sa_cons (se_var 0) (sa_cons (se_var 1) sa_nil))))
    (sb_cons (O1 := [.fz, .fz, .fz, .fz, .fz, .fz, .fz, .fz]) (ss_asgC 4 (soa_lc 4 [("_law_g", 6)] rfl sc_l_begins.nd (si_rng1 T.f_range (sa_cons (se_blt bd_len T.f_len (sa_cons (se_ix (se_var 3) se_int) sa_nil)) sa_nil)) (blkOk_by (N := n_l_begins) (sc := defScope (top 39)) (by decide +kernel)) (fun _ _ _ _ _ => (sg_name 6 sc_l_begins.nd)) (fun _ _ _ _ _ => sts_nil) (fun _ _ _ _ _ => (se_meth ((g_Play_level T).mono (by decide)) T.ply hr (se_var 2) (sa_cons (se_var 6) sa_nil)))))
    (sb_cons (O1 := [.fz, .fz, .fz, .fz, .fz, .fz, .fz, .fz]) (ss_if (SW.st (sw_or (st_cmp (cd_ne hr) (se_meth0 ((g_Play_stand T).mono (by decide)) T.ply hr (se_var 2)) (se_ix (se_var 3) se_int)) (sw_or (st_not' (st_tru (se_isi T.f_isinstance T.f_tuple (se_meth0 ((g_Play_stand T).mono (by decide)) T.ply hr (se_var 2))))) (sw_or1 (st_cmp (cd_ne hr) (se_blt bd_tuple T.f_tuple (sa_cons (se_var 4) sa_nil)) (se_ix (se_var 3) se_int))))))
    (sb_one (ss_ret se_bl))
    sb_nil)
    (sb_cons (O1 := [.fz, .fz, .fz, .fz, .fz, .fz, .fz, .fz]) (ss_if (st_cmp cd_gt (se_blt bd_len T.f_len (sa_cons (SE.ofO (so_lc [("_law_level", 7)] rfl sc_l_begins.nd (si_seq (se_var 4)) (blkOk_by (N := n_l_begins) (sc := defScope (top 39)) (by decide +kernel)) (fun _ _ _ _ _ => (sg_name 7 sc_l_begins.nd)) (fun _ _ _ _ _ => (sts_one (st_not' (st_tru (se_isi T.f_isinstance T.f_bool (se_var 7)))))) (fun _ _ _ _ _ => (se_var 7)))) sa_nil)) se_int)
    (sb_one (ss_ret se_bl))
    sb_nil)
    (sb_cons (O1 := [.fz, .fz, .fz, .fz, .fz, .ol, .fz, .fz]) (ss_asgO 5 sc_l_begins.nd (so_meth0 ((g_Play_moves T).mono (by decide)) T.ply hr (se_var 2)))
    (sb_cons (O1 := [.fz, .fz, .fz, .fz, .fz, .ol, .fz, .fz]) (ss_if (SW.st (sw_or (st_not' (st_tru (se_isi T.f_isinstance T.f_list (se_var 5)))) (sw_or1 (st_cmp (cd_ne hr) (se_var 5) (se_call ((g_l_moves T).mono (by decide)) hr (sa_cons (se_var 0) (sa_cons (se_var 1) (sa_cons (se_var 3) sa_nil))))))))
    (SB.fre (O1 := [.fz, .fz, .fz, .fz, .fz, .fz, .fz, .fz]) (sb_one (ss_ret se_bl)))
    sb_nil)
    (sb_cons (O1 := [.fz, .fz, .fz, .fz, .fz, .fz, .fz, .fz]) (ss_app 5 (se_tup (sa_cons se_str (sa_cons se_int sa_nil))))
    (sb_one (ss_ret (se_cmp (cd_eq hr) (SE.ofO (so_meth0 ((g_Play_moves T).mono (by decide)) T.ply hr (se_var 2))) (se_call ((g_l_moves T).mono (by decide)) hr (sa_cons (se_var 0) (sa_cons (se_var 1) (sa_cons (se_var 3) sa_nil)))))))))))))))
abbrev n_law_k61 : List Str := ["_law_script", "_law_graph_here", "_law_net", "_law_other"]
theorem sc_law_k61 : FnScope n_law_k61 ["_law_script"] (defScope (top 40)) := ⟨rfl, rfl, rfl, by decide +kernel, rfl, by decide +kernel, by decide +kernel⟩
theorem g_law (T : Txt K mg) {f : Addr} {fd : FuncData} (F : Fun K "law" "law" (top 40) f fd) : FnOk P w K mg base CX0 7 f fd ["_law_script"] (spF mg K f_law_k61) := fnOk_of (Pp := PpN) [] F sc_law_k61 rfl fun f cdv A outer s H E hr =>
  (sb_cons (O1 := []) (ss_asg 1 sc_law_k61.nd (se_call ((g_l_any_graph_2 T).mono (by decide)) hr (sa_cons (se_var 0) (sa_cons se_int (sa_cons se_int (sa_cons se_int sa_nil))))))
    (sb_cons (O1 := []) (ss_asg 2 sc_law_k61.nd (se_call ((g_l_any_net T).mono (by decide)) hr (sa_cons (se_var 0) (sa_cons se_int (sa_cons (se_var 1) (sa_cons (SE.ofO (so_call ((g_l_stands T).mono (by decide)) hr (sa_cons (se_var 1) sa_nil))) sa_nil))))))
    (sb_cons (O1 := []) (ss_asg 3 sc_law_k61.nd (se_call ((g_apart T).mono (by decide)) hr (sa_cons (se_var 2) sa_nil)))
    (sb_cons (O1 := []) (ss_if (st_cmp (cd_ne hr) (se_var 3) (se_call ((g_l_apart T).mono (by decide)) hr (sa_cons (se_var 2) sa_nil)))
    (sb_one (ss_ret se_bl))
    sb_nil)
    (sb_cons (O1 := []) (ss_if (SW.st (sw_and (st_tru (se_call ((g_l_within T).mono (by decide)) hr (sa_cons (se_var 2) sa_nil))) (sw_and1 (st_not' (st_tru (se_call ((g_l_begins T).mono (by decide)) hr (sa_cons (se_var 1) (sa_cons (se_var 3) sa_nil))))))))
    (sb_one (ss_ret se_bl))
    sb_nil)
    (sb_one (ss_ret (se_and2 (se_call ((g_l_begins T).mono (by decide)) hr (sa_cons (se_var 1) (sa_cons (se_var 2) sa_nil))) (se_one (se_call ((g_l_begins T).mono (by decide)) hr (sa_cons (se_var 1) (sa_cons (se_var 2) sa_nil))))))))))))
end
def h__wall : He.DefD := ⟨("_wall", none), "_wall", "_wall", defArgs (top 0), defBody (top 0), defScope (top 0), [], []⟩
def h_fits : He.DefD := ⟨("fits", none), "fits", "fits", defArgs (top 2), defBody (top 2), defScope (top 2), [], []⟩
def h_is_up : He.DefD := ⟨("is_up", none), "is_up", "is_up", defArgs (top 3), defBody (top 3), defScope (top 3), [], []⟩
def h_bits : He.DefD := ⟨("bits", none), "bits", "bits", defArgs (top 5), defBody (top 5), defScope (top 5), [], []⟩
def h_can : He.DefD := ⟨("can", none), "can", "can", defArgs (top 7), defBody (top 7), defScope (top 7), [], []⟩
def h_gates_of : He.DefD := ⟨("gates_of", none), "gates_of", "gates_of", defArgs (top 9), defBody (top 9), defScope (top 9), [], []⟩
def h_wire_called : He.DefD := ⟨("wire_called", none), "wire_called", "wire_called", defArgs (top 10), defBody (top 10), defScope (top 10), [], []⟩
def h_rows_apart : He.DefD := ⟨("rows_apart", none), "rows_apart", "rows_apart", defArgs (top 12), defBody (top 12), defScope (top 12), [], []⟩
def h_apart : He.DefD := ⟨("apart", none), "apart", "apart", defArgs (top 11), defBody (top 11), defScope (top 11), [], []⟩
def h_Play___init__ : He.DefD := ⟨("Play", some "__init__"), "__init__", "Play.__init__", defArgs (inClass (top 13) 0), defBody (inClass (top 13) 0), defScope (inClass (top 13) 0), [], []⟩
def h_Play_stand : He.DefD := ⟨("Play", some "stand"), "stand", "Play.stand", defArgs (inClass (top 13) 1), defBody (inClass (top 13) 1), defScope (inClass (top 13) 1), [], []⟩
def h_Play_level : He.DefD := ⟨("Play", some "level"), "level", "Play.level", defArgs (inClass (top 13) 2), defBody (inClass (top 13) 2), defScope (inClass (top 13) 2), [], []⟩
def h_Play_called : He.DefD := ⟨("Play", some "called"), "called", "Play.called", defArgs (inClass (top 13) 3), defBody (inClass (top 13) 3), defScope (inClass (top 13) 3), [], []⟩
def h_Play_moves : He.DefD := ⟨("Play", some "moves"), "moves", "Play.moves", defArgs (inClass (top 13) 4), defBody (inClass (top 13) 4), defScope (inClass (top 13) 4), [], []⟩
def h_l_mix_2 : He.DefD := ⟨("_law_mix", none), "_law_mix", "_law_mix", defArgs (top 15), defBody (top 15), defScope (top 15), [], []⟩
def h_l_word : He.DefD := ⟨("_law_word", none), "_law_word", "_law_word", defArgs (top 16), defBody (top 16), defScope (top 16), [], []⟩
def h_l_order : He.DefD := ⟨("_law_order", none), "_law_order", "_law_order", defArgs (top 17), defBody (top 17), defScope (top 17), [], []⟩
def h_l_arrows_2 : He.DefD := ⟨("_law_arrows", none), "_law_arrows", "_law_arrows", defArgs (top 18), defBody (top 18), defScope (top 18), [], []⟩
def h_l_graph_3 : He.DefD := ⟨("_law_graph", none), "_law_graph", "_law_graph", defArgs (top 19), defBody (top 19), defScope (top 19), [], []⟩
def h_l_can_3 : He.DefD := ⟨("_law_can", none), "_law_can", "_law_can", defArgs (top 20), defBody (top 20), defScope (top 20), [], []⟩
def h_l_behind_2 : He.DefD := ⟨("_law_behind", none), "_law_behind", "_law_behind", defArgs (top 21), defBody (top 21), defScope (top 21), [], []⟩
def h_l_stands : He.DefD := ⟨("_law_stands", none), "_law_stands", "_law_stands", defArgs (top 22), defBody (top 22), defScope (top 22), [], []⟩
def h_l_want : He.DefD := ⟨("_law_want", none), "_law_want", "_law_want", defArgs (top 23), defBody (top 23), defScope (top 23), [], []⟩
def h_l_choice_3 : He.DefD := ⟨("_law_choice", none), "_law_choice", "_law_choice", defArgs (top 24), defBody (top 24), defScope (top 24), [], []⟩
def h_l_wider : He.DefD := ⟨("_law_wider", none), "_law_wider", "_law_wider", defArgs (top 25), defBody (top 25), defScope (top 25), [], []⟩
def h_l_lookers_4 : He.DefD := ⟨("_law_lookers", none), "_law_lookers", "_law_lookers", defArgs (top 26), defBody (top 26), defScope (top 26), [], []⟩
def h_l_any_graph_2 : He.DefD := ⟨("_law_any_graph", none), "_law_any_graph", "_law_any_graph", defArgs (top 27), defBody (top 27), defScope (top 27), [], []⟩
def h_l_gates : He.DefD := ⟨("_law_gates", none), "_law_gates", "_law_gates", defArgs (top 28), defBody (top 28), defScope (top 28), [], []⟩
def h_l_is_up : He.DefD := ⟨("_law_up", none), "_law_up", "_law_up", defArgs (top 29), defBody (top 29), defScope (top 29), [], []⟩
def h_l_called : He.DefD := ⟨("_law_called", none), "_law_called", "_law_called", defArgs (top 30), defBody (top 30), defScope (top 30), [], []⟩
def h_l_moves : He.DefD := ⟨("_law_moves", none), "_law_moves", "_law_moves", defArgs (top 31), defBody (top 31), defScope (top 31), [], []⟩
def h_l_wire_step : He.DefD := ⟨("_law_wire_step", none), "_law_wire_step", "_law_wire_step", defArgs (top 32), defBody (top 32), defScope (top 32), [], []⟩
def h_l_gone_2 : He.DefD := ⟨("_law_gone", none), "_law_gone", "_law_gone", defArgs (top 33), defBody (top 33), defScope (top 33), [], []⟩
def h_l_begun : He.DefD := ⟨("_law_begun", none), "_law_begun", "_law_begun", defArgs (top 34), defBody (top 34), defScope (top 34), [], []⟩
def h_l_any_gate : He.DefD := ⟨("_law_any_gate", none), "_law_any_gate", "_law_any_gate", defArgs (top 35), defBody (top 35), defScope (top 35), [], []⟩
def h_l_any_net : He.DefD := ⟨("_law_any_net", none), "_law_any_net", "_law_any_net", defArgs (top 36), defBody (top 36), defScope (top 36), [], []⟩
def h_l_apart : He.DefD := ⟨("_law_apart", none), "_law_apart", "_law_apart", defArgs (top 37), defBody (top 37), defScope (top 37), [], []⟩
def h_l_within : He.DefD := ⟨("_law_within", none), "_law_within", "_law_within", defArgs (top 38), defBody (top 38), defScope (top 38), [], []⟩
def h_l_begins : He.DefD := ⟨("_law_begins", none), "_law_begins", "_law_begins", defArgs (top 39), defBody (top 39), defScope (top 39), [], []⟩
def h_law_k61 : He.DefD := ⟨("law", none), "law", "law", defArgs (top 40), defBody (top 40), defScope (top 40), [], []⟩
def fn : List He.DefD := [h__wall, h_fits, h_is_up, h_bits, h_can, h_gates_of, h_wire_called, h_rows_apart, h_apart, h_Play___init__, h_Play_stand, h_Play_level, h_Play_called, h_Play_moves, h_l_mix_2, h_l_word, h_l_order, h_l_arrows_2, h_l_graph_3, h_l_can_3, h_l_behind_2, h_l_stands, h_l_want, h_l_choice_3, h_l_wider, h_l_lookers_4, h_l_any_graph_2, h_l_gates, h_l_is_up, h_l_called, h_l_moves, h_l_wire_step, h_l_gone_2, h_l_begun, h_l_any_gate, h_l_any_net, h_l_apart, h_l_within, h_l_begins, h_law_k61]
def fa : List He.Fa := [.glo "_wall", .glo "fits", .glo "is_up", .glo "bits", .glo "can", .glo "gates_of", .glo "wire_called", .glo "rows_apart", .glo "apart", .mkr "Play", .glo "Play", .meth "Play" "stand", .meth "Play" "level", .meth "Play" "called", .meth "Play" "moves", .glo "_law_mix", .glo "_law_word", .glo "_law_order", .glo "_law_arrows", .glo "_law_graph", .glo "_law_can", .glo "_law_behind", .glo "_law_stands", .glo "_law_want", .glo "_law_choice", .glo "_law_wider", .glo "_law_lookers", .glo "_law_any_graph", .glo "_law_gates", .glo "_law_up", .glo "_law_called", .glo "_law_moves", .glo "_law_wire_step", .glo "_law_gone", .glo "_law_begun", .glo "_law_any_gate", .glo "_law_any_net", .glo "_law_apart", .glo "_law_within", .glo "_law_begins", .glo "law", .cls "Play", .noat "Play" "graph", .noat "Play" "net", .noat "Play" "here", .noat "Play" "levels", .free "bool", .free "enumerate", .free "int", .free "isinstance", .free "len", .free "list", .free "max", .free "min", .free "range", .free "sorted", .free "sum", .free "tuple", .free "zip"]
abbrev R : PySem.W.OpenRow := PySem.W.OpenLaw.row PySem.Challenge.rw_calmwires_k61_moves
theorem txt {K : PySem.W.Frag} {h : Heap} {mg : Str → Option Value} (X : K.In h) (G : h.Ns mainGlobals mg) (c : He.SaysD fa fn K) : Txt K mg where
  a__wall := defAt_of (He.glo_ok X G (c.fact 0 (f := .glo "_wall") rfl)) (c.def_ 0 (d := h__wall) rfl) fun _ _ _ _ _ _ us hl => match us, hl with | [_], _ => rfl
  a_fits := defAt_of (He.glo_ok X G (c.fact 1 (f := .glo "fits") rfl)) (c.def_ 1 (d := h_fits) rfl) fun _ _ _ _ _ _ us hl => match us, hl with | [_, _], _ => rfl
  a_is_up := defAt_of (He.glo_ok X G (c.fact 2 (f := .glo "is_up") rfl)) (c.def_ 2 (d := h_is_up) rfl) fun _ _ _ _ _ _ us hl => match us, hl with | [_, _], _ => rfl
  a_bits := defAt_of (He.glo_ok X G (c.fact 3 (f := .glo "bits") rfl)) (c.def_ 3 (d := h_bits) rfl) fun _ _ _ _ _ _ us hl => match us, hl with | [_], _ => rfl
  a_can := defAt_of (He.glo_ok X G (c.fact 4 (f := .glo "can") rfl)) (c.def_ 4 (d := h_can) rfl) fun _ _ _ _ _ _ us hl => match us, hl with | [_, _, _], _ => rfl
  a_gates_of := defAt_of (He.glo_ok X G (c.fact 5 (f := .glo "gates_of") rfl)) (c.def_ 5 (d := h_gates_of) rfl) fun _ _ _ _ _ _ us hl => match us, hl with | [_], _ => rfl
  a_wire_called := defAt_of (He.glo_ok X G (c.fact 6 (f := .glo "wire_called") rfl)) (c.def_ 6 (d := h_wire_called) rfl) fun _ _ _ _ _ _ us hl => match us, hl with | [_, _, _, _], _ => rfl
  a_rows_apart := defAt_of (He.glo_ok X G (c.fact 7 (f := .glo "rows_apart") rfl)) (c.def_ 7 (d := h_rows_apart) rfl) fun _ _ _ _ _ _ us hl => match us, hl with | [_], _ => rfl
  a_apart := defAt_of (He.glo_ok X G (c.fact 8 (f := .glo "apart") rfl)) (c.def_ 8 (d := h_apart) rfl) fun _ _ _ _ _ _ us hl => match us, hl with | [_], _ => rfl
  a_Play___init__ := initP_at (c.fact 9 (f := .mkr "Play") rfl) (He.glo_ok X G (c.fact 10 (f := .glo "Play") rfl)) (c.def_ 9 (d := h_Play___init__) rfl) fun _ _ _ _ _ _ us hl => match us, hl with | [_, _, _], _ => rfl
  a_Play_stand := meth_at (c.fact 11 (f := .meth "Play" "stand") rfl) (c.def_ 10 (d := h_Play_stand) rfl) fun _ _ _ _ _ _ us hl => match us, hl with | [_], _ => rfl
  a_Play_level := meth_at (c.fact 12 (f := .meth "Play" "level") rfl) (c.def_ 11 (d := h_Play_level) rfl) fun _ _ _ _ _ _ us hl => match us, hl with | [_, _], _ => rfl
  a_Play_called := meth_at (c.fact 13 (f := .meth "Play" "called") rfl) (c.def_ 12 (d := h_Play_called) rfl) fun _ _ _ _ _ _ us hl => match us, hl with | [_], _ => rfl
  a_Play_moves := meth_at (c.fact 14 (f := .meth "Play" "moves") rfl) (c.def_ 13 (d := h_Play_moves) rfl) fun _ _ _ _ _ _ us hl => match us, hl with | [_], _ => rfl
  a_l_mix_2 := defAt_of (He.glo_ok X G (c.fact 15 (f := .glo "_law_mix") rfl)) (c.def_ 14 (d := h_l_mix_2) rfl) fun _ _ _ _ _ _ us hl => match us, hl with | [_, _], _ => rfl
  a_l_word := defAt_of (He.glo_ok X G (c.fact 16 (f := .glo "_law_word") rfl)) (c.def_ 15 (d := h_l_word) rfl) fun _ _ _ _ _ _ us hl => match us, hl with | [_, _], _ => rfl
  a_l_order := defAt_of (He.glo_ok X G (c.fact 17 (f := .glo "_law_order") rfl)) (c.def_ 16 (d := h_l_order) rfl) fun _ _ _ _ _ _ us hl => match us, hl with | [_, _, _], _ => rfl
  a_l_arrows_2 := defAt_of (He.glo_ok X G (c.fact 18 (f := .glo "_law_arrows") rfl)) (c.def_ 17 (d := h_l_arrows_2) rfl) fun _ _ _ _ _ _ us hl => match us, hl with | [_, _, _, _], _ => rfl
  a_l_graph_3 := defAt_of (He.glo_ok X G (c.fact 19 (f := .glo "_law_graph") rfl)) (c.def_ 18 (d := h_l_graph_3) rfl) fun _ _ _ _ _ _ us hl => match us, hl with | [_, _, _, _], _ => rfl
  a_l_can_3 := defAt_of (He.glo_ok X G (c.fact 20 (f := .glo "_law_can") rfl)) (c.def_ 19 (d := h_l_can_3) rfl) fun _ _ _ _ _ _ us hl => match us, hl with | [_, _, _], _ => rfl
  a_l_behind_2 := defAt_of (He.glo_ok X G (c.fact 21 (f := .glo "_law_behind") rfl)) (c.def_ 20 (d := h_l_behind_2) rfl) fun _ _ _ _ _ _ us hl => match us, hl with | [_, _, _], _ => rfl
  a_l_stands := defAt_of (He.glo_ok X G (c.fact 22 (f := .glo "_law_stands") rfl)) (c.def_ 21 (d := h_l_stands) rfl) fun _ _ _ _ _ _ us hl => match us, hl with | [_], _ => rfl
  a_l_want := defAt_of (He.glo_ok X G (c.fact 23 (f := .glo "_law_want") rfl)) (c.def_ 22 (d := h_l_want) rfl) fun _ _ _ _ _ _ us hl => match us, hl with | [_, _, _], _ => rfl
  a_l_choice_3 := defAt_of (He.glo_ok X G (c.fact 24 (f := .glo "_law_choice") rfl)) (c.def_ 23 (d := h_l_choice_3) rfl) fun _ _ _ _ _ _ us hl => match us, hl with | [_, _], _ => rfl
  a_l_wider := defAt_of (He.glo_ok X G (c.fact 25 (f := .glo "_law_wider") rfl)) (c.def_ 24 (d := h_l_wider) rfl) fun _ _ _ _ _ _ us hl => match us, hl with | [_, _, _, _, _], _ => rfl
  a_l_lookers_4 := defAt_of (He.glo_ok X G (c.fact 26 (f := .glo "_law_lookers") rfl)) (c.def_ 25 (d := h_l_lookers_4) rfl) fun _ _ _ _ _ _ us hl => match us, hl with | [_, _], _ => rfl
  a_l_any_graph_2 := defAt_of (He.glo_ok X G (c.fact 27 (f := .glo "_law_any_graph") rfl)) (c.def_ 26 (d := h_l_any_graph_2) rfl) fun _ _ _ _ _ _ us hl => match us, hl with | [_, _, _, _], _ => rfl
  a_l_gates := defAt_of (He.glo_ok X G (c.fact 28 (f := .glo "_law_gates") rfl)) (c.def_ 27 (d := h_l_gates) rfl) fun _ _ _ _ _ _ us hl => match us, hl with | [_], _ => rfl
  a_l_is_up := defAt_of (He.glo_ok X G (c.fact 29 (f := .glo "_law_up") rfl)) (c.def_ 28 (d := h_l_is_up) rfl) fun _ _ _ _ _ _ us hl => match us, hl with | [_, _], _ => rfl
  a_l_called := defAt_of (He.glo_ok X G (c.fact 30 (f := .glo "_law_called") rfl)) (c.def_ 29 (d := h_l_called) rfl) fun _ _ _ _ _ _ us hl => match us, hl with | [_, _, _], _ => rfl
  a_l_moves := defAt_of (He.glo_ok X G (c.fact 31 (f := .glo "_law_moves") rfl)) (c.def_ 30 (d := h_l_moves) rfl) fun _ _ _ _ _ _ us hl => match us, hl with | [_, _, _], _ => rfl
  a_l_wire_step := defAt_of (He.glo_ok X G (c.fact 32 (f := .glo "_law_wire_step") rfl)) (c.def_ 31 (d := h_l_wire_step) rfl) fun _ _ _ _ _ _ us hl => match us, hl with | [_, _, _], _ => rfl
  a_l_gone_2 := defAt_of (He.glo_ok X G (c.fact 33 (f := .glo "_law_gone") rfl)) (c.def_ 32 (d := h_l_gone_2) rfl) fun _ _ _ _ _ _ us hl => match us, hl with | [_, _, _, _], _ => rfl
  a_l_begun := defAt_of (He.glo_ok X G (c.fact 34 (f := .glo "_law_begun") rfl)) (c.def_ 33 (d := h_l_begun) rfl) fun _ _ _ _ _ _ us hl => match us, hl with | [_, _], _ => rfl
  a_l_any_gate := defAt_of (He.glo_ok X G (c.fact 35 (f := .glo "_law_any_gate") rfl)) (c.def_ 34 (d := h_l_any_gate) rfl) fun _ _ _ _ _ _ us hl => match us, hl with | [_, _, _, _, _, _], _ => rfl
  a_l_any_net := defAt_of (He.glo_ok X G (c.fact 36 (f := .glo "_law_any_net") rfl)) (c.def_ 35 (d := h_l_any_net) rfl) fun _ _ _ _ _ _ us hl => match us, hl with | [_, _, _, _], _ => rfl
  a_l_apart := defAt_of (He.glo_ok X G (c.fact 37 (f := .glo "_law_apart") rfl)) (c.def_ 36 (d := h_l_apart) rfl) fun _ _ _ _ _ _ us hl => match us, hl with | [_], _ => rfl
  a_l_within := defAt_of (He.glo_ok X G (c.fact 38 (f := .glo "_law_within") rfl)) (c.def_ 37 (d := h_l_within) rfl) fun _ _ _ _ _ _ us hl => match us, hl with | [_], _ => rfl
  a_l_begins := defAt_of (He.glo_ok X G (c.fact 39 (f := .glo "_law_begins") rfl)) (c.def_ 38 (d := h_l_begins) rfl) fun _ _ _ _ _ _ us hl => match us, hl with | [_, _], _ => rfl
  a_law_k61 := defAt_of (He.glo_ok X G (c.fact 40 (f := .glo "law") rfl)) (c.def_ 39 (d := h_law_k61) rfl) fun _ _ _ _ _ _ us hl => match us, hl with | [_], _ => rfl
  ply := plyC_of (c.fact 41 (f := .cls "Play") rfl) (c.fact 42 (f := .noat "Play" "graph") rfl) (c.fact 43 (f := .noat "Play" "net") rfl) (c.fact 44 (f := .noat "Play" "here") rfl) (c.fact 45 (f := .noat "Play" "levels") rfl)
  f_bool := He.free_ok X G (c.fact 46 (f := .free "bool") rfl)
  f_enumerate := He.free_ok X G (c.fact 47 (f := .free "enumerate") rfl)
  f_int := He.free_ok X G (c.fact 48 (f := .free "int") rfl)
  f_isinstance := He.free_ok X G (c.fact 49 (f := .free "isinstance") rfl)
  f_len := He.free_ok X G (c.fact 50 (f := .free "len") rfl)
  f_list := He.free_ok X G (c.fact 51 (f := .free "list") rfl)
  f_max := He.free_ok X G (c.fact 52 (f := .free "max") rfl)
  f_min := He.free_ok X G (c.fact 53 (f := .free "min") rfl)
  f_range := He.free_ok X G (c.fact 54 (f := .free "range") rfl)
  f_sorted := He.free_ok X G (c.fact 55 (f := .free "sorted") rfl)
  f_sum := He.free_ok X G (c.fact 56 (f := .free "sum") rfl)
  f_tuple := He.free_ok X G (c.fact 57 (f := .free "tuple") rfl)
  f_zip := He.free_ok X G (c.fact 58 (f := .free "zip") rfl)
theorem facts {P : Program} {w : World} {K : PySem.W.Frag} {h : Heap} {mg : Str → Option Value} {f : Addr} (L : ∀ ns : List Int, ns.length ≤ 63 → f_law_k61 [.scr ns] = .ok (.bl true)) (X : K.In h) (G : h.Ns mainGlobals mg) (hfa : mg ("law" : Str) = some (.ref f)) (c : He.SaysD fa fn K) :
    ∃ (fd : FuncData) (sp : Sp), (∀ (s : Shared) (v : Value), BindsTo s fd ⟨[v], []⟩ [("_law_script", v)]) ∧
      (∀ (H : Hp) (a : Addr) (ns : List Int), ns.length ≤ 63 → SqL K H a (ns.map V.int) → sp [.ref a] H (fun v _ => v = .bl true) fun _ _ _ => False) ∧
      ∀ base : Heap, K.In base → base.Ns mainGlobals mg → FnOk P w K mg base CX0 7 f fd ["_law_script"] sp := by
  obtain ⟨fd, F⟩ := c.def_ 39 (d := h_law_k61) rfl
  have e := hfa.symm.trans (He.glo_ok X G (c.fact 40 (f := .glo "law") rfl))
  have b := FunD.bindsA (ps := ["_law_script"]) F fun _ _ _ _ _ _ us hl => match us, hl with | [_], _ => rfl
  refine ⟨fd, spF mg K (f_law_k61), fun s v => ?_, fun H a ns hl hS => law_sp (L ns hl) hS, fun base _ _ => ?_⟩
  · exact b s [v] rfl
  · cases e
    exact g_law (txt X G c) (fun_of F)
abbrev hk : PySem.W.Hook := He.hookD 4 fa fn
def ob (s : PySem.W.SharedT) : He.AlD := He.obsDG 4 fa fn (HandSHeadRun.getT s)
theorem ob_eq (s : PySem.W.SharedT) : ob s = hk.obs s.abs := He.obsDG_eq (HandSHeadRun.getT_eq s)
def loose : List Str := (["Play", "_wall", "fits", "is_up", "bits", "can", "gates_of", "wire_called", "rows_apart", "apart", "_law_mix", "_law_word", "_law_order", "_law_arrows", "_law_graph", "_law_can", "_law_behind", "_law_stands", "_law_want", "_law_choice", "_law_wider", "_law_lookers", "_law_any_graph", "_law_gates", "_law_up", "_law_called", "_law_moves", "_law_wire_step", "_law_gone", "_law_begun"] : List Str) ++ (["_law_any_gate", "_law_any_net", "_law_apart", "_law_within", "_law_begins"] : List Str)
set_option maxHeartbeats 0 in
theorem run (w : World) : HandSHeadRun.RunEq R (PySem.W.view R.prog [40]) hk ob 4500 loose w := by
  intro os
  kernel_rfl
end CW
open PySem PySem.W PySem.Calls PyProof.Rows
set_option maxHeartbeats 0 in
theorem CW.holds_of (LT : ∀ ns : List Int, ns.length ≤ 63 → CW.f_law_k61 [CW.D.scr ns] = .ok (.bl true)) : PySem.Challenge.rw_calmwires_k61_moves.Holds := by
  w_on; o_law
  refine HandSHeadRun.head_any (r := OpenLaw.row PySem.Challenge.rw_calmwires_k61_moves) (q := view (OpenLaw.row PySem.Challenge.rw_calmwires_k61_moves).prog [40]) (H := CW.hk) (ob := CW.ob) (M := 4500) (loose := CW.loose) (d := HandSHeadRun.topDef (OpenLaw.row PySem.Challenge.rw_calmwires_k61_moves).prog 40) (kwd := []) CW.ob_eq
    (by kernel_rfl) (fun s => by kernel_rfl) CW.run (by kernel_rfl) (by kernel_rfl) (by kernel_rfl) (by rfl) (by first | assumption | decide +kernel) (by decide +kernel) ⟨rfl, rfl, rfl, rfl, rfl, by decide +kernel⟩ ?hw ?hc
  case hw => w_witness2
  case hc =>
    refine L2.walk_ofE (l := PySem.Challenge.rw_calmwires_k61_moves) (n := 63) (k := 7) (x := "_law_script") (CX := L2.CX0) rfl (by decide) (by kernel_rfl) ⟨rfl, by decide, by decide⟩ ?F (fun _ _ _ _ z => z)
    intro w mg fa h Y G hmg0
    obtain ⟨K, KX, c⟩ := Y
    have hmg : mg ("law" : PySem.Str) = some (.ref fa) := by
      have e : (HandSHeadRun.topDef (OpenLaw.row PySem.Challenge.rw_calmwires_k61_moves).prog 40).name = ("law" : PySem.Str) := by kernel_rfl
      rw [← e]
      exact hmg0
    obtain ⟨fd, sp, hb, hs, hF⟩ := CW.facts (P := (PySem.Challenge.rw_calmwires_k61_moves).prog) (w := w) LT KX G hmg c
    exact ⟨K, fd, sp, KX, hb, fun H a ns hl _ hS => hs H a ns hl hS, hF⟩

namespace CW
open PySem PySem.Spec PyProof.Rows L2
def nD (n : Nat) : D := .int (n : Int)
@[simp] theorem int_lit (n : Nat) : D.int (no_index (OfNat.ofNat n)) = nD (OfNat.ofNat n) := (rfl)
@[simp] theorem int_cast (n : Nat) : D.int (n : Int) = nD n := (rfl)
theorem bitAnd_nat (a b : Nat) : Builtin.bitAnd (a : Int) (b : Int) = ((a &&& b : Nat) : Int) := by
  unfold Builtin.bitAnd
  rw [decide_eq_true (Int.natCast_nonneg a), decide_eq_true (Int.natCast_nonneg b)]
  rfl
theorem bitOr_nat (a b : Nat) : Builtin.bitOr (a : Int) (b : Int) = ((a ||| b : Nat) : Int) := _root_.Bits.bitOr_pp (Int.natCast_nonneg a) (Int.natCast_nonneg b)
theorem bitXor_nat (a b : Nat) : Builtin.bitXor (a : Int) (b : Int) = ((a ^^^ b : Nat) : Int) := _root_.Bits.bitXor_pp (Int.natCast_nonneg a) (Int.natCast_nonneg b)
theorem mulOk_of {i j : Int} (h : (-(2 ^ 64) < i ∧ i < 2 ^ 64) ∨ (-(2 ^ 64) < j ∧ j < 2 ^ 64)) : mulOk i j = true := by
  unfold mulOk
  rw [Bool.or_eq_true, decide_eq_true_eq, decide_eq_true_eq]
  exact h
section
variable {a b : Nat} {i : Int} {z : Str} {c : Bool}
@[simp] theorem add_nn : oAdd (nD a) (nD b) = .ok (nD (a + b)) := (rfl)
@[simp] theorem add_ni : oAdd (nD a) (.int i) = .ok (.int (a + i)) := (rfl)
@[simp] theorem add_in : oAdd (.int i) (nD b) = .ok (.int (i + b)) := (rfl)
@[simp] theorem sub_nn (h : b ≤ a) : oSub (nD a) (nD b) = .ok (nD (a - b)) := by
  show Out.ok (D.int ((a : Int) - b)) = _
  rw [nD, show (a : Int) - b = ((a - b : Nat) : Int) by omega]
@[simp] theorem sub_in : oSub (.int i) (nD b) = .ok (.int (i - b)) := (rfl)
@[simp] theorem neg_n : oNeg (nD a) = .ok (.int (-(a : Int))) := (rfl)
theorem mul_nn (h : a < 18446744073709551616 ∨ b < 18446744073709551616) : oMul (nD a) (nD b) = .ok (nD (a * b)) := by
  simp only [nD, oMul_int]
  rw [if_pos (mulOk_of (h.imp (fun h => by constructor <;> omega) fun h => by constructor <;> omega)), Int.natCast_mul]
@[simp] theorem mul_l (h : a < 18446744073709551616) : oMul (nD a) (nD b) = .ok (nD (a * b)) := mul_nn (.inl h)
@[simp] theorem mul_r (h : b < 18446744073709551616) : oMul (nD a) (nD b) = .ok (nD (a * b)) := mul_nn (.inr h)
@[simp] theorem mul_in (h : b < 18446744073709551616) : oMul (.int i) (nD b) = .ok (.int (i * b)) := by
  simp only [nD, oMul_int]
  rw [if_pos (mulOk_of (.inr (by constructor <;> omega)))]
@[simp] theorem mul_ni (h : a < 18446744073709551616) : oMul (nD a) (.int i) = .ok (.int (a * i)) := by
  simp only [nD, oMul_int]
  rw [if_pos (mulOk_of (.inl (by constructor <;> omega)))]
@[simp] theorem mod_nn (h : 0 < b) : oMod (nD a) (nD b) = .ok (nD (a % b)) := by
  simp only [nD, oMod_int]
  rw [if_pos (by omega), Int.natCast_emod]
@[simp] theorem mod_in (h : 0 < b) : oMod (.int i) (nD b) = .ok (nD (i % (b : Int)).toNat) := by
  simp only [nD, oMod_int]
  rw [if_pos (by omega), Int.toNat_of_nonneg (Int.emod_nonneg _ (by omega))]
@[simp] theorem div_nn (h : 0 < b) (h2 : b < 18446744073709551616) : oDiv (nD a) (nD b) = .ok (nD (a / b)) := by
  simp only [nD, oDiv_int]
  rw [if_pos (by constructor <;> omega), Int.natCast_ediv]
@[simp] theorem div_in (h : 0 < b) (h2 : b < 18446744073709551616) : oDiv (.int i) (nD b) = .ok (.int (i / b)) := by
  simp only [nD, oDiv_int]
  rw [if_pos (by constructor <;> omega)]
@[simp] theorem pow_nn (h : b ≤ 1000000) (h2 : a < 18446744073709551616) : oPow (nD a) (nD b) = .ok (nD (a ^ b)) := by
  show (if 0 ≤ (b : Int) ∧ (b : Int) ≤ 1000000 ∧ (a : Int).natAbs < 2 ^ 64 then Out.ok (D.int ((a : Int) ^ (b : Int).toNat)) else .stuck) = _
  rw [if_pos (by refine ⟨?_, ?_, ?_⟩ <;> omega), nD, Int.toNat_natCast, Int.natCast_pow]
@[simp] theorem shl_nn (h : b ≤ 1000000) (h2 : a < 18446744073709551616) : oShl (nD a) (nD b) = .ok (nD (a * 2 ^ b)) := by
  show (if 0 ≤ (b : Int) ∧ (b : Int) ≤ 1000000 ∧ (a : Int).natAbs < 2 ^ 64 then Out.ok (D.int ((a : Int) * 2 ^ (b : Int).toNat)) else .stuck) = _
  rw [if_pos (by refine ⟨?_, ?_, ?_⟩ <;> omega), nD, Int.toNat_natCast, Int.natCast_mul, Int.natCast_pow]
  rfl
@[simp] theorem shr_nn : oShr (nD a) (nD b) = .ok (nD (a / 2 ^ b)) := by
  show (if 0 ≤ (b : Int) then Out.ok (D.int ((a : Int) / 2 ^ (b : Int).toNat)) else .stuck) = _
  rw [if_pos (by omega), nD, Int.toNat_natCast, Int.natCast_ediv, Int.natCast_pow]
  rfl
@[simp] theorem and_nn : oAnd (nD a) (nD b) = .ok (nD (a &&& b)) := by
  show Out.ok (D.int (Builtin.bitAnd a b)) = _
  rw [bitAnd_nat, nD]
@[simp] theorem or_nn : oOr (nD a) (nD b) = .ok (nD (a ||| b)) := by
  show Out.ok (D.int (Builtin.bitOr a b)) = _
  rw [bitOr_nat, nD]
@[simp] theorem xor_nn : oXor (nD a) (nD b) = .ok (nD (a ^^^ b)) := by
  show Out.ok (D.int (Builtin.bitXor a b)) = _
  rw [bitXor_nat, nD]
@[simp] theorem lt_nn : oLt (nD a) (nD b) = .ok (.bl (decide (a < b))) := by
  show Out.ok (D.bl (decide ((a : Int) < b))) = _
  simp
@[simp] theorem le_nn : oLe (nD a) (nD b) = .ok (.bl (decide (a ≤ b))) := by
  show Out.ok (D.bl (decide ((a : Int) ≤ b))) = _
  simp
@[simp] theorem gt_nn : oGt (nD a) (nD b) = .ok (.bl (decide (b < a))) := by
  show Out.ok (D.bl (decide ((b : Int) < a))) = _
  simp
@[simp] theorem ge_nn : oGe (nD a) (nD b) = .ok (.bl (decide (b ≤ a))) := by
  show Out.ok (D.bl (decide ((b : Int) ≤ a))) = _
  simp
theorem beq_nn : ((a : Int) == (b : Int)) = (a == b) := by
  rw [Bool.eq_iff_iff, beq_iff_eq, beq_iff_eq]
  omega
@[simp] theorem eq_nn : oEq (nD a) (nD b) = .ok (.bl (a == b)) := by rw [nD, nD, oEq_int, beq_nn]
@[simp] theorem ne_nn : oNe (nD a) (nD b) = .ok (.bl (!(a == b))) := by rw [nD, nD, oNe_int, beq_nn]
@[simp] theorem eq_in : oEq (.int i) (nD b) = .ok (.bl (i == (b : Int))) := by rw [nD, oEq_int]
@[simp] theorem ne_in : oNe (.int i) (nD b) = .ok (.bl (!(i == (b : Int)))) := by rw [nD, oNe_int]
@[simp] theorem eq_ni : oEq (nD a) (.int i) = .ok (.bl ((a : Int) == i)) := by rw [nD, oEq_int]
@[simp] theorem ne_ni : oNe (nD a) (.int i) = .ok (.bl (!((a : Int) == i))) := by rw [nD, oNe_int]
@[simp] theorem eqD_nn : eqD (nD a) (nD b) = (a == b) := by rw [nD, nD, eqD_int, beq_nn]
@[simp] theorem eqD_in : eqD (.int i) (nD b) = (i == (b : Int)) := by rw [nD, eqD_int]
@[simp] theorem eqD_ni : eqD (nD a) (.int i) = ((a : Int) == i) := by rw [nD, eqD_int]
@[simp] theorem okD_nD (k) : okD k (nD a) = true := okD_int k a
@[simp] theorem flatD_nD : flatD (nD a) = true := rfl
@[simp] theorem flatD_int : flatD (.int i) = true := rfl
@[simp] theorem flatD_str : flatD (.str z) = true := rfl
@[simp] theorem flatD_bl : flatD (.bl c) = true := rfl
@[simp] theorem lf_nD : lf (nD a) = true := lf_int a
@[simp] theorem isNon_nD : isNon (nD a) = false := rfl
@[simp] theorem isD_nD (t : Ty) : isD t (nD a) = .ok (.bl (t == .int)) := isD_int a t
@[simp] theorem truD_nD : truD (nD a) = .ok (a != 0) := by
  show Out.ok ((a : Int) != 0) = _
  congr 1
  rw [Bool.eq_iff_iff]
  simp
def nI (n : Nat) : Int := (n : Int)
@[simp] theorem asI_nD : asI (nD a) = .ok (some (nI a)) := (rfl)
@[simp] theorem rg1_nD (h : a < 4611686018427387904) : rg1 [nD a] = .ok ((List.range a).map nD) := rg1_nat h
theorem rgL_nat (a b : Nat) : rngL (a : Int) (b : Int) = (List.range (b - a)).map fun k => nD (a + k) := by
  unfold rngL
  rw [show ((b : Int) - a).toNat = b - a by omega]
  apply List.map_congr_left
  intro k _
  rw [nD, Int.natCast_add]
@[simp] theorem rg2_nD (h : a < 4611686018427387904) (h2 : b < 4611686018427387904) : rg2 [nD a, nD b] = .ok ((List.range (b - a)).map fun k => nD (a + k)) := by
  rw [nD, nD, rg2_int]
  rw [if_pos (by refine ⟨?_, ?_, ?_, ?_⟩ <;> omega), rgL_nat]
theorem enumL_eq (ds : List D) : enumL ds = ds.zipIdx.map fun p => .tup [nD p.2, p.1] := rfl
@[simp] theorem bInt_nD : bInt [nD a] = .ok (nD a) := rfl
@[simp] theorem bInt_bln : bInt [.bl c] = .ok (nD (if c then 1 else 0)) := by cases c <;> rfl
@[simp] theorem bLen_lstn (ds) : bLen [.lst ds] = .ok (nD ds.length) := rfl
@[simp] theorem bLen_tupn (ds) : bLen [.tup ds] = .ok (nD ds.length) := rfl
@[simp] theorem bLen_scrn (ds) : bLen [.scr ds] = .ok (nD ds.length) := rfl
@[simp] theorem bLen_strn : bLen [.str z] = if z.length ≤ sizeLine then .ok (nD z.length) else .stuck := rfl
@[simp] theorem bMax2_nn : bMax2 [nD a, nD b] = .ok (nD (max a b)) := by
  show Out.ok (D.int (if (b : Int) > a then (b : Int) else a)) = _
  rw [nD]
  congr 2
  omega
@[simp] theorem bMin2_nn : bMin2 [nD a, nD b] = .ok (nD (min a b)) := by
  show Out.ok (D.int (if (b : Int) < a then (b : Int) else a)) = _
  rw [nD]
  congr 2
  omega
theorem sum_cast : ∀ ns : List Nat, (ns.map fun n : Nat => (n : Int)).sum = ((ns.sum : Nat) : Int)
  | [] => rfl
  | n :: ns => by simp [sum_cast ns]
theorem bSum_nn (ns : List Nat) : bSum [.lst (ns.map nD)] = .ok (nD ns.sum) := by
  have e : ns.map nD = (ns.map fun n : Nat => (n : Int)).map D.int := by rw [List.map_map]; rfl
  rw [e, bSum_ints, sum_cast, nD]
theorem nD_inj : nD a = nD b ↔ a = b := by
  unfold nD
  constructor
  · intro h; injection h with h; omega
  · intro h; rw [h]
end

@[simp] theorem pos_pow2 (n : Nat) : 0 < 2 ^ n := Nat.pow_pos (by decide)
@[simp] theorem pos_lit (n m : Nat) [h : NeZero n] : 0 < (no_index (OfNat.ofNat n)) + m := Nat.lt_of_lt_of_le (Nat.pos_of_neZero n) (Nat.le_add_right _ _)
@[simp] theorem pos_lit' (n m : Nat) [h : NeZero n] : 0 < m + (no_index (OfNat.ofNat n)) := Nat.lt_of_lt_of_le (Nat.pos_of_neZero n) (Nat.le_add_left _ _)
theorem atI_nat' {α : Type} (xs : List α) (i : Nat) : atI xs (i : Int) = xs[i]? := by
  unfold atI ixN
  by_cases h : i < xs.length
  · rw [if_pos (by omega), if_pos (by omega)]; simp
  · rw [if_pos (by omega), if_neg (by omega)]
    simp
    omega
@[simp] theorem ix_tup (xs : List D) (i : Nat) : oIx (.tup xs) (nD i) = ixO xs[i]? := by
  rw [nD, oIx_tup, atI_nat']
  cases xs[i]? <;> rfl
@[simp] theorem ix_lst (xs : List D) (i : Nat) : oIx (.lst xs) (nD i) = ixO xs[i]? := by
  rw [nD, oIx_lst, atI_nat']
  cases xs[i]? <;> rfl
@[simp] theorem ix_scr (xs : List Int) (i : Nat) : oIx (.scr xs) (nD i) = ixO (xs[i]?.map D.int) := by
  rw [nD, oIx_scr, atI_nat']
  cases xs[i]? <;> rfl
@[simp] theorem int_add_cast (a b : Nat) : D.int ((a : Int) + (b : Int)) = nD (a + b) := by rw [nD, Int.natCast_add]
@[simp] theorem withI_nD (a : Nat) (k : Int → Fl) : withI (some (some (nD a))) k = k a := (rfl)
@[simp] theorem isI_nD (a : Nat) (k : Int → Fl) : isI (nD a) k = k a := (rfl)
theorem cutL_nat {α : Type} (xs : List α) (a b : Nat) : cutL xs (some (a : Int)) (some (b : Int)) = (xs.take b).drop a := by
  unfold cutL
  rw [HT.sIx_nat, HT.sIx_nat, List.drop_take]
  by_cases ha : a ≤ xs.length
  · rw [Nat.min_eq_left ha]
    by_cases hb : b ≤ xs.length
    · rw [Nat.min_eq_left hb]
    · rw [Nat.min_eq_right (by omega), List.take_of_length_le (by simp), List.take_of_length_le (by simp; omega)]
  · rw [Nat.min_eq_right (show xs.length ≤ a by omega), List.drop_of_length_le (Nat.le_refl _), List.drop_of_length_le (show xs.length ≤ a by omega)]
    simp
theorem cutL_to {α : Type} (xs : List α) (b : Nat) : cutL xs none (some (b : Int)) = xs.take b := by
  unfold cutL
  rw [HT.sIx_none, HT.sIx_nat]
  simp only [List.drop_zero, Nat.sub_zero]
  by_cases hb : b ≤ xs.length
  · rw [Nat.min_eq_left hb]
  · rw [Nat.min_eq_right (by omega), List.take_of_length_le (Nat.le_refl _), List.take_of_length_le (by omega)]
theorem cutL_from {α : Type} (xs : List α) (a : Nat) : cutL xs (some (a : Int)) none = xs.drop a := by
  unfold cutL
  rw [HT.sIx_none, HT.sIx_nat]
  by_cases ha : a ≤ xs.length
  · rw [Nat.min_eq_left ha, List.take_of_length_le (by simp)]
  · rw [Nat.min_eq_right (by omega), List.drop_of_length_le (Nat.le_refl _), List.drop_of_length_le (by omega)]
    simp

section
variable {α : Type} (xs : List α) (a b : Nat)
@[simp] theorem cut_nn : cutL xs (some (nI a)) (some (nI b)) = (xs.take b).drop a := cutL_nat xs a b
@[simp] theorem cut_to : cutL xs none (some (nI b)) = xs.take b := cutL_to xs b
@[simp] theorem cut_from : cutL xs (some (nI a)) none = xs.drop a := cutL_from xs a
@[simp] theorem cut_init : cutL xs none (some (-1)) = xs.dropLast := by
  unfold cutL
  rw [HT.sIx_none, show HT.sIx xs.length xs.length (some (-1)) = xs.length - 1 from by
    show (if (-1 : Int) < 0 then ((-1 : Int) + (xs.length : Nat)).toNat else min (-1 : Int).toNat xs.length) = _
    rw [if_pos (by decide)]
    omega]
  simp [List.dropLast_eq_take]
end
theorem forL_find {α : Type} {is : List Nat} {asg : D → Option (List D)} {b : Env → Fl} (enc : α → D) (as : α → List D) (ha : ∀ x, asg (enc x) = some (as x)) (R : Env → Prop) (p : α → Bool) (d : α → D) :
    ∀ (xs : List α) (ρ : Env), R ρ → (∀ x ρ, x ∈ xs → R ρ → if p x then b (setsE ρ (is.zip (as x))) = .ret (d x) else ∃ ρ', (b (setsE ρ (is.zip (as x))) = .nx ρ' ∨ b (setsE ρ (is.zip (as x))) = .ct ρ') ∧ R ρ') →
    match xs.find? p with
      | some x => forL is asg b (xs.map enc) ρ = .ret (d x)
      | none => ∃ ρ', forL is asg b (xs.map enc) ρ = .nx ρ' ∧ R ρ'
  | [], ρ, h, _ => ⟨ρ, rfl, h⟩
  | x :: xs, ρ, h, hb => by
    have h1 := hb x ρ List.mem_cons_self h
    rw [List.map_cons, forL_cons, ha]
    dsimp only
    by_cases e : p x = true
    · rw [if_pos e] at h1
      rw [List.find?_cons_of_pos e]
      dsimp only
      rw [h1]
    · rw [if_neg e] at h1
      rw [List.find?_cons_of_neg e]
      obtain ⟨ρ', hc, hr⟩ := h1
      have ih := forL_find enc as ha R p d xs ρ' hr fun x ρ hx => hb x ρ (List.mem_cons_of_mem _ hx)
      rcases hc with hc | hc <;> (rw [hc]; exact ih)
theorem compL_map {α : Type} {is : List Nat} {asg : D → Option (List D)} {ev : Env → Out D} {ρ : Env} (enc : α → D) (as : α → List D) (ha : ∀ x, asg (enc x) = some (as x)) (g : α → D) :
    ∀ xs : List α, (∀ x ∈ xs, ev (setsE ρ (is.zip (as x))) = .ok (g x)) → compL is asg cYes ev ρ (xs.map enc) = .ok (xs.map g)
  | [], _ => rfl
  | x :: xs, h => by
    rw [List.map_cons, compL_cons, ha]
    simp only [q_cYes, noX_ok, Out.bind_ok, h x List.mem_cons_self, compL_map enc as ha g xs fun y hy => h y (List.mem_cons_of_mem _ hy), List.map_cons]
theorem compL_filter {α : Type} {is : List Nat} {asg : D → Option (List D)} {c : Env → Out Bool} {ev : Env → Out D} {ρ : Env} (enc : α → D) (as : α → List D) (ha : ∀ x, asg (enc x) = some (as x)) (p : α → Bool) (g : α → D) :
    ∀ xs : List α, (∀ x ∈ xs, c (setsE ρ (is.zip (as x))) = .ok (p x)) → (∀ x ∈ xs, p x = true → ev (setsE ρ (is.zip (as x))) = .ok (g x)) → compL is asg c ev ρ (xs.map enc) = .ok ((xs.filter p).map g)
  | [], _, _ => rfl
  | x :: xs, hc, h => by
    rw [List.map_cons, compL_cons, ha]
    have ih := compL_filter enc as ha p g xs (fun y hy => hc y (List.mem_cons_of_mem _ hy)) fun y hy => h y (List.mem_cons_of_mem _ hy)
    simp only [hc x List.mem_cons_self, noX_ok, Out.bind_ok]
    by_cases e : p x = true
    · rw [e]
      simp only [h x List.mem_cons_self e, noX_ok, Out.bind_ok, ih, List.filter_cons_of_pos e, List.map_cons]
    · rw [eq_false_of_ne_true e]
      simp only [ih, List.filter_cons_of_neg e]
end CW
namespace CW
open PySem PySem.Spec PyProof.Rows L2
def ofL (l : List Nat) : Str := ⟨l.toArray⟩
def toL (z : Str) : List Nat := z.cps.toList
theorem ofL_toL (z : Str) : ofL (toL z) = z := rfl
@[simp] theorem toL_ofL (l : List Nat) : toL (ofL l) = l := by simp [toL, ofL]
theorem ofL_inj {a b : List Nat} : ofL a = ofL b ↔ a = b := ⟨fun h => by have := congrArg toL h; simpa using this, fun h => by rw [h]⟩
@[simp] theorem ofL_length (l : List Nat) : (ofL l).length = l.length := by simp [ofL, Str.length]
theorem ofL_append (a b : List Nat) : ofL a ++ ofL b = ofL (a ++ b) := by
  have h : toL (ofL a ++ ofL b) = a ++ b := by
    show (Str.append (ofL a) (ofL b)).cps.toList = _
    simp [Str.append, ofL]
  rw [← ofL_toL (ofL a ++ ofL b), h]
def sD (l : List Nat) : D := .str (ofL l)
@[simp] theorem str_sD (z : Str) : D.str z = sD (toL z) := (rfl)
theorem sD_inj {a b : List Nat} : sD a = sD b ↔ a = b := by
  unfold sD
  constructor
  · intro h; injection h with h; exact ofL_inj.mp h
  · intro h; rw [h]
theorem beq_ofL (a b : List Nat) : (ofL a == ofL b) = (a == b) := by
  rw [Bool.eq_iff_iff, beq_iff_eq, beq_iff_eq, ofL_inj]
section
variable {a b l : List Nat} {i : Nat} {c : Nat} {z : Str}
theorem add_ss (h : a.length + b.length ≤ sizeLine) : oAdd (sD a) (sD b) = .ok (sD (a ++ b)) := by
  rw [sD, sD, oAdd_str, ofL_length, ofL_length, if_pos h, ofL_append, sD]
@[simp] theorem add_ss' (h : a.length + b.length ≤ 1000000) : oAdd (sD a) (sD b) = .ok (sD (a ++ b)) := add_ss (le_line h)
@[simp] theorem eq_ss : oEq (sD a) (sD b) = .ok (.bl (a == b)) := by rw [sD, sD, oEq_str, beq_ofL]
@[simp] theorem ne_ss : oNe (sD a) (sD b) = .ok (.bl (!(a == b))) := by rw [sD, sD, oNe_str, beq_ofL]
@[simp] theorem eqD_ss : eqD (sD a) (sD b) = (a == b) := by rw [sD, sD, eqD_str, beq_ofL]
@[simp] theorem flatD_sD : flatD (sD a) = true := (rfl)
@[simp] theorem lf_sD : lf (sD a) = true := lf_str _
@[simp] theorem isD_sD (t : Ty) : isD t (sD a) = .ok (.bl (t == .str)) := isD_str _ t
@[simp] theorem isNon_sD : isNon (sD a) = false := (rfl)
@[simp] theorem isStrD_sD : isStrD (sD a) = true := (rfl)
@[simp] theorem bLen_sD (h : l.length ≤ 1000000) : bLen [sD l] = .ok (nD l.length) := by
  rw [sD, bLen_strn, ofL_length, if_pos (le_line h)]
theorem ix_s (h : l.length ≤ 1000000) : oIx (sD l) (nD i) = ixO (l[i]?.map fun c => sD [c]) := by
  show (if (ofL l).length ≤ sizeLine then match atI (ofL l).cps.toList (i : Int) with | some c => Out.ok (D.str ⟨#[c]⟩) | none => .stuck else .stuck) = _
  rw [ofL_length, if_pos (le_line h), atI_nat']
  have : (ofL l).cps.toList = l := toL_ofL l
  rw [this]
  cases l[i]? <;> rfl
@[simp] theorem ix_s' (h : l.length ≤ 1000000) : oIx (sD l) (nD i) = ixO (l[i]?.map fun c => sD [c]) := ix_s h
theorem sl_s (lo hi : Option Int) (h : l.length ≤ 1000000) : oSl lo hi (sD l) = .ok (sD (cutL l lo hi)) := by
  rw [sD, oSl_str, ofL_length, if_pos (le_line h)]
  unfold cutS cutL
  have e : (ofL l).cps.toList = l := toL_ofL l
  rw [e, ofL_length]
  rfl
@[simp] theorem sl_s' (lo hi : Option Int) (h : l.length ≤ 1000000) : oSl lo hi (sD l) = .ok (sD (cutL l lo hi)) := sl_s lo hi h
@[simp] theorem iSeq_sD : iSeq (sD l) = .ok (l.map fun c => sD [c]) := by
  rw [sD, iSeq_str]
  have e : (ofL l).cps.toList = l := toL_ofL l
  rw [e]
  rfl
theorem inD_cons (x d : D) (ds : List D) : inD x (d :: ds) = (eqD d x || inD x ds) := rfl
theorem inD_nn (x : Nat) : ∀ ks : List Nat, inD (nD x) (ks.map nD) = decide (x ∈ ks)
  | [] => rfl
  | k :: ks => by
    rw [List.map_cons, inD_cons, inD_nn x ks, eqD_nn, Bool.eq_iff_iff, Bool.or_eq_true, beq_iff_eq, decide_eq_true_eq, decide_eq_true_eq, List.mem_cons, eq_comm]
theorem allflat_n : ∀ ks : List Nat, (ks.map nD).all flatD = true
  | [] => rfl
  | k :: ks => by rw [List.map_cons, List.all_cons, allflat_n ks]; rfl
theorem oIn_lst {x : D} {ds : List D} (neg : Bool) (h1 : flatD x = true) (h2 : ds.all flatD = true) : oIn neg x (.lst ds) = .ok (.bl (neg != inD x ds)) := by
  have : oIn neg x (.lst ds) = if (flatD x && ds.all flatD) || (okD 60 x && okDs 59 ds) then .ok (.bl (neg != inD x ds)) else .stuck := by cases x <;> rfl
  rw [this, h1, h2]
  rfl
theorem oIn_tup {x : D} {ds : List D} (neg : Bool) (h1 : flatD x = true) (h2 : ds.all flatD = true) : oIn neg x (.tup ds) = .ok (.bl (neg != inD x ds)) := by
  have : oIn neg x (.tup ds) = if flatD x && ds.all flatD then .ok (.bl (neg != inD x ds)) else .stuck := by cases x <;> rfl
  rw [this, h1, h2]
  rfl
theorem in_nn (neg : Bool) (x : Nat) (ks : List Nat) : oIn neg (nD x) (.lst (ks.map nD)) = .ok (.bl (neg != decide (x ∈ ks))) := by
  rw [oIn_lst neg flatD_nD (allflat_n ks), inD_nn]
end
def abc : List Nat := (List.range 26).map (97 + ·)
theorem abc_str : ("abcdefghijklmnopqrstuvwxyz" : Str) = ofL abc := by decide +kernel
@[simp] theorem toL_abc : toL "abcdefghijklmnopqrstuvwxyz" = abc := by rw [abc_str, toL_ofL]
@[simp] theorem abc_len : abc.length = 26 := by decide
theorem abc_at {i : Nat} (h : i < 26) : abc[i]? = some (97 + i) := by
  unfold abc
  rw [List.getElem?_map, List.getElem?_range h]
  rfl
theorem empty_str : ("" : Str) = ofL [] := by decide +kernel
@[simp] theorem toL_empty : toL "" = [] := by rw [empty_str, toL_ofL]
end CW
namespace CW
open PySem PySem.Spec PyProof.Rows L2
def joinN (s : List Nat) (ws : List (List Nat)) : List Nat := _root_.TL.joinL s ws
@[simp] theorem joinN_nil (s) : joinN s [] = [] := (rfl)
@[simp] theorem joinN_one (s w) : joinN s [w] = w := (rfl)
end CW
namespace CW
open PySem PySem.Spec PyProof.Rows L2
@[simp] theorem sx_NoText_NoText : subX "NoText" "NoText" = true := by decide +kernel
@[simp] theorem sx_NoText_Broken : subX "NoText" "Broken" = false := by decide +kernel
@[simp] theorem sx_NoText_Crowded : subX "NoText" "Crowded" = false := by decide +kernel
@[simp] theorem sx_NoText_TooMany : subX "NoText" "TooMany" = false := by decide +kernel
@[simp] theorem sx_NoText_CalledOff : subX "NoText" "CalledOff" = false := by decide +kernel
@[simp] theorem sx_NoText_Clash : subX "NoText" "Clash" = false := by decide +kernel
@[simp] theorem sx_NoText_NoMove : subX "NoText" "NoMove" = false := by decide +kernel
@[simp] theorem sx_NoText_NoPlace : subX "NoText" "NoPlace" = false := by decide +kernel
@[simp] theorem sx_NoText_CalmError : subX "NoText" "CalmError" = true := by decide +kernel
@[simp] theorem sx_NoText_ValueError : subX "NoText" "ValueError" = true := by decide +kernel
@[simp] theorem sx_Broken_NoText : subX "Broken" "NoText" = false := by decide +kernel
@[simp] theorem sx_Broken_Broken : subX "Broken" "Broken" = true := by decide +kernel
@[simp] theorem sx_Broken_Crowded : subX "Broken" "Crowded" = false := by decide +kernel
@[simp] theorem sx_Broken_TooMany : subX "Broken" "TooMany" = false := by decide +kernel
@[simp] theorem sx_Broken_CalledOff : subX "Broken" "CalledOff" = false := by decide +kernel
@[simp] theorem sx_Broken_Clash : subX "Broken" "Clash" = false := by decide +kernel
@[simp] theorem sx_Broken_NoMove : subX "Broken" "NoMove" = false := by decide +kernel
@[simp] theorem sx_Broken_NoPlace : subX "Broken" "NoPlace" = false := by decide +kernel
@[simp] theorem sx_Broken_CalmError : subX "Broken" "CalmError" = true := by decide +kernel
@[simp] theorem sx_Broken_ValueError : subX "Broken" "ValueError" = true := by decide +kernel
@[simp] theorem sx_Crowded_NoText : subX "Crowded" "NoText" = false := by decide +kernel
@[simp] theorem sx_Crowded_Broken : subX "Crowded" "Broken" = false := by decide +kernel
@[simp] theorem sx_Crowded_Crowded : subX "Crowded" "Crowded" = true := by decide +kernel
@[simp] theorem sx_Crowded_TooMany : subX "Crowded" "TooMany" = false := by decide +kernel
@[simp] theorem sx_Crowded_CalledOff : subX "Crowded" "CalledOff" = false := by decide +kernel
@[simp] theorem sx_Crowded_Clash : subX "Crowded" "Clash" = false := by decide +kernel
@[simp] theorem sx_Crowded_NoMove : subX "Crowded" "NoMove" = false := by decide +kernel
@[simp] theorem sx_Crowded_NoPlace : subX "Crowded" "NoPlace" = false := by decide +kernel
@[simp] theorem sx_Crowded_CalmError : subX "Crowded" "CalmError" = true := by decide +kernel
@[simp] theorem sx_Crowded_ValueError : subX "Crowded" "ValueError" = true := by decide +kernel
@[simp] theorem sx_TooMany_NoText : subX "TooMany" "NoText" = false := by decide +kernel
@[simp] theorem sx_TooMany_Broken : subX "TooMany" "Broken" = false := by decide +kernel
@[simp] theorem sx_TooMany_Crowded : subX "TooMany" "Crowded" = false := by decide +kernel
@[simp] theorem sx_TooMany_TooMany : subX "TooMany" "TooMany" = true := by decide +kernel
@[simp] theorem sx_TooMany_CalledOff : subX "TooMany" "CalledOff" = false := by decide +kernel
@[simp] theorem sx_TooMany_Clash : subX "TooMany" "Clash" = false := by decide +kernel
@[simp] theorem sx_TooMany_NoMove : subX "TooMany" "NoMove" = false := by decide +kernel
@[simp] theorem sx_TooMany_NoPlace : subX "TooMany" "NoPlace" = false := by decide +kernel
@[simp] theorem sx_TooMany_CalmError : subX "TooMany" "CalmError" = true := by decide +kernel
@[simp] theorem sx_TooMany_ValueError : subX "TooMany" "ValueError" = true := by decide +kernel
@[simp] theorem sx_CalledOff_NoText : subX "CalledOff" "NoText" = false := by decide +kernel
@[simp] theorem sx_CalledOff_Broken : subX "CalledOff" "Broken" = false := by decide +kernel
@[simp] theorem sx_CalledOff_Crowded : subX "CalledOff" "Crowded" = false := by decide +kernel
@[simp] theorem sx_CalledOff_TooMany : subX "CalledOff" "TooMany" = false := by decide +kernel
@[simp] theorem sx_CalledOff_CalledOff : subX "CalledOff" "CalledOff" = true := by decide +kernel
@[simp] theorem sx_CalledOff_Clash : subX "CalledOff" "Clash" = false := by decide +kernel
@[simp] theorem sx_CalledOff_NoMove : subX "CalledOff" "NoMove" = false := by decide +kernel
@[simp] theorem sx_CalledOff_NoPlace : subX "CalledOff" "NoPlace" = false := by decide +kernel
@[simp] theorem sx_CalledOff_CalmError : subX "CalledOff" "CalmError" = true := by decide +kernel
@[simp] theorem sx_CalledOff_ValueError : subX "CalledOff" "ValueError" = true := by decide +kernel
@[simp] theorem sx_Clash_NoText : subX "Clash" "NoText" = false := by decide +kernel
@[simp] theorem sx_Clash_Broken : subX "Clash" "Broken" = false := by decide +kernel
@[simp] theorem sx_Clash_Crowded : subX "Clash" "Crowded" = false := by decide +kernel
@[simp] theorem sx_Clash_TooMany : subX "Clash" "TooMany" = false := by decide +kernel
@[simp] theorem sx_Clash_CalledOff : subX "Clash" "CalledOff" = false := by decide +kernel
@[simp] theorem sx_Clash_Clash : subX "Clash" "Clash" = true := by decide +kernel
@[simp] theorem sx_Clash_NoMove : subX "Clash" "NoMove" = false := by decide +kernel
@[simp] theorem sx_Clash_NoPlace : subX "Clash" "NoPlace" = false := by decide +kernel
@[simp] theorem sx_Clash_CalmError : subX "Clash" "CalmError" = true := by decide +kernel
@[simp] theorem sx_Clash_ValueError : subX "Clash" "ValueError" = true := by decide +kernel
@[simp] theorem sx_NoMove_NoText : subX "NoMove" "NoText" = false := by decide +kernel
@[simp] theorem sx_NoMove_Broken : subX "NoMove" "Broken" = false := by decide +kernel
@[simp] theorem sx_NoMove_Crowded : subX "NoMove" "Crowded" = false := by decide +kernel
@[simp] theorem sx_NoMove_TooMany : subX "NoMove" "TooMany" = false := by decide +kernel
@[simp] theorem sx_NoMove_CalledOff : subX "NoMove" "CalledOff" = false := by decide +kernel
@[simp] theorem sx_NoMove_Clash : subX "NoMove" "Clash" = false := by decide +kernel
@[simp] theorem sx_NoMove_NoMove : subX "NoMove" "NoMove" = true := by decide +kernel
@[simp] theorem sx_NoMove_NoPlace : subX "NoMove" "NoPlace" = false := by decide +kernel
@[simp] theorem sx_NoMove_CalmError : subX "NoMove" "CalmError" = true := by decide +kernel
@[simp] theorem sx_NoMove_ValueError : subX "NoMove" "ValueError" = true := by decide +kernel
@[simp] theorem sx_NoPlace_NoText : subX "NoPlace" "NoText" = false := by decide +kernel
@[simp] theorem sx_NoPlace_Broken : subX "NoPlace" "Broken" = false := by decide +kernel
@[simp] theorem sx_NoPlace_Crowded : subX "NoPlace" "Crowded" = false := by decide +kernel
@[simp] theorem sx_NoPlace_TooMany : subX "NoPlace" "TooMany" = false := by decide +kernel
@[simp] theorem sx_NoPlace_CalledOff : subX "NoPlace" "CalledOff" = false := by decide +kernel
@[simp] theorem sx_NoPlace_Clash : subX "NoPlace" "Clash" = false := by decide +kernel
@[simp] theorem sx_NoPlace_NoMove : subX "NoPlace" "NoMove" = false := by decide +kernel
@[simp] theorem sx_NoPlace_NoPlace : subX "NoPlace" "NoPlace" = true := by decide +kernel
@[simp] theorem sx_NoPlace_CalmError : subX "NoPlace" "CalmError" = true := by decide +kernel
@[simp] theorem sx_NoPlace_ValueError : subX "NoPlace" "ValueError" = true := by decide +kernel
end CW
namespace CW
open PySem PySem.Spec PyProof.Rows L2
structure Step where
  wire : Nat
  up : Bool
  takes : List Nat
  fills : List Nat
  deriving DecidableEq
structure Graph where
  wires : List (List Nat × List Nat)
  steps : List Step
  marks : Nat
  code : Nat
def stepD (s : Step) : D := .tup [nD s.wire, .bl s.up, .tup (s.takes.map nD), .tup (s.fills.map nD)]
def wireD (w : List Nat × List Nat) : D := .tup [sD w.1, sD w.2]
def graphD (g : Graph) : D := .tup [.tup (g.wires.map wireD), .tup (g.steps.map stepD), nD g.marks, nD g.code]
section
variable (s : Step) (w : List Nat × List Nat) (g : Graph)
@[simp] theorem ix_step0 : oIx (stepD s) (nD 0) = .ok (nD s.wire) := by simp [stepD]
@[simp] theorem ix_step1 : oIx (stepD s) (nD 1) = .ok (.bl s.up) := by simp [stepD]
@[simp] theorem ix_step2 : oIx (stepD s) (nD 2) = .ok (.tup (s.takes.map nD)) := by simp [stepD]
@[simp] theorem ix_step3 : oIx (stepD s) (nD 3) = .ok (.tup (s.fills.map nD)) := by simp [stepD]
@[simp] theorem ix_wire0 : oIx (wireD w) (nD 0) = .ok (sD w.1) := by simp [wireD]
@[simp] theorem ix_wire1 : oIx (wireD w) (nD 1) = .ok (sD w.2) := by simp [wireD]
@[simp] theorem ix_graph0 : oIx (graphD g) (nD 0) = .ok (.tup (g.wires.map wireD)) := by simp [graphD]
@[simp] theorem ix_graph1 : oIx (graphD g) (nD 1) = .ok (.tup (g.steps.map stepD)) := by simp [graphD]
@[simp] theorem ix_graph2 : oIx (graphD g) (nD 2) = .ok (nD g.marks) := by simp [graphD]
@[simp] theorem ix_graph3 : oIx (graphD g) (nD 3) = .ok (nD g.code) := by simp [graphD]
@[simp] theorem gT_step : gT 4 (stepD s) = some [nD s.wire, .bl s.up, .tup (s.takes.map nD), .tup (s.fills.map nD)] := (rfl)
@[simp] theorem gT_graph : gT 4 (graphD g) = some [.tup (g.wires.map wireD), .tup (g.steps.map stepD), nD g.marks, nD g.code] := (rfl)
@[simp] theorem gT_wire : gT 2 (wireD w) = some [sD w.1, sD w.2] := (rfl)
end
def bitsN (ks : List Nat) : Nat := ks.foldl (fun n k => n ||| 2 ^ k) 0
theorem bits_loop : ∀ (ks : List Nat), (∀ k ∈ ks, k ≤ 1000000) → ∀ (n : Nat) (a v : Option D), ∃ v', forL [2] gN b1_bits (ks.map nD) [a, some (nD n), v] = .nx [a, some (nD (ks.foldl (fun n k => n ||| 2 ^ k) n)), v']
  | [], _, n, a, v => ⟨v, rfl⟩
  | k :: ks, h, n, a, v => by
    have hk : k ≤ 1000000 := h k List.mem_cons_self
    obtain ⟨v', e⟩ := bits_loop ks (fun k hk => h k (List.mem_cons_of_mem _ hk)) (n ||| 2 ^ k) a (some (nD k))
    refine ⟨v', ?_⟩
    rw [List.map_cons, forL_nx (es := [nD k]) (r := [a, some (nD (n ||| 2 ^ k)), some (nD k)]) _ _ rfl (by simp [b1_bits, hk]), e]
    rfl
theorem v_bits {ks : List Nat} (h : ∀ k ∈ ks, k ≤ 1000000) : f_bits [.tup (ks.map nD)] = .ok (nD (bitsN ks)) := by
  obtain ⟨v', e⟩ := bits_loop ks h 0 (some (.tup (ks.map nD))) none
  simp [f_bits, d_bits, e, bitsN]
theorem bit_dm (x i : Nat) : x.testBit i = (x / 2 ^ i % 2 == 1) := by
  rw [Nat.testBit_eq_decide_div_mod_eq, Bool.eq_iff_iff]
  simp
theorem foldl_bit (i : Nat) : ∀ (ks : List Nat) (n : Nat), (ks.foldl (fun n k => n ||| 2 ^ k) n).testBit i = (n.testBit i || decide (i ∈ ks))
  | [], n => by simp
  | k :: ks, n => by
    rw [List.foldl_cons, foldl_bit i ks, Nat.testBit_or, Nat.testBit_two_pow, Bool.or_assoc]
    congr 1
    rw [Bool.eq_iff_iff, Bool.or_eq_true, decide_eq_true_eq, decide_eq_true_eq, decide_eq_true_eq, List.mem_cons, eq_comm]
theorem bitsN_bit (ks : List Nat) (i : Nat) : (bitsN ks).testBit i = decide (i ∈ ks) := by
  unfold bitsN
  rw [foldl_bit]
  simp
def canN (s : Step) (m : Nat) : Bool := (m &&& bitsN s.takes) == bitsN s.takes
def StepOk (s : Step) : Prop := (∀ k ∈ s.takes, k ≤ 1000000) ∧ ∀ k ∈ s.fills, k ≤ 1000000
theorem v_can {g : Graph} {k : Nat} {s : Step} (h : g.steps[k]? = some s) (hs : StepOk s) (m : Nat) (c : D) : f_can [graphD g, .tup [nD m, c], nD k] = .ok (.bl (canN s m)) := by
  simp [f_can, d_can, h, v_bits hs.1, canN]
def canT (s : Step) (m : Nat) : Bool := s.takes.all fun p => m.testBit p
theorem can_eq (s : Step) (m : Nat) : canN s m = canT s m := by
  unfold canN canT
  rw [Bool.eq_iff_iff, beq_iff_eq, List.all_eq_true]
  constructor
  · intro h p hp
    have := congrArg (fun z : Nat => z.testBit p) h
    simp only [Nat.testBit_and, bitsN_bit, decide_eq_true hp, Bool.and_true] at this
    exact this
  · intro h
    apply Nat.eq_of_testBit_eq
    intro i
    rw [Nat.testBit_and, bitsN_bit]
    by_cases hi : i ∈ s.takes
    · rw [decide_eq_true hi, h i hi]; rfl
    · rw [decide_eq_false hi, Bool.and_false]
def insN (x : Nat) : List Nat → List Nat
  | [] => [x]
  | y :: ys => if x ≤ y then x :: y :: ys else y :: insN x ys
def sortN : List Nat → List Nat
  | [] => []
  | x :: xs => insN x (sortN xs)
theorem insI_cast (x : Nat) : ∀ ys : List Nat, insI (x : Int) (ys.map fun n : Nat => (n : Int)) = (insN x ys).map fun n : Nat => (n : Int)
  | [] => rfl
  | y :: ys => by
    simp only [List.map_cons, insI, insN]
    by_cases h : x ≤ y
    · rw [if_pos (by omega), if_pos h]; rfl
    · rw [if_neg (by omega), if_neg h, insI_cast x ys]; rfl
theorem sortI_cast : ∀ ys : List Nat, sortI (ys.map fun n : Nat => (n : Int)) = (sortN ys).map fun n : Nat => (n : Int)
  | [] => rfl
  | y :: ys => by rw [List.map_cons, sortI, sortI_cast ys, insI_cast, sortN]
theorem nD_map (ks : List Nat) : ks.map nD = (ks.map fun n : Nat => (n : Int)).map D.int := by rw [List.map_map]; rfl
theorem v_sort (ks : List Nat) : bSortI [.lst (ks.map nD)] = .ok ((sortN ks).map nD) := by
  rw [nD_map, nD_map]
  simp only [bSortI, intsOf_map, sortI_cast]
theorem insN_perm (x : Nat) : ∀ ys, (insN x ys).Perm (x :: ys)
  | [] => .refl _
  | y :: ys => by
    unfold insN
    split
    · exact .refl _
    · exact ((insN_perm x ys).cons y).trans (.swap x y ys)
theorem sortN_perm : ∀ xs, (sortN xs).Perm xs
  | [] => .refl _
  | x :: xs => (insN_perm x _).trans ((sortN_perm xs).cons x)
theorem sortN_mem {x : Nat} {xs : List Nat} : x ∈ sortN xs ↔ x ∈ xs := (sortN_perm xs).mem_iff
theorem sortN_length (xs : List Nat) : (sortN xs).length = xs.length := (sortN_perm xs).length_eq
def mixN (ns : List Int) (k : Nat) : Nat := if h : k < ns.length then (((7919 * k + 12345 : Nat) + ns[k] * 6364136223846793005) * 48271 % 1000000000039 : Int).toNat else (7919 * k + 12345) * 48271 % 1000000000039
theorem v_l_mix_2 (ns : List Int) (k : Nat) : f_l_mix_2 [.scr ns, nD k] = .ok (nD (mixN ns k)) := by
  by_cases h : k < ns.length
  · simp [f_l_mix_2, d_l_mix_2, h, mixN]
  · simp [f_l_mix_2, d_l_mix_2, h, mixN]
end CW
namespace CW
open PySem PySem.Spec PyProof.Rows L2
theorem word_loop (c k at_ : Nat) (v3 : Option D) : ∀ (js : List Nat) (z : List Nat) (v6 v7 : Option D), z.length + js.length ≤ 100 → ∃ z' v6' v7', (z'.length = z.length + js.length ∧ ((∀ x ∈ z, x < 128) → ∀ x ∈ z', x < 128)) ∧
    forL [6] gN b1_l_word (js.map nD) [some (nD c), some (nD k), some (sD abc), v3, some (nD at_), some (sD z), v6, v7] = .nx [some (nD c), some (nD k), some (sD abc), v3, some (nD at_), some (sD z'), v6', v7']
  | [], z, v6, v7, _ => ⟨z, v6, v7, ⟨by simp, fun h => h⟩, rfl⟩
  | j :: js, z, v6, v7, h => by
    have h1 : ∀ i, abc[i % 26]? = some (97 + i % 26) := fun i => abc_at (Nat.mod_lt _ (by decide))
    simp only [List.length_cons] at h
    have h2 : z.length + 1 ≤ 1000000 := by omega
    obtain ⟨sh, hb⟩ : ∃ sh, b1_l_word [some (nD c), some (nD k), some (sD abc), v3, some (nD at_), some (sD z), some (nD j), v7] = .nx [some (nD c), some (nD k), some (sD abc), v3, some (nD at_), some (sD (z ++ [97 + (c / 49 + 5 * j + 7 * sh) % 26])), some (nD j), some (nD sh)] := by
      by_cases hj : j = at_
      · exact ⟨k, by simp [b1_l_word, hj, h1, h2]⟩
      · exact ⟨0, by simp [b1_l_word, hj, h1, h2]⟩
    obtain ⟨z', v6', v7', ⟨hl, ha⟩, e⟩ := word_loop c k at_ v3 js (z ++ [97 + (c / 49 + 5 * j + 7 * sh) % 26]) (some (nD j)) (some (nD sh)) (by simp; omega)
    refine ⟨z', v6', v7', ⟨by rw [hl]; simp; omega, fun hz => ha fun x hx => ?_⟩, ?_⟩
    · rcases List.mem_append.mp hx with hx | hx
      · exact hz x hx
      · rw [List.mem_singleton] at hx
        omega
    rw [List.map_cons, forL_nx (es := [nD j]) _ _ rfl hb, e]
theorem kept_flat {ds : List D} {x : List Nat} (h : ds.all flatD = true) (neg : Bool) : ∃ b, oIn neg (sD x) (.lst ds) = .ok (.bl b) := ⟨_, oIn_lst neg flatD_sD h⟩
theorem v_l_word_a (c k : Nat) : ∃ z : List Nat, (z.length ≤ 9 ∧ ∀ x ∈ z, x < 128) ∧ f_l_word [nD c, nD k] = .ok (sD z) := by
  have hs : 2 + c % 7 ≤ 8 := by omega
  obtain ⟨z, v6, v7, ⟨hl, ha⟩, e⟩ := word_loop c k (c / 7 % (2 + c % 7)) (some (nD (2 + c % 7))) (List.range (2 + c % 7)) [] none none (by simp; omega)
  obtain ⟨b, hb⟩ := kept_flat (ds := [sD (toL "given"), sD (toL "made"), sD (toL "up"), sD (toL "down"), sD (toL "start")]) (x := z) rfl false
  have ha := ha (by simp)
  simp at hl
  have hz : z.length ≤ 1000000 := by omega
  have hq : toL "q" = [113] := by decide +kernel
  cases b with
  | true =>
    refine ⟨z.drop 1 ++ [113], ⟨by simp; omega, fun x hx => ?_⟩, ?_⟩
    · rcases List.mem_append.mp hx with hx | hx
      · exact ha x ((List.drop_sublist _ _).subset hx)
      · rw [List.mem_singleton] at hx
        omega
    simp [f_l_word, d_l_word, e, show 0 < 2 + c % 7 by omega, show 2 + c % 7 < 4611686018427387904 by omega, le_line, hb, hz, hq, show z.length - 1 + 1 ≤ 1000000 by omega]
  | false =>
    refine ⟨z, ⟨by omega, ha⟩, ?_⟩
    simp [f_l_word, d_l_word, e, show 0 < 2 + c % 7 by omega, show 2 + c % 7 < 4611686018427387904 by omega, le_line, hb]
theorem v_l_word (c k : Nat) : ∃ z : List Nat, z.length ≤ 9 ∧ f_l_word [nD c, nD k] = .ok (sD z) :=
  let ⟨z, h, e⟩ := v_l_word_a c k
  ⟨z, h.1, e⟩
structure SpotsOk (ks : List Nat) (size : Nat) : Prop where
  lt : ∀ k ∈ ks, k < size
  nd : ks.Nodup
  ne : ks ≠ []
end CW
namespace CW
open PySem PySem.Spec PyProof.Rows L2
theorem enum_steps (steps : List Step) : enumL (steps.map stepD) = steps.zipIdx.map fun p => .tup [nD p.2, stepD p.1] := by
  rw [enumL_eq, List.zipIdx_map, List.map_map]
  rfl
def wantsN (steps : List Step) (m w : Nat) : Int := if steps.any fun s => s.wire == w && canN s m && s.up then 1 else if steps.any fun s => s.wire == w && canN s m then -1 else 0
end CW
namespace CW
open PySem PySem.Spec PyProof.Rows L2
def Letters (z : List Nat) : Prop := ∀ c ∈ z, 97 ≤ c ∧ c < 123
def kept : List (List Nat) := [toL "given", toL "made", toL "up", toL "down", toL "start"]
def rot (p : List Nat) (i j : Nat) : List Nat := p ++ [97 + (i + j) % 26]
section
variable (s f m k cl at_ : Option D) (zs : List (List Nat))
end
structure NameOk (z : List Nat) : Prop where
  pos : 1 ≤ z.length
  le : z.length ≤ 8
  let_ : Letters z
structure NamesOk (zs : List (List Nat)) : Prop where
  nd : zs.Nodup
  ok : ∀ z ∈ zs, NameOk z ∧ z ∉ kept
end CW
namespace CW
open PySem PySem.Spec PyProof.Rows L2

def Rising (ks : List Nat) : Prop := ks.Pairwise (· < ·)
structure SpOk (ks : List Nat) : Prop where
  ri : Rising ks
  lt : ∀ k ∈ ks, k < 64
  pos : 1 ≤ ks.length
  le : ks.length ≤ 30
structure GraphOk (g : Graph) : Prop where
  names : NamesOk (g.wires.map (·.1))
  kinds : ∀ w ∈ g.wires, w.2 = toL "given" ∨ w.2 = toL "made"
  w1 : 1 ≤ g.wires.length
  w10 : g.wires.length ≤ 10
  s1 : 1 ≤ g.steps.length
  s24 : g.steps.length ≤ 24
  wire : ∀ s ∈ g.steps, s.wire < g.wires.length
  takes : ∀ s ∈ g.steps, SpOk s.takes
  fills : ∀ s ∈ g.steps, SpOk s.fills
  marks : g.marks < 2 ^ 64
  code : g.code < 2 ^ g.wires.length
end CW
namespace CW
open PySem PySem.Spec PyProof.Rows L2
inductive Al : Nat → D → Prop
  | int (n : Nat) (i : Int) : Al (n + 1) (.int i)
  | bl (n : Nat) (b : Bool) : Al (n + 1) (.bl b)
  | str (n : Nat) (z : Str) : Al (n + 1) (.str z)
  | tup (n : Nat) (ds : List D) : ds.length ≤ 1000000 → (∀ d ∈ ds, Al n d) → Al (n + 1) (.tup ds)
  | lst (n : Nat) (ds : List D) : ds.length ≤ 1000000 → (∀ d ∈ ds, Al n d) → Al (n + 1) (.lst ds)
theorem Al.nD (n k : Nat) : Al (n + 1) (nD k) := .int n k
theorem Al.sD (n : Nat) (z : List Nat) : Al (n + 1) (sD z) := .str n _
end CW
namespace CW
open PySem PySem.Spec PyProof.Rows L2
def blen (x : Nat) : Nat := Builtin.Int.intBits (x : Int)
@[simp] theorem mBitLen_nD (x : Nat) : mBitLen (nD x) = .ok (nD (blen x)) := rfl
end CW
namespace CW
open PySem PySem.Spec PyProof.Rows L2
section
variable {g : Graph} (h : GraphOk g)
include h
end
end CW
namespace CW
open PySem PySem.Spec PyProof.Rows L2

def leftN (s : Step) (m : Nat) : Nat := m ^^^ bitsN s.takes
def newM (s : Step) (m : Nat) : Nat := leftN s m ||| bitsN s.fills
def newC (s : Step) (c : Nat) : Nat := c ^^^ 2 ^ s.wire
def brokeN (s : Step) (c : Nat) : Bool := c.testBit s.wire == s.up
def crowdN (s : Step) (m : Nat) : Bool := !(leftN s m &&& bitsN s.fills == 0)
section
variable (a b c : Option D)
end
structure StepOk2 (s : Step) : Prop where
  ok : StepOk s
  wire : s.wire ≤ 1000000
  takes : s.takes.Nodup
  fills : s.fills.Nodup
  tl : s.takes.length ≤ 1000000
  fl : s.fills.length ≤ 1000000
end CW
namespace CW
open PySem PySem.Spec PyProof.Rows L2
def chO (k : Out D) : D → Out D
  | .bl true => k
  | .bl false => .ok (.bl false)
  | _ => .stuck
@[simp] theorem q_eChain (g h : D → D → Out D) (a b c : Env → Out D) (ρ : Env) : eChain g h a b c ρ = (a ρ).bind fun x => (b ρ).bind fun y => (g x y).bind (chO ((c ρ).bind fun w => h y w)) := by
  unfold eChain
  congr 1
@[simp] theorem chO_t (k : Out D) : chO k (.bl true) = k := (rfl)
@[simp] theorem chO_f (k : Out D) : chO k (.bl false) = .ok (.bl false) := (rfl)
@[simp] theorem chO_b (k : Out D) (b : Bool) : chO k (.bl b) = if b = true then k else .ok (.bl false) := by cases b <;> rfl
theorem zip_range {α : Type} (q : α → Bool) : ∀ (xs : List α) (n : Nat), ((xs.zipIdx n).filter fun p => q p.1).map (·.2) = ((List.range xs.length).filter fun k => (xs[k]?.map q).getD false).map (n + ·)
  | [], n => rfl
  | x :: xs, n => by
    have ih := zip_range q xs (n + 1)
    rw [List.zipIdx_cons, List.length_cons, List.range_succ_eq_map, List.filter_cons, List.filter_cons, List.filter_map]
    have e : (List.filter ((fun k => (((x :: xs)[k]?).map q).getD false) ∘ Nat.succ) (List.range xs.length)) = (List.range xs.length).filter fun k => (xs[k]?.map q).getD false := by
      congr 1
    rw [e]
    have e2 : ∀ l : List Nat, List.map (n + ·) (List.map Nat.succ l) = List.map (n + 1 + ·) l := fun l => by
      rw [List.map_map]
      exact List.map_congr_left fun k _ => by simp [Nat.succ_eq_add_one]; omega
    cases h : q x with
    | true => simp [h, ih, ← e2]
    | false => simp [h, ih, ← e2]
def whichN {α : Type} (q : α → Bool) (xs : List α) : List Nat := (xs.zipIdx.filter fun p => q p.1).map (·.2)
theorem which_range {α : Type} (q : α → Bool) (xs : List α) : whichN q xs = (List.range xs.length).filter fun k => (xs[k]?.map q).getD false := by
  have := zip_range q xs 0
  simp at this
  exact this
end CW
namespace CW
open PySem PySem.Spec PyProof.Rows L2
@[simp] theorem v_need (d : D) : f_need [.bl true, d] = .ok .non := by simp [f_need, d_need]
def figs : List Nat := toL ("0123456789" : Str)
@[simp] theorem toL_figs : toL ("0123456789" : Str) = figs := rfl
end CW
namespace CW
open PySem PySem.Spec PyProof.Rows L2

@[simp] theorem isN_nD {m : Nat} (h : m < 4611686018427387904) (k : Nat → Fl) : isN (nD m) k = k m := by
  rw [nD, q_isN, if_pos (by omega), Int.toNat_natCast]
structure Row where
  m : Nat
  c : Nat
  pre : Option (Nat × Nat)
def Row.key (r : Row) : Nat × Nat := (r.m, r.c)
def keyT (x : Nat × Nat) : D := .tup [nD x.1, nD x.2]
def preD : Option (Nat × Nat) → List D
  | none => [.non, .non]
  | some (n, k) => [nD n, nD k]
def rowT (r : Row) : D := .tup ([nD r.m, nD r.c] ++ preD r.pre)
def nextB (s : Step) (x : Nat × Nat) : Nat × Nat := (newM s x.1, newC s x.2)
def stepB (g : Graph) (n : Nat) (x : Nat × Nat) (rows : List Row) (k : Nat) : List Row := match g.steps[k]? with
  | some s => if canN s x.1 then (if nextB s x ∈ rows.map Row.key then rows else rows ++ [⟨(nextB s x).1, (nextB s x).2, some (n, k)⟩]) else rows
  | none => rows
structure Space (g : Graph) (S : List (Nat × Nat)) : Prop where
  beg : (g.marks, g.code) ∈ S
  go : ∀ x ∈ S, ∀ (k : Nat) (s : Step), g.steps[k]? = some s → canN s x.1 = true → brokeN s x.2 = false ∧ crowdN s x.1 = false ∧ nextB s x ∈ S
structure RowsOk (g : Graph) (S : List (Nat × Nat)) (rows : List Row) : Prop where
  nd : (rows.map Row.key).Nodup
  sub : ∀ r ∈ rows, r.key ∈ S
  pre : ∀ (i : Nat) (r : Row), rows[i]? = some r → match r.pre with
    | none => i = 0
    | some (n, k) => n < i ∧ ∃ p s, rows[n]? = some p ∧ g.steps[k]? = some s ∧ canN s p.m = true ∧ r.key = nextB s p.key
  beg : ∃ t, rows = ⟨g.marks, g.code, none⟩ :: t
theorem nodup_len2 : ∀ {xs ys : List (Nat × Nat)}, xs.Nodup → (∀ x ∈ xs, x ∈ ys) → xs.length ≤ ys.length
  | [], _, _, _ => Nat.zero_le _
  | x :: xs, ys, h, hs => by
    obtain ⟨h1, h2⟩ := List.nodup_cons.mp h
    have hx := hs x List.mem_cons_self
    have := nodup_len2 (xs := xs) (ys := ys.erase x) h2 fun y hy => by
      refine (List.mem_erase_of_ne fun e => by subst e; exact h1 hy).mpr (hs y (List.mem_cons_of_mem _ hy))
    rw [List.length_erase_of_mem hx] at this
    have := List.length_pos_of_mem hx
    simp only [List.length_cons]
    omega
section
variable {g : Graph} {S : List (Nat × Nat)}
theorem RowsOk.len {rows : List Row} (h : RowsOk g S rows) : rows.length ≤ S.length := by
  have := nodup_len2 h.nd fun x hx => by
    obtain ⟨r, hr, rfl⟩ := List.mem_map.mp hx
    exact h.sub r hr
  simpa using this
theorem RowsOk.snoc {rows : List Row} (h : RowsOk g S rows) (sp : Space g S) {n k : Nat} {p : Row} {s : Step} (hp : rows[n]? = some p) (hk : g.steps[k]? = some s) (hc : canN s p.m = true) (hn : nextB s p.key ∉ rows.map Row.key) : RowsOk g S (rows ++ [⟨(nextB s p.key).1, (nextB s p.key).2, some (n, k)⟩]) := by
  have hpm := h.sub p (List.mem_of_getElem? hp)
  refine ⟨?_, fun r hr => ?_, fun i r hi => ?_, ?_⟩
  · rw [List.map_append, List.nodup_append]
    refine ⟨h.nd, by simp, fun a ha b hb => ?_⟩
    have : b = nextB s p.key := by simpa [Row.key] using hb
    subst this
    exact fun e => hn (e ▸ ha)
  · rcases List.mem_append.mp hr with hr | hr
    · exact h.sub r hr
    · have : r = ⟨(nextB s p.key).1, (nextB s p.key).2, some (n, k)⟩ := by simpa using hr
      subst this
      exact (sp.go p.key hpm k s hk hc).2.2
  · by_cases hlt : i < rows.length
    · rw [List.getElem?_append_left hlt] at hi
      have := h.pre i r hi
      cases e : r.pre with
      | none => rw [e] at this; exact this
      | some nk =>
        obtain ⟨a, b⟩ := nk
        rw [e] at this
        obtain ⟨h1, q, t, h2, h3⟩ := this
        exact ⟨h1, q, t, by rw [List.getElem?_append_left (by omega)]; exact h2, h3⟩
    · rw [List.getElem?_append_right (by omega)] at hi
      have h0 : i = rows.length := by
        have := (List.getElem?_eq_some_iff.mp hi).1
        simp at this
        omega
      subst h0
      simp at hi
      subst hi
      have hnl := (List.getElem?_eq_some_iff.mp hp).1
      exact ⟨hnl, p, s, by rw [List.getElem?_append_left hnl]; exact hp, hk, hc, rfl⟩
  · obtain ⟨t, ht⟩ := h.beg
    exact ⟨_, by rw [ht]; rfl⟩
theorem stepB_ok {rows : List Row} (h : RowsOk g S rows) (sp : Space g S) {n : Nat} {p : Row} (hp : rows[n]? = some p) (k : Nat) : RowsOk g S (stepB g n p.key rows k) ∧ ∃ t, stepB g n p.key rows k = rows ++ t := by
  unfold stepB
  cases hk : g.steps[k]? with
  | none => exact ⟨h, [], by simp⟩
  | some s =>
    dsimp only
    split
    · rename_i hc
      split
      · exact ⟨h, [], by simp⟩
      · rename_i hn
        exact ⟨h.snoc sp hp hk hc hn, _, rfl⟩
    · exact ⟨h, [], by simp⟩
def standB (g : Graph) (n : Nat) (x : Nat × Nat) (rows : List Row) : List Row := (List.range g.steps.length).foldl (stepB g n x) rows
theorem foldB_ok (sp : Space g S) {n : Nat} {p : Row} : ∀ (ks : List Nat) {rows : List Row}, RowsOk g S rows → rows[n]? = some p → RowsOk g S (ks.foldl (stepB g n p.key) rows) ∧ ∃ t, ks.foldl (stepB g n p.key) rows = rows ++ t
  | [], rows, h, _ => ⟨h, [], by simp⟩
  | k :: ks, rows, h, hp => by
    obtain ⟨h1, t, e⟩ := stepB_ok h sp hp k
    have hp2 : (stepB g n p.key rows k)[n]? = some p := by
      rw [e, List.getElem?_append_left (List.getElem?_eq_some_iff.mp hp).1]; exact hp
    obtain ⟨h2, t2, e2⟩ := foldB_ok sp ks h1 hp2
    exact ⟨h2, t ++ t2, by rw [List.foldl_cons, e2, e, List.append_assoc]⟩
def allB (g : Graph) : Nat → Nat → List Row → List Row
  | 0, _, rows => rows
  | f + 1, n, rows => match rows[n]? with
    | some p => allB g f (n + 1) (standB g n p.key rows)
    | none => rows
end
end CW
namespace CW
open PySem PySem.Spec PyProof.Rows L2

def GraphSt (g : Graph) : Prop := g.steps.length ≤ 1000 ∧ ∀ s ∈ g.steps, StepOk2 s
@[simp] theorem lf_keyT (x : Nat × Nat) : lf (keyT x) = true := by
  rw [keyT, lf_tup, lfs_cons, lf_nD, lfs_cons, lf_nD, lfs_nil]; rfl
theorem kOk_keyT (x : Nat × Nat) : kOk true (keyT x) = true := rfl
theorem eqD_keyT (x y : Nat × Nat) : eqD (keyT x) (keyT y) = decide (x = y) := by
  rw [keyT, keyT, eqD_tup, eqDs_cons, eqDs_cons, eqDs_nil, eqD_nn, eqD_nn, Bool.eq_iff_iff]
  obtain ⟨a, b⟩ := x
  obtain ⟨c, d⟩ := y
  simp
theorem dHas_keyT (x : Nat × Nat) (ks : List (Nat × Nat)) : dHas (ks.map keyT) (keyT x) = decide (x ∈ ks) := by
  induction ks with
  | nil => rfl
  | cons k ks ih =>
    unfold dHas at ih ⊢
    rw [List.map_cons, List.any_cons, ih, eqD_keyT, Bool.eq_iff_iff, Bool.or_eq_true, decide_eq_true_eq, decide_eq_true_eq, decide_eq_true_eq, List.mem_cons]
    exact ⟨fun h => h.elim (fun e => .inl e.symm) .inr, fun h => h.elim (fun e => .inl e.symm) .inr⟩
theorem sl_rowT (r : Row) : oSl none (some (nI 2)) (rowT r) = .ok (keyT r.key) := by
  rw [rowT, oSl_tup, cut_to]
  rfl
theorem wh_nx {t : Env → Out Bool} {b : Env → Fl} {ρ ρ' : Env} (ht : t ρ = .ok true) (hb : b ρ = .nx ρ') : wh t b ρ = wh t b ρ' := by
  rw [wh_eq, ht, fE_ok]
  simp only [hb]
theorem wh_f {t : Env → Out Bool} {b : Env → Fl} {ρ : Env} (ht : t ρ = .ok false) : wh t b ρ = .nx ρ := by
  rw [wh_eq, ht, fE_ok]
def wayF (rows : List Row) : Nat → Nat → List Nat
  | 0, _ => []
  | f + 1, n => match rows[n]? with
    | some ⟨_, _, some (a, k)⟩ => wayF rows f a ++ [k]
    | _ => []
def wayB (rows : List Row) (n : Nat) : List Nat := wayF rows n n
section
variable {g : Graph} {S : List (Nat × Nat)} {rows : List Row}
end
end CW
namespace CW
open PySem PySem.Spec PyProof.Rows L2
inductive Rf where
  | broken (w : List Nat) | crowded (w : List Nat) | many | off (w : List Nat) (lost by_ : Nat) | clash (a b : List Nat) (w : Nat)
def Rf.name : Rf → Str
  | .broken _ => "Broken" | .crowded _ => "Crowded" | .many => "TooMany" | .off _ _ _ => "CalledOff" | .clash _ _ _ => "Clash"
def natsD (w : List Nat) : D := .lst (w.map nD)
def Rf.fs : Rf → List D
  | .broken w => [natsD w] | .crowded w => [natsD w] | .many => [] | .off w a b => [natsD w, nD a, nD b] | .clash a b w => [natsD a, natsD b, nD w]
def Rf.D (r : Rf) : D := .exn r.name r.fs
def CsOk (cs : List Str) : Prop := ("Broken" : Str) ∈ cs ∧ ("Crowded" : Str) ∈ cs ∧ ("TooMany" : Str) ∈ cs
def CsOk8 (cs : List Str) : Prop := ("NoText" : Str) ∈ cs ∧ ("Broken" : Str) ∈ cs ∧ ("Crowded" : Str) ∈ cs ∧ ("TooMany" : Str) ∈ cs ∧ ("CalledOff" : Str) ∈ cs ∧ ("Clash" : Str) ∈ cs ∧ ("NoMove" : Str) ∈ cs ∧ ("NoPlace" : Str) ∈ cs
theorem CsOk8.ok {cs : List Str} (h : CsOk8 cs) : CsOk cs := ⟨h.2.1, h.2.2.1, h.2.2.2.1⟩
theorem Rf.mem {cs : List Str} (h : CsOk8 cs) (r : Rf) : r.name ∈ cs := by
  obtain ⟨h1, h2, h3, h4, h5, h6, h7, h8⟩ := h
  cases r <;> assumption
structure RowsP (g : Graph) (rows : List Row) : Prop where
  nd : (rows.map Row.key).Nodup
  pre : ∀ (i : Nat) (r : Row), rows[i]? = some r → match r.pre with
    | none => i = 0
    | some (n, k) => n < i ∧ ∃ p s, rows[n]? = some p ∧ g.steps[k]? = some s ∧ canN s p.m = true ∧ brokeN s p.c = false ∧ crowdN s p.m = false ∧ r.key = nextB s p.key
  beg : ∃ t, rows = ⟨g.marks, g.code, none⟩ :: t
section
variable {g : Graph} {rows : List Row}
theorem RowsP.ok (h : RowsP g rows) : RowsOk g (rows.map Row.key) rows := ⟨h.nd, fun r hr => List.mem_map.mpr ⟨r, hr, rfl⟩, fun i r hi => by
  have := h.pre i r hi
  cases e : r.pre with
  | none => rw [e] at this; exact this
  | some nk =>
    obtain ⟨n, k⟩ := nk
    rw [e] at this
    obtain ⟨h1, p, s, h2, h3, h4, h5, h6, h7⟩ := this
    exact ⟨h1, p, s, h2, h3, h4, h7⟩, h.beg⟩
theorem RowsP.snoc (h : RowsP g rows) {n k : Nat} {p : Row} {s : Step} (hp : rows[n]? = some p) (hk : g.steps[k]? = some s) (hc : canN s p.m = true) (hb : brokeN s p.c = false) (hcr : crowdN s p.m = false) (hn : nextB s p.key ∉ rows.map Row.key) :
    RowsP g (rows ++ [⟨(nextB s p.key).1, (nextB s p.key).2, some (n, k)⟩]) := by
  refine ⟨?_, fun i r hi => ?_, ?_⟩
  · rw [List.map_append, List.nodup_append]
    refine ⟨h.nd, by simp, fun a ha b hb => ?_⟩
    have : b = nextB s p.key := by simpa [Row.key] using hb
    subst this
    exact fun e => hn (e ▸ ha)
  · by_cases hlt : i < rows.length
    · rw [List.getElem?_append_left hlt] at hi
      have := h.pre i r hi
      cases e : r.pre with
      | none => rw [e] at this; exact this
      | some nk =>
        obtain ⟨a, b⟩ := nk
        rw [e] at this
        obtain ⟨h1, q, t, h2, h3⟩ := this
        exact ⟨h1, q, t, by rw [List.getElem?_append_left (by omega)]; exact h2, h3⟩
    · rw [List.getElem?_append_right (by omega)] at hi
      have h0 : i = rows.length := by
        have := (List.getElem?_eq_some_iff.mp hi).1
        simp at this
        omega
      subst h0
      simp at hi
      subst hi
      have hnl := (List.getElem?_eq_some_iff.mp hp).1
      exact ⟨hnl, p, s, by rw [List.getElem?_append_left hnl]; exact hp, hk, hc, hb, hcr, rfl⟩
  · obtain ⟨t, ht⟩ := h.beg
    exact ⟨_, by rw [ht]; rfl⟩
theorem RowsP.one (g : Graph) : RowsP g [⟨g.marks, g.code, none⟩] := by
  refine ⟨by simp, fun i r hi => ?_, ⟨[], rfl⟩⟩
  have h0 : i = 0 := by
    have := (List.getElem?_eq_some_iff.mp hi).1
    simp at this
    omega
  subst h0
  simp at hi
  subst hi
  rfl
end
def refS (rows : List Row) (n : Nat) (x : Nat × Nat) (k : Nat) (s : Step) : Option Rf :=
  if brokeN s x.2 then some (.broken (wayB rows n ++ [k])) else if crowdN s x.1 then some (.crowded (wayB rows n ++ [k])) else none
def stepX (g : Graph) (most n : Nat) (x : Nat × Nat) (rows : List Row) (k : Nat) : Except Rf (List Row) := match g.steps[k]? with
  | some s => if canN s x.1 then (match refS rows n x k s with
      | some r => .error r
      | none => if nextB s x ∈ rows.map Row.key then .ok rows else if most ≤ rows.length then .error .many else .ok (rows ++ [⟨(nextB s x).1, (nextB s x).2, some (n, k)⟩])) else .ok rows
  | none => .ok rows
def foldX (g : Graph) (most n : Nat) (x : Nat × Nat) : List Nat → List Row → Except Rf (List Row)
  | [], rows => .ok rows
  | k :: ks, rows => match stepX g most n x rows k with
    | .ok rows' => foldX g most n x ks rows'
    | .error r => .error r
def standX (g : Graph) (most n : Nat) (x : Nat × Nat) (rows : List Row) : Except Rf (List Row) := foldX g most n x (List.range g.steps.length) rows
def allX (g : Graph) (most : Nat) : Nat → Nat → List Row → Except Rf (List Row)
  | 0, _, rows => .ok rows
  | f + 1, n, rows => match rows[n]? with
    | some p => (match standX g most n p.key rows with
      | .ok rows' => allX g most f (n + 1) rows'
      | .error r => .error r)
    | none => .ok rows
def standsX (g : Graph) (most : Nat) : Except Rf (List Row) := allX g most (most + 1) 0 [⟨g.marks, g.code, none⟩]
section
variable {g : Graph} {rows : List Row} {most : Nat}
end
end CW
namespace CW
open PySem PySem.Spec PyProof.Rows L2

section
variable (cs : List Str) (hcs : CsOk cs) {g : Graph} (hg : GraphSt g) {most : Nat} (b : Option D) {n : Nat} {p : Row}
include hcs hg
end
end CW
namespace CW
open PySem PySem.Spec PyProof.Rows L2
section
variable {g : Graph} {S : List (Nat × Nat)} {most : Nat}
theorem stepX_space (sp : Space g S) (hm : S.length ≤ most) {rows : List Row} (h : RowsOk g S rows) {n : Nat} {p : Row} (hp : rows[n]? = some p) (k : Nat) : stepX g most n p.key rows k = .ok (stepB g n p.key rows k) := by
  unfold stepX stepB
  cases hk : g.steps[k]? with
  | none => rfl
  | some s =>
    dsimp only
    split
    · rename_i hc
      have hpm := h.sub p (List.mem_of_getElem? hp)
      obtain ⟨g1, g2, g3⟩ := sp.go _ hpm k s hk hc
      have : refS rows n p.key k s = none := by
        unfold refS
        rw [g1, g2]
        rfl
      rw [this]
      dsimp only
      split
      · rfl
      · rename_i hn
        have := (h.snoc sp hp hk hc hn).len
        simp at this
        rw [if_neg (by omega)]
    · rfl
theorem foldX_space (sp : Space g S) (hm : S.length ≤ most) {n : Nat} {p : Row} : ∀ (ks : List Nat) {rows : List Row}, RowsOk g S rows → rows[n]? = some p → foldX g most n p.key ks rows = .ok (ks.foldl (stepB g n p.key) rows)
  | [], rows, _, _ => rfl
  | k :: ks, rows, h, hp => by
    obtain ⟨h1, t, et⟩ := stepB_ok h sp hp k
    have hp2 : (stepB g n p.key rows k)[n]? = some p := by rw [et, List.getElem?_append_left (List.getElem?_eq_some_iff.mp hp).1]; exact hp
    unfold foldX
    rw [stepX_space sp hm h hp k]
    exact foldX_space sp hm ks h1 hp2
theorem allX_space (sp : Space g S) (hm : S.length ≤ most) : ∀ (f n : Nat) {rows : List Row}, RowsOk g S rows → allX g most f n rows = .ok (allB g f n rows)
  | 0, n, rows, _ => rfl
  | f + 1, n, rows, h => by
    unfold allX allB
    cases hp : rows[n]? with
    | none => rfl
    | some p =>
      dsimp only
      have e : standX g most n p.key rows = .ok (standB g n p.key rows) := foldX_space sp hm _ h hp
      rw [e]
      exact allX_space sp hm f (n + 1) (foldB_ok sp _ h hp).1
def rowsB (g : Graph) (N : Nat) : List Row := allB g (N + 1) 0 [⟨g.marks, g.code, none⟩]
theorem rows0_ok (sp : Space g S) : RowsOk g S [⟨g.marks, g.code, none⟩] := by
  refine ⟨by simp, fun r hr => ?_, fun i r hi => ?_, ⟨[], rfl⟩⟩
  · have : r = ⟨g.marks, g.code, none⟩ := by simpa using hr
    subst this
    exact sp.beg
  · have h0 : i = 0 := by
      have := (List.getElem?_eq_some_iff.mp hi).1
      simp at this
      omega
    subst h0
    simp at hi
    subst hi
    rfl
theorem standsX_space (sp : Space g S) (hm : S.length ≤ most) : standsX g most = .ok (rowsB g most) := allX_space sp hm _ _ (rows0_ok sp)
end
section
variable {g : Graph} {M m : Nat}
end
end CW
namespace CW
open PySem PySem.Spec PyProof.Rows L2

end CW
namespace CW
open PySem PySem.Spec PyProof.Rows L2

section
variable {g : Graph} {S : List (Nat × Nat)} {rows : List Row}
end
end CW
namespace CW
open PySem PySem.Spec PyProof.Rows L2
theorem canN_one {s : Step} {q p : Nat} (h : s.takes = [q]) (hc : canN s (2 ^ p) = true) : p = q := by
  rw [can_eq, canT, h] at hc
  simp only [List.all_cons, List.all_nil, Bool.and_true] at hc
  rw [Nat.testBit_two_pow] at hc
  simpa using hc
theorem bits_one (q : Nat) : bitsN [q] = 2 ^ q := by
  show 0 ||| 2 ^ q = 2 ^ q
  exact Nat.zero_or _
theorem one_new {s : Step} {q r : Nat} (ht : s.takes = [q]) (hf : s.fills = [r]) : newM s (2 ^ q) = 2 ^ r ∧ crowdN s (2 ^ q) = false := by
  have e : leftN s (2 ^ q) = 0 := by rw [leftN, ht, bits_one, Nat.xor_self]
  constructor
  · rw [newM, e, hf, bits_one, Nat.zero_or]
  · rw [crowdN, e, Nat.zero_and]; rfl
theorem one_space {g : Graph} (ps : List Nat) (L : Nat → Nat) (b : Nat) (hb : b ∈ ps) (hm : g.marks = 2 ^ b) (hc : g.code = L b)
    (hs : ∀ s ∈ g.steps, ∃ q r, s.takes = [q] ∧ s.fills = [r] ∧ r ∈ ps ∧ (q ∈ ps → brokeN s (L q) = false ∧ newC s (L q) = L r)) : Space g (ps.map fun p => (2 ^ p, L p)) := by
  refine ⟨List.mem_map.mpr ⟨b, hb, by rw [hm, hc]⟩, fun x hx k s hk hcan => ?_⟩
  obtain ⟨p, hp, rfl⟩ := List.mem_map.mp hx
  obtain ⟨q, r, h1, h2, h3, h4⟩ := hs s (List.mem_of_getElem? hk)
  have e := canN_one h1 hcan
  subst e
  obtain ⟨h5, h6⟩ := h4 hp
  obtain ⟨h7, h8⟩ := one_new h1 h2
  exact ⟨h5, h8, List.mem_map.mpr ⟨r, h3, by unfold nextB; rw [h7, h6]⟩⟩
structure Cho where
  base : Nat
  code : Nat
  b : Nat
  long : Nat → Bool
namespace Cho
variable (z : Cho)
def x (k : Nat) : Nat := 1 + k * z.b
def up (k : Nat) : Bool := !z.code.testBit (z.x k)
def sp (k : Nat) : Nat := z.base + 1 + 3 * k
def br (k : Nat) : List Step := if z.long k then
    [⟨z.x k, z.up k, [z.base], [z.sp k]⟩, ⟨0, !z.code.testBit 0, [z.sp k], [z.sp k + 1]⟩, ⟨z.x k, !z.up k, [z.sp k + 1], [z.sp k + 2]⟩, ⟨0, z.code.testBit 0, [z.sp k + 2], [z.base]⟩]
  else [⟨z.x k, z.up k, [z.base], [z.sp k]⟩, ⟨z.x k, !z.up k, [z.sp k], [z.base]⟩]
def steps (n : Nat) : List Step := (List.range n).flatMap z.br
def lv (c : Nat) (p : Nat) : Nat := if p ≤ z.base then c else
  let k := (p - z.base - 1) / 3
  if (p - z.base - 1) % 3 = 0 then c ^^^ 2 ^ z.x k else if (p - z.base - 1) % 3 = 1 then c ^^^ 2 ^ z.x k ^^^ 2 ^ 0 else c ^^^ 2 ^ 0
theorem lv0 (c : Nat) : z.lv c z.base = c := by unfold lv; rw [if_pos (Nat.le_refl _)]
theorem lv1 (c k : Nat) : z.lv c (z.sp k) = c ^^^ 2 ^ z.x k := by
  unfold lv sp
  have e : z.base + 1 + 3 * k - z.base - 1 = 3 * k := by omega
  rw [if_neg (by omega)]
  dsimp only
  rw [e, if_pos (by omega), show 3 * k / 3 = k by omega]
theorem lv2 (c k : Nat) : z.lv c (z.sp k + 1) = c ^^^ 2 ^ z.x k ^^^ 2 ^ 0 := by
  unfold lv sp
  have e : z.base + 1 + 3 * k + 1 - z.base - 1 = 3 * k + 1 := by omega
  rw [if_neg (by omega)]
  dsimp only
  rw [e, if_neg (by omega), if_pos (by omega), show (3 * k + 1) / 3 = k by omega]
theorem lv3 (c k : Nat) : z.lv c (z.sp k + 2) = c ^^^ 2 ^ 0 := by
  unfold lv sp
  have e : z.base + 1 + 3 * k + 2 - z.base - 1 = 3 * k + 2 := by omega
  rw [if_neg (by omega)]
  dsimp only
  rw [e, if_neg (by omega), if_neg (by omega)]
theorem x_pos (k : Nat) : z.x k ≠ 0 := by unfold x; omega
theorem bit_self (c i : Nat) : (c ^^^ 2 ^ i).testBit i = !c.testBit i := by
  rw [Nat.testBit_xor, Nat.testBit_two_pow_self]; cases c.testBit i <;> rfl
theorem bit_other {c i j : Nat} (h : i ≠ j) : (c ^^^ 2 ^ i).testBit j = c.testBit j := by
  rw [Nat.testBit_xor, Nat.testBit_two_pow_of_ne h]; cases c.testBit j <;> rfl
theorem xor_twice (c a : Nat) : c ^^^ a ^^^ a = c := by rw [Nat.xor_assoc, Nat.xor_self, Nat.xor_zero]
theorem xor_thrice (c a b : Nat) : c ^^^ a ^^^ b ^^^ a = c ^^^ b := by rw [Nat.xor_assoc (c ^^^ a), Nat.xor_comm b a, ← Nat.xor_assoc, xor_twice]
theorem br_ok {c n k : Nat} (hk : k < n) (h0 : c.testBit 0 = z.code.testBit 0) (hx : c.testBit (z.x k) = z.code.testBit (z.x k)) : ∀ s ∈ z.br k, ∃ q r, s.takes = [q] ∧ s.fills = [r] ∧ r ∈ List.range (z.base + 1 + 3 * n) ∧ (q ∈ List.range (z.base + 1 + 3 * n) → brokeN s (z.lv c q) = false ∧ newC s (z.lv c q) = z.lv c r) := by
  intro s hs
  have hp := z.x_pos k
  have hsp : z.sp k = z.base + 1 + 3 * k := rfl
  have b1 : ∀ a : Bool, ((!a) == a) = false := by decide
  have b2 : ∀ a : Bool, (a == !a) = false := by decide
  unfold br at hs
  split at hs
  · simp only [List.mem_cons, List.not_mem_nil, or_false] at hs
    rcases hs with rfl | rfl | rfl | rfl
    · exact ⟨_, _, rfl, rfl, by rw [List.mem_range]; omega, fun _ => by
        rw [lv0, lv1]
        exact ⟨by show (c.testBit (z.x k) == z.up k) = false; rw [up, hx]; exact b2 _, rfl⟩⟩
    · exact ⟨_, _, rfl, rfl, by rw [List.mem_range]; omega, fun _ => by
        rw [lv1, lv2]
        exact ⟨by show ((c ^^^ 2 ^ z.x k).testBit 0 == !z.code.testBit 0) = false; rw [bit_other hp, h0]; exact b2 _, rfl⟩⟩
    · exact ⟨_, _, rfl, rfl, by rw [List.mem_range]; omega, fun _ => by
        rw [lv2, lv3]
        refine ⟨?_, xor_thrice _ _ _⟩
        show ((c ^^^ 2 ^ z.x k ^^^ 2 ^ 0).testBit (z.x k) == !z.up k) = false
        rw [bit_other (Ne.symm hp), bit_self, up, hx, Bool.not_not]
        exact b1 _⟩
    · exact ⟨_, _, rfl, rfl, by rw [List.mem_range]; omega, fun _ => by
        rw [lv3, lv0]
        refine ⟨?_, xor_twice _ _⟩
        show ((c ^^^ 2 ^ 0).testBit 0 == z.code.testBit 0) = false
        rw [bit_self, h0]
        exact b1 _⟩
  · simp only [List.mem_cons, List.not_mem_nil, or_false] at hs
    rcases hs with rfl | rfl
    · exact ⟨_, _, rfl, rfl, by rw [List.mem_range]; omega, fun _ => by
        rw [lv0, lv1]
        exact ⟨by show (c.testBit (z.x k) == z.up k) = false; rw [up, hx]; exact b2 _, rfl⟩⟩
    · exact ⟨_, _, rfl, rfl, by rw [List.mem_range]; omega, fun _ => by
        rw [lv1, lv0]
        refine ⟨?_, xor_twice _ _⟩
        show ((c ^^^ 2 ^ z.x k).testBit (z.x k) == !z.up k) = false
        rw [bit_self, up, hx, Bool.not_not]
        exact b1 _⟩
theorem space {g : Graph} {n : Nat} (hn : 0 < n) (hm : g.marks = 2 ^ z.base) (h0 : g.code.testBit 0 = z.code.testBit 0) (hx : ∀ k, k < n → g.code.testBit (z.x k) = z.code.testBit (z.x k)) (hs : ∀ s ∈ g.steps, s ∈ z.steps n) :
    Space g ((List.range (z.base + 1 + 3 * n)).map fun p => (2 ^ p, z.lv g.code p)) := by
  refine one_space _ (z.lv g.code) z.base (by rw [List.mem_range]; omega) hm (z.lv0 _).symm fun s h => ?_
  obtain ⟨k, hk, h2⟩ := List.mem_flatMap.mp (hs s h)
  have hk2 := List.mem_range.mp hk
  exact z.br_ok hk2 h0 (hx k hk2) s h2
end Cho
theorem up_eq (code x : Nat) : (code / 2 ^ x &&& 1 == 0) = !code.testBit x := by
  rw [bit_dm, Nat.and_one_is_mod]
  rcases Nat.mod_two_eq_zero_or_one (code / 2 ^ x) with e | e <;> rw [e] <;> rfl
def NetOk (g : Graph) : Prop := GraphSt g ∧ ∃ S, Space g S ∧ S.length ≤ 400
def LowG (g : Graph) : Prop := g.marks < 2 ^ 61 ∧ ∀ s ∈ g.steps, (∀ p ∈ s.takes, p < 61) ∧ ∀ p ∈ s.fills, p < 61
end CW
namespace CW
open PySem PySem.Spec PyProof.Rows L2
def lookS (L : Nat) (b : Bool) (s : Step) : Step := if b then ⟨s.wire, s.up, sortN (s.takes ++ [L]), sortN (s.fills ++ [L])⟩ else s
section
variable {L : Nat} {s : Step}
theorem look_bits (ks : List Nat) : bitsN (sortN (ks ++ [L])) = bitsN ks ||| 2 ^ L := Nat.eq_of_testBit_eq fun i => by
  rw [bitsN_bit, Nat.testBit_or, bitsN_bit, Nat.testBit_two_pow, Bool.eq_iff_iff]
  simp only [decide_eq_true_eq, Bool.or_eq_true, sortN_mem, List.mem_append, List.mem_singleton]
  exact or_congr Iff.rfl eq_comm
theorem bit_L {m : Nat} : (m ||| 2 ^ L).testBit L = true := by rw [Nat.testBit_or, Nat.testBit_two_pow_self, Bool.or_true]
theorem bit_nL {m i : Nat} (h : i ≠ L) : (m ||| 2 ^ L).testBit i = m.testBit i := by rw [Nat.testBit_or, Nat.testBit_two_pow_of_ne (Ne.symm h), Bool.or_false]
theorem look_can (b : Bool) (m : Nat) (ht : L ∉ s.takes) : canN (lookS L b s) (m ||| 2 ^ L) = canN s m := by
  have key : ∀ p ∈ s.takes, (m ||| 2 ^ L).testBit p = m.testBit p := fun p hp => bit_nL fun e => ht (e ▸ hp)
  rw [can_eq, can_eq, canT, canT, Bool.eq_iff_iff, List.all_eq_true, List.all_eq_true]
  cases b with
  | false => exact ⟨fun h p hp => by rw [← key p hp]; exact h p hp, fun h p hp => by rw [key p hp]; exact h p hp⟩
  | true =>
    show (∀ p ∈ sortN (s.takes ++ [L]), _) ↔ _
    refine ⟨fun h p hp => ?_, fun h p hp => ?_⟩
    · rw [← key p hp]
      exact h p (sortN_mem.mpr (List.mem_append_left _ hp))
    · rw [sortN_mem, List.mem_append, List.mem_singleton] at hp
      rcases hp with hp | rfl
      · rw [key p hp]; exact h p hp
      · exact bit_L
theorem look_left (b : Bool) (m i : Nat) (hm : m.testBit L = false) (ht : L ∉ s.takes) : (leftN (lookS L b s) (m ||| 2 ^ L)).testBit i = if i = L then !b else (leftN s m).testBit i := by
  cases b with
  | false =>
    show (leftN s (m ||| 2 ^ L)).testBit i = _
    rw [leftN, leftN, Nat.testBit_xor, Nat.testBit_xor]
    by_cases h : i = L
    · subst h
      rw [if_pos rfl, bit_L, bitsN_bit, decide_eq_false ht]; rfl
    · rw [if_neg h, bit_nL h]
  | true =>
    show ((m ||| 2 ^ L) ^^^ bitsN (sortN (s.takes ++ [L]))).testBit i = _
    rw [look_bits, leftN, Nat.testBit_xor, Nat.testBit_xor]
    by_cases h : i = L
    · subst h
      rw [if_pos rfl, bit_L, bit_L]; rfl
    · rw [if_neg h, bit_nL h, bit_nL h]
theorem look_fills (b : Bool) (i : Nat) (hf : L ∉ s.fills) : (bitsN (lookS L b s).fills).testBit i = if i = L then b else (bitsN s.fills).testBit i := by
  cases b with
  | false =>
    show (bitsN s.fills).testBit i = _
    by_cases h : i = L
    · subst h
      rw [if_pos rfl, bitsN_bit, decide_eq_false hf]
    · rw [if_neg h]
  | true =>
    show (bitsN (sortN (s.fills ++ [L]))).testBit i = _
    rw [look_bits]
    by_cases h : i = L
    · subst h
      rw [if_pos rfl, bit_L]
    · rw [if_neg h, bit_nL h]
theorem look_crowd (b : Bool) (m : Nat) (hm : m.testBit L = false) (ht : L ∉ s.takes) (hf : L ∉ s.fills) : crowdN (lookS L b s) (m ||| 2 ^ L) = crowdN s m := by
  unfold crowdN
  have : leftN (lookS L b s) (m ||| 2 ^ L) &&& bitsN (lookS L b s).fills = leftN s m &&& bitsN s.fills := Nat.eq_of_testBit_eq fun i => by
    rw [Nat.testBit_and, Nat.testBit_and, look_left b m i hm ht, look_fills b i hf]
    by_cases h : i = L
    · subst h
      rw [if_pos rfl, if_pos rfl, bitsN_bit, decide_eq_false hf]
      cases b <;> simp
    · rw [if_neg h, if_neg h]
  rw [this]
theorem look_new (b : Bool) (m : Nat) (hm : m.testBit L = false) (ht : L ∉ s.takes) (hf : L ∉ s.fills) : newM (lookS L b s) (m ||| 2 ^ L) = newM s m ||| 2 ^ L := Nat.eq_of_testBit_eq fun i => by
  rw [newM, Nat.testBit_or, look_left b m i hm ht, look_fills b i hf, Nat.testBit_or, newM, Nat.testBit_or]
  by_cases h : i = L
  · subst h
    rw [if_pos rfl, if_pos rfl, Nat.testBit_two_pow_self]
    cases b <;> simp
  · rw [if_neg h, if_neg h, Nat.testBit_two_pow_of_ne (Ne.symm h), Bool.or_false]
theorem look_wire (b : Bool) : (lookS L b s).wire = s.wire ∧ (lookS L b s).up = s.up := by cases b <;> exact ⟨rfl, rfl⟩
end
def lookG (g : Graph) (L : Nat) (f : Nat → Bool) : Graph := ⟨g.wires, g.steps.zipIdx.map fun p => lookS L (f p.2) p.1, g.marks ||| 2 ^ L, g.code⟩
theorem lookG_at {g : Graph} {L : Nat} {f : Nat → Bool} {k : Nat} {s' : Step} (h : (lookG g L f).steps[k]? = some s') : ∃ s, g.steps[k]? = some s ∧ s' = lookS L (f k) s := by
  have h2 : (g.steps.zipIdx.map fun p => lookS L (f p.2) p.1)[k]? = some s' := h
  rw [List.getElem?_map, List.getElem?_zipIdx] at h2
  cases e : g.steps[k]? with
  | none => rw [e] at h2; simp at h2
  | some s =>
    rw [e] at h2
    simp at h2
    exact ⟨s, rfl, h2.symm⟩
theorem look_space {g : Graph} {S : List (Nat × Nat)} (sp : Space g S) {L : Nat} {f : Nat → Bool} (hm : g.marks.testBit L = false) (hs : ∀ s ∈ g.steps, L ∉ s.takes ∧ L ∉ s.fills) :
    Space (lookG g L f) ((S.filter fun x => !x.1.testBit L).map fun x => (x.1 ||| 2 ^ L, x.2)) := by
  refine ⟨List.mem_map.mpr ⟨(g.marks, g.code), List.mem_filter.mpr ⟨sp.beg, by simp [hm]⟩, rfl⟩, fun y hy k s' hk hc => ?_⟩
  obtain ⟨x, hx, rfl⟩ := List.mem_map.mp hy
  obtain ⟨hx1, hx2⟩ := List.mem_filter.mp hx
  have hxL : x.1.testBit L = false := by simpa using hx2
  obtain ⟨s, hk2, rfl⟩ := lookG_at hk
  obtain ⟨h1, h2⟩ := hs s (List.mem_of_getElem? hk2)
  have hc2 : canN s x.1 = true := by rw [← look_can (f k) x.1 h1]; exact hc
  obtain ⟨g1, g2, g3⟩ := sp.go x hx1 k s hk2 hc2
  obtain ⟨w1, w2⟩ := look_wire (L := L) (s := s) (f k)
  refine ⟨by rw [brokeN, w1, w2]; exact g1, by rw [look_crowd _ _ hxL h1 h2]; exact g2, List.mem_map.mpr ⟨nextB s x, List.mem_filter.mpr ⟨g3, ?_⟩, ?_⟩⟩
  · have : (newM s x.1).testBit L = false := by
      rw [newM, Nat.testBit_or, leftN, Nat.testBit_xor, hxL, bitsN_bit, bitsN_bit, decide_eq_false h1, decide_eq_false h2]; rfl
    show (!(newM s x.1).testBit L) = true
    rw [this]; rfl
  · show (newM s x.1 ||| 2 ^ L, newC s x.2) = (newM (lookS L (f k) s) (x.1 ||| 2 ^ L), newC (lookS L (f k) s) x.2)
    rw [look_new _ _ hxL h1 h2, newC, newC, w1]
theorem v_sortT (ks : List Nat) : bSortT [.tup (ks.map nD)] = .ok ((sortN ks).map nD) := by
  have e : intsOf (ks.map nD) = some (ks.map fun n : Nat => (n : Int)) := by
    rw [nD_map]
    exact intsOf_map _
  show (match intsOf (ks.map nD) with
    | some ns => Out.ok ((sortI ns).map D.int)
    | none => .stuck) = _
  rw [e]
  dsimp only
  rw [sortI_cast, nD_map]
section
variable {a0 a1 x5 x6 x7 x8 x9 x10 x11 x12 x13 x14 x15 : Option D}
def thereN (ss : List Step) (n : Nat) : Nat := ss.foldl (fun n s => (s.takes ++ s.fills).foldl (fun n k => n ||| 2 ^ k) n) n
theorem there_bit (i : Nat) : ∀ (ss : List Step) (n : Nat), (thereN ss n).testBit i = (n.testBit i || ss.any fun s => decide (i ∈ s.takes) || decide (i ∈ s.fills))
  | [], n => by simp [thereN]
  | s :: ss, n => by
    have := there_bit i ss ((s.takes ++ s.fills).foldl (fun n k => n ||| 2 ^ k) n)
    rw [thereN, List.foldl_cons]
    unfold thereN at this
    rw [this, foldl_bit, List.any_cons, Bool.or_assoc]
    congr 2
    rw [Bool.eq_iff_iff]
    simp
end
theorem nodup_lt {b : Nat} {ks : List Nat} (h : ks.Nodup) (hb : ∀ k ∈ ks, k < b) : ks.length ≤ b := by
  have key : ∀ (xs ys : List Nat), xs.Nodup → (∀ x ∈ xs, x ∈ ys) → xs.length ≤ ys.length := by
    intro xs
    induction xs with
    | nil => intro _ _ _; exact Nat.zero_le _
    | cons x xs ih =>
      intro ys h hs
      obtain ⟨h1, h2⟩ := List.nodup_cons.mp h
      have hx := hs x List.mem_cons_self
      have := ih (ys.erase x) h2 fun y hy => (List.mem_erase_of_ne fun e => by subst e; exact h1 hy).mpr (hs y (List.mem_cons_of_mem _ hy))
      rw [List.length_erase_of_mem hx] at this
      have := List.length_pos_of_mem hx
      simp only [List.length_cons]
      omega
  have := key ks (List.range b) h fun k hk => List.mem_range.mpr (hb k hk)
  simpa using this
def freeN (n : Nat) : List Nat := (List.range 64).filter fun p => !n.testBit p
end CW
namespace CW
open PySem PySem.Spec PyProof.Rows L2
structure Ring where
  ps : List (Nat × Nat)
  os : List Nat
  s0 : Nat
  code : Nat
namespace Ring
variable (r : Ring)
def w (d : Nat) : Nat := r.os.getD d 0
def lv (x : Nat) : Nat → Nat
  | 0 => r.code
  | n + 1 => if x.testBit n then lv x n ^^^ 2 ^ r.w n else lv x n
def mrk (x : Nat) : Nat := bitsN (r.ps.zipIdx.map fun p => if x.testBit p.1.1 == x.testBit p.1.2 then r.s0 + 2 * p.2 + 1 else r.s0 + 2 * p.2)
theorem mrk_bit (x p : Nat) : (r.mrk x).testBit p = true ↔ ∃ t i j, r.ps[t]? = some (i, j) ∧ p = if x.testBit i == x.testBit j then r.s0 + 2 * t + 1 else r.s0 + 2 * t := by
  unfold mrk
  rw [bitsN_bit, decide_eq_true_eq, List.mem_map]
  constructor
  · rintro ⟨⟨⟨i, j⟩, t⟩, h, e⟩
    obtain ⟨h1, h2⟩ := List.mem_zipIdx' h
    exact ⟨t, i, j, by rw [List.getElem?_eq_getElem h1, ← h2], e.symm⟩
  · rintro ⟨t, i, j, h, e⟩
    obtain ⟨h1, h2⟩ := List.getElem?_eq_some_iff.mp h
    exact ⟨((i, j), t), by rw [← h2]; exact List.mem_zipIdx_iff_getElem?.mpr (by simpa using List.getElem?_eq_getElem h1), e.symm⟩
structure Two (a b : Nat) : Prop where
  lt : a < b
  bl : b < r.os.length
  w : r.w a = r.w b
  only : ∀ d, d < r.os.length → r.w d = r.w a → d = a ∨ d = b
  arr : (a, b) ∈ r.ps
theorem lv_bit {a b : Nat} (h : r.Two a b) (x : Nat) : ∀ n, n ≤ r.os.length → (r.lv x n).testBit (r.w a) = ((r.code.testBit (r.w a) ^^ (decide (a < n) && x.testBit a)) ^^ (decide (b < n) && x.testBit b))
  | 0, _ => by simp [lv]
  | n + 1, hn => by
    have ih := lv_bit h x n (by omega)
    have hab := h.lt
    have e1 : (if x.testBit n then r.lv x n ^^^ 2 ^ r.w n else r.lv x n).testBit (r.w a) = ((r.lv x n).testBit (r.w a) ^^ (x.testBit n && decide (r.w n = r.w a))) := by
      cases hx : x.testBit n with
      | false => simp
      | true => simp [Nat.testBit_xor, Nat.testBit_two_pow]
    rw [lv, e1, ih]
    by_cases ha : n = a
    · subst ha
      have : ¬ b < n := by omega
      have h2 : ¬ b < n + 1 := by omega
      simp [this, h2]
    · by_cases hb : n = b
      · subst hb
        have h1 : a < n := by omega
        have h2 : a < n + 1 := by omega
        have hw := h.w
        simp [h1, h2, hw]
      · have hw : r.w n ≠ r.w a := fun z => by
          rcases h.only n (by omega) z with e | e
          · exact ha e
          · exact hb e
        have h1 : decide (a < n + 1) = decide (a < n) := by rw [decide_eq_decide]; omega
        have h2 : decide (b < n + 1) = decide (b < n) := by rw [decide_eq_decide]; omega
        rw [h1, h2]
        simp [hw]
theorem lv_congr {x y : Nat} : ∀ n, (∀ d, d < n → x.testBit d = y.testBit d) → r.lv x n = r.lv y n
  | 0, _ => rfl
  | n + 1, h => by
    rw [lv, lv, h n (Nat.lt_succ_self n), lv_congr n fun d hd => h d (Nat.lt_succ_of_lt hd)]
theorem flip_bit (x d e : Nat) : (x ^^^ 2 ^ d).testBit e = if e = d then !x.testBit d else x.testBit e := by
  by_cases h : e = d
  · subst h; rw [if_pos rfl, Cho.bit_self]
  · rw [if_neg h, Cho.bit_other (Ne.symm h)]
theorem lv_flip (x d : Nat) : ∀ n, d < n → r.lv (x ^^^ 2 ^ d) n = r.lv x n ^^^ 2 ^ r.w d
  | 0, h => by omega
  | n + 1, h => by
    rw [lv, lv, flip_bit]
    by_cases e : n = d
    · subst e
      rw [if_pos rfl, r.lv_congr (x := x ^^^ 2 ^ n) (y := x) n fun k hk => by rw [flip_bit, if_neg (by omega)]]
      cases x.testBit n with
      | false => simp
      | true => simp [Cho.xor_twice]
    · rw [if_neg e, lv_flip x d n (by omega)]
      split
      · rw [Nat.xor_assoc, Nat.xor_comm (2 ^ r.w d), ← Nat.xor_assoc]
      · rfl
def up (d : Nat) : Bool := !(r.lv (2 ^ r.os.length - 1) d).testBit (r.w d)
structure IsSt (d : Nat) (s : Step) : Prop where
  lt : d < r.os.length
  wire : s.wire = r.w d
  up : s.up = r.up d
  takes : ∀ p, p ∈ s.takes ↔ ∃ t i j, r.ps[t]? = some (i, j) ∧ ((j = d ∧ p = r.s0 + 2 * t) ∨ (i = d ∧ p = r.s0 + 2 * t + 1))
  fills : ∀ p, p ∈ s.fills ↔ ∃ t i j, r.ps[t]? = some (i, j) ∧ ((i = d ∧ p = r.s0 + 2 * t) ∨ (j = d ∧ p = r.s0 + 2 * t + 1))
theorem ones_bit {n d : Nat} (h : d < n) : (2 ^ n - 1).testBit d = true := by rw [Nat.testBit_two_pow_sub_one]; simpa using h
theorem go {d x : Nat} {s : Step} (h : r.IsSt d s) (hne : ∀ i j, (i, j) ∈ r.ps → i ≠ j) (h2 : ∃ a b, r.Two a b ∧ (d = a ∨ d = b)) (hc : canN s (r.mrk x) = true) :
    brokeN s (r.lv x r.os.length) = false ∧ crowdN s (r.mrk x) = false ∧ nextB s (r.mrk x, r.lv x r.os.length) = (r.mrk (x ^^^ 2 ^ d), r.lv (x ^^^ 2 ^ d) r.os.length) := by
  have hd := h.lt
  -- where it can be done
  have en : ∀ (t i j : Nat), r.ps[t]? = some (i, j) → (j = d → x.testBit i ≠ x.testBit j) ∧ (i = d → x.testBit i = x.testBit j) := by
    intro t i j ht
    rw [can_eq, canT, List.all_eq_true] at hc
    have hij := hne i j (List.mem_of_getElem? ht)
    constructor
    · rintro rfl e
      have := hc (r.s0 + 2 * t) ((h.takes _).mpr ⟨t, i, j, ht, .inl ⟨rfl, rfl⟩⟩)
      obtain ⟨t', i', j', ht', e'⟩ := (r.mrk_bit x _).mp this
      have : t' = t ∧ ¬ (x.testBit i' == x.testBit j') = true := by
        by_cases hb : (x.testBit i' == x.testBit j') = true
        · rw [if_pos hb] at e'; omega
        · rw [if_neg hb] at e'; exact ⟨by omega, hb⟩
      obtain ⟨rfl, hb⟩ := this
      rw [ht] at ht'
      cases ht'
      exact hb (by rw [e]; simp)
    · rintro rfl
      have := hc (r.s0 + 2 * t + 1) ((h.takes _).mpr ⟨t, i, j, ht, .inr ⟨rfl, rfl⟩⟩)
      obtain ⟨t', i', j', ht', e'⟩ := (r.mrk_bit x _).mp this
      have : t' = t ∧ (x.testBit i' == x.testBit j') = true := by
        by_cases hb : (x.testBit i' == x.testBit j') = true
        · rw [if_pos hb] at e'; exact ⟨by omega, hb⟩
        · rw [if_neg hb] at e'; omega
      obtain ⟨rfl, hb⟩ := this
      rw [ht] at ht'
      cases ht'
      simpa using hb
  refine ⟨?_, ?_, ?_⟩
  · obtain ⟨a, b, hab, hdab⟩ := h2
    have hw : r.w d = r.w a := by rcases hdab with rfl | rfl; exact rfl; exact hab.w.symm
    obtain ⟨t, ht⟩ := List.mem_iff_getElem?.mp hab.arr
    obtain ⟨e1, e2⟩ := en t a b ht
    have l1 := r.lv_bit hab x r.os.length (Nat.le_refl _)
    have l2 := r.lv_bit hab (2 ^ r.os.length - 1) d (by omega)
    have ha := hab.lt
    have hb := hab.bl
    rw [brokeN, h.wire, h.up, up, hw, l1, l2]
    rw [ones_bit (show a < r.os.length by omega), ones_bit hb]
    rcases hdab with rfl | rfl
    · have e := e2 rfl
      rw [e]
      have h1 : ¬ b < d := by omega
      simp [show d < r.os.length by omega, hb, h1]
    · have e := e1 rfl
      have h1 : a < d := ha
      have e3 : x.testBit a = !x.testBit d := by
        cases h4 : x.testBit a <;> cases h5 : x.testBit d <;> simp [h4, h5] at e ⊢
      rw [e3]
      simp [show a < r.os.length by omega, hb, h1]
  · rw [crowdN]
    have : leftN s (r.mrk x) &&& bitsN s.fills = 0 := Nat.eq_of_testBit_eq fun p => by
      rw [Nat.testBit_and, Nat.zero_testBit, leftN, Nat.testBit_xor, bitsN_bit, bitsN_bit]
      by_cases hf : p ∈ s.fills
      · obtain ⟨t, i, j, ht, hp⟩ := (h.fills p).mp hf
        obtain ⟨e1, e2⟩ := en t i j ht
        have hij := hne i j (List.mem_of_getElem? ht)
        have n1 : (r.mrk x).testBit p = false := by
          rw [← Bool.not_eq_true]
          intro z
          obtain ⟨t', i', j', ht', e'⟩ := (r.mrk_bit x _).mp z
          have : t' = t := by split at e' <;> rcases hp with ⟨_, hp⟩ | ⟨_, hp⟩ <;> omega
          subst this
          rw [ht] at ht'
          cases ht'
          rcases hp with ⟨rfl, hp⟩ | ⟨rfl, hp⟩
          · rw [e2 rfl] at e'
            simp at e'
            omega
          · have := e1 rfl
            rw [if_neg (by simpa using this)] at e'
            omega
        have n2 : p ∉ s.takes := fun z => by
          obtain ⟨t', i', j', ht', e'⟩ := (h.takes p).mp z
          have : t' = t := by rcases e' with ⟨_, e'⟩ | ⟨_, e'⟩ <;> rcases hp with ⟨_, hp⟩ | ⟨_, hp⟩ <;> omega
          subst this
          rw [ht] at ht'
          cases ht'
          rcases e' with ⟨q1, e'⟩ | ⟨q1, e'⟩ <;> rcases hp with ⟨q2, hp⟩ | ⟨q2, hp⟩ <;> omega
        rw [n1, decide_eq_false n2]
        rfl
      · rw [decide_eq_false hf, Bool.and_false]
    rw [this]
    rfl
  · unfold nextB
    refine Prod.ext ?_ ?_
    · show newM s (r.mrk x) = r.mrk (x ^^^ 2 ^ d)
      refine Nat.eq_of_testBit_eq fun p => ?_
      rw [newM, Nat.testBit_or, leftN, Nat.testBit_xor, bitsN_bit, bitsN_bit]
      -- p is a spot of an arrow, or none
      by_cases hs : ∃ t i j, r.ps[t]? = some (i, j) ∧ (p = r.s0 + 2 * t ∨ p = r.s0 + 2 * t + 1)
      · obtain ⟨t, i, j, ht, hp⟩ := hs
        obtain ⟨e1, e2⟩ := en t i j ht
        have hij := hne i j (List.mem_of_getElem? ht)
        have mb : ∀ y : Nat, (r.mrk y).testBit p = decide (p = if y.testBit i == y.testBit j then r.s0 + 2 * t + 1 else r.s0 + 2 * t) := fun y => by
          rw [Bool.eq_iff_iff, decide_eq_true_eq, r.mrk_bit]
          constructor
          · rintro ⟨t', i', j', ht', e'⟩
            have : t' = t := by split at e' <;> omega
            subst this
            rw [ht] at ht'
            cases ht'
            exact e'
          · exact fun e => ⟨t, i, j, ht, e⟩
        have tb : (p ∈ s.takes) ↔ ((j = d ∧ p = r.s0 + 2 * t) ∨ (i = d ∧ p = r.s0 + 2 * t + 1)) := by
          rw [h.takes]
          constructor
          · rintro ⟨t', i', j', ht', e'⟩
            have : t' = t := by rcases e' with ⟨_, e'⟩ | ⟨_, e'⟩ <;> omega
            subst this
            rw [ht] at ht'
            cases ht'
            exact e'
          · exact fun e => ⟨t, i, j, ht, e⟩
        have fb : (p ∈ s.fills) ↔ ((i = d ∧ p = r.s0 + 2 * t) ∨ (j = d ∧ p = r.s0 + 2 * t + 1)) := by
          rw [h.fills]
          constructor
          · rintro ⟨t', i', j', ht', e'⟩
            have : t' = t := by rcases e' with ⟨_, e'⟩ | ⟨_, e'⟩ <;> omega
            subst this
            rw [ht] at ht'
            cases ht'
            exact e'
          · exact fun e => ⟨t, i, j, ht, e⟩
        have tb2 : decide (p ∈ s.takes) = decide ((j = d ∧ p = r.s0 + 2 * t) ∨ (i = d ∧ p = r.s0 + 2 * t + 1)) := decide_eq_decide.mpr tb
        have fb2 : decide (p ∈ s.fills) = decide ((i = d ∧ p = r.s0 + 2 * t) ∨ (j = d ∧ p = r.s0 + 2 * t + 1)) := decide_eq_decide.mpr fb
        have f1 := flip_bit x d i
        have f2 := flip_bit x d j
        rw [mb x, mb (x ^^^ 2 ^ d), tb2, fb2, f1, f2]
        by_cases hid : i = d
        · subst hid
          have e := e2 rfl
          have hj : ¬ j = i := fun z => hij z.symm
          rcases hp with rfl | rfl
          · simp [hj, e]
          · simp [hj, e]
        · by_cases hjd : j = d
          · subst hjd
            have e := e1 rfl
            have e3 : x.testBit i = !x.testBit j := by
              cases h4 : x.testBit i <;> cases h5 : x.testBit j <;> simp [h4, h5] at e ⊢
            rcases hp with rfl | rfl
            · simp [hid, e3]
            · simp [hid, e3]
          · simp [hid, hjd]
      · have m0 : ∀ y : Nat, (r.mrk y).testBit p = false := fun y => by
          rw [← Bool.not_eq_true]
          intro z
          obtain ⟨t', i', j', ht', e'⟩ := (r.mrk_bit y _).mp z
          refine hs ⟨t', i', j', ht', ?_⟩
          split at e'
          · exact .inr e'
          · exact .inl e'
        have t0 : p ∉ s.takes := fun z => by
          obtain ⟨t', i', j', ht', e'⟩ := (h.takes p).mp z
          exact hs ⟨t', i', j', ht', by rcases e' with ⟨_, e'⟩ | ⟨_, e'⟩; exact .inl e'; exact .inr e'⟩
        have f0 : p ∉ s.fills := fun z => by
          obtain ⟨t', i', j', ht', e'⟩ := (h.fills p).mp z
          exact hs ⟨t', i', j', ht', by rcases e' with ⟨_, e'⟩ | ⟨_, e'⟩; exact .inl e'; exact .inr e'⟩
        rw [m0, m0, decide_eq_false t0, decide_eq_false f0]
        rfl
    · show newC s (r.lv x r.os.length) = _
      rw [newC, h.wire, r.lv_flip x d _ hd]
theorem lv_zero : ∀ n, r.lv 0 n = r.code
  | 0 => rfl
  | n + 1 => by rw [lv, Nat.zero_testBit, if_neg (by decide), lv_zero n]
theorem space {g : Graph} (hne : ∀ i j, (i, j) ∈ r.ps → i ≠ j) (h2 : ∀ d, d < r.os.length → ∃ a b, r.Two a b ∧ (d = a ∨ d = b)) (hs : ∀ s ∈ g.steps, ∃ d, r.IsSt d s) (hm : g.marks = r.mrk 0) (hc : g.code = r.code) :
    Space g ((List.range (2 ^ r.os.length)).map fun x => (r.mrk x, r.lv x r.os.length)) := by
  refine ⟨List.mem_map.mpr ⟨0, List.mem_range.mpr (Nat.pow_pos (by decide)), by rw [hm, hc, r.lv_zero]⟩, fun y hy k s hk hcan => ?_⟩
  obtain ⟨x, hx, rfl⟩ := List.mem_map.mp hy
  obtain ⟨d, hd⟩ := hs s (List.mem_of_getElem? hk)
  obtain ⟨g1, g2, g3⟩ := r.go hd hne (h2 d hd.lt) hcan
  refine ⟨g1, g2, List.mem_map.mpr ⟨x ^^^ 2 ^ d, List.mem_range.mpr ?_, g3.symm⟩⟩
  exact Nat.xor_lt_two_pow (List.mem_range.mp hx) (Nat.pow_lt_pow_right (by decide) hd.lt)
end Ring
end CW
namespace CW
open PySem PySem.Spec PyProof.Rows L2
structure OrdOk (n : Nat) (os : List Nat) : Prop where
  len : os.length = 2 * n
  cnt : ∀ v, os.count v = if v < n then 2 else 0
theorem count_ins (os : List Nat) (a x v : Nat) : (os.take a ++ [x] ++ os.drop a).count v = os.count v + if v = x then 1 else 0 := by
  have h : os.count v = (os.take a).count v + (os.drop a).count v := by rw [← List.count_append, List.take_append_drop]
  rw [List.count_append, List.count_append, h, List.count_singleton]
  by_cases e : v = x
  · subst e; simp; omega
  · have : (x == v) = false := by simpa using fun z : x = v => e z.symm
    simp [this, e]
theorem len_ins (os : List Nat) (a x : Nat) : (os.take a ++ [x] ++ os.drop a).length = os.length + 1 := by
  simp only [List.length_append, List.length_take, List.length_drop, List.length_singleton]
  omega
theorem one_order (ns : List Int) (first : Nat) (w : Nat) (a2 : Option D) (os : List Nat) (h : OrdOk w os) (hw : w ≤ 100) (v5 v6 v7 : Option D) : ∃ os' v5' v6' v7', OrdOk (w + 1) os' ∧
    b1_l_order [some (.scr ns), some (nD first), a2, some (.lst (os.map nD)), some (nD w), v5, v6, v7] = .nx [some (.scr ns), some (nD first), a2, some (.lst (os'.map nD)), some (nD w), v5', v6', v7'] := by
  have em := v_l_mix_2 ns (first + w)
  generalize mixN ns (first + w) = c at em
  have hl := h.len
  have ha : c % (os.length + 1) < os.length + 1 := Nat.mod_lt _ (by omega)
  generalize hat : c % (os.length + 1) = a at ha
  have hl1 := len_ins os a w
  generalize ho1 : os.take a ++ [w] ++ os.drop a = o1 at hl1
  have hb : 0 < o1.length - a := by omega
  have hb2 : c / 64 % (o1.length - a) < o1.length - a := Nat.mod_lt _ hb
  generalize hfar : c / 64 % (o1.length - a) = b at hb2
  refine ⟨o1.take (a + 1 + b) ++ [w] ++ o1.drop (a + 1 + b), some (nD c), some (nD a), some (nD b), ⟨by rw [len_ins]; omega, fun v => ?_⟩, ?_⟩
  · rw [count_ins, ← ho1, count_ins, h.cnt]
    by_cases e : v = w
    · subst e; simp
    · have : (v < w + 1) = (v < w) := propext ⟨fun z => by omega, fun z => by omega⟩
      simp [e, this]
  · have e1 : ((os.map nD).take a ++ [nD w] ++ (os.map nD).drop a) = o1.map nD := by rw [← ho1]; simp
    have e2 : ((o1.map nD).take (a + 1 + b) ++ [nD w] ++ (o1.map nD).drop (a + 1 + b)) = (o1.take (a + 1 + b) ++ [w] ++ o1.drop (a + 1 + b)).map nD := by simp
    rw [← e2]
    have l1 : (os.map nD).length = os.length := List.length_map _
    have l2 : (o1.map nD).length = o1.length := List.length_map _
    generalize os.map nD = od at e1 l1 ⊢
    generalize o1.map nD = o1d at e1 l2 ⊢
    simp only [List.append_assoc, List.cons_append, List.nil_append] at e1
    have s1 : os.length < sizeLine := lt_line (by omega)
    have s2 : o1.length < sizeLine := lt_line (by omega)
    simp [b1_l_order, em, l1, hat, show a < 4611686018427387904 by omega, s1, e1, l2, show a ≤ o1.length by omega, hb, hfar, show a + 1 + b < 4611686018427387904 by omega, s2]
theorem loop_order (ns : List Int) (first : Nat) (a2 : Option D) : ∀ (n k : Nat) (os : List Nat), OrdOk k os → k + n ≤ 100 → ∀ (v4 v5 v6 v7 : Option D), ∃ os' v4' v5' v6' v7', OrdOk (k + n) os' ∧
    forL [4] gN b1_l_order ((List.range' k n).map nD) [some (.scr ns), some (nD first), a2, some (.lst (os.map nD)), v4, v5, v6, v7] = .nx [some (.scr ns), some (nD first), a2, some (.lst (os'.map nD)), v4', v5', v6', v7']
  | 0, k, os, h, _, v4, v5, v6, v7 => ⟨os, v4, v5, v6, v7, h, rfl⟩
  | n + 1, k, os, h, hk, v4, v5, v6, v7 => by
    obtain ⟨o1, w5, w6, w7, h1, e⟩ := one_order ns first k a2 os h (by omega) v5 v6 v7
    obtain ⟨o2, u4, u5, u6, u7, h2, e2⟩ := loop_order ns first a2 n (k + 1) o1 h1 (by omega) (some (nD k)) w5 w6 w7
    refine ⟨o2, u4, u5, u6, u7, by rw [show k + (n + 1) = k + 1 + n by omega]; exact h2, ?_⟩
    rw [List.range'_succ, List.map_cons, forL_nx _ _ rfl e, e2]
theorem v_l_order (ns : List Int) (first n : Nat) (hn : n ≤ 100) : ∃ os, OrdOk n os ∧ f_l_order [.scr ns, nD first, nD n] = .ok (os.map nD) := by
  obtain ⟨os, u4, u5, u6, u7, h, e⟩ := loop_order ns first (some (nD n)) n 0 [] ⟨rfl, fun v => by simp⟩ (by omega) none none none none
  rw [Nat.zero_add] at h
  refine ⟨os, h, ?_⟩
  rw [← List.range_eq_range', List.map_nil] at e
  simp [f_l_order, d_l_order, show n < 4611686018427387904 by omega, e]
theorem in_keyT (neg : Bool) (x : Nat × Nat) (ks : List (Nat × Nat)) : oIn neg (keyT x) (.lst (ks.map keyT)) = .ok (.bl (neg != decide (x ∈ ks))) := by
  have h1 : okDs 59 (ks.map keyT) = true := by
    rw [okDs_map, List.all_eq_true]
    intro y _
    simp [keyT]
  have h2 : okD 60 (keyT x) = true := by simp [keyT]
  have h3 : inD (keyT x) (ks.map keyT) = decide (x ∈ ks) := by
    have := dHas_keyT x ks
    exact this
  show (if (flatD (keyT x) && (ks.map keyT).all flatD) || (okD 60 (keyT x) && okDs 59 (ks.map keyT)) then Out.ok (D.bl (neg != inD (keyT x) (ks.map keyT))) else .stuck) = _
  rw [h1, h2, h3]
  simp
structure PsOk (size : Nat) (ps : List (Nat × Nat)) : Prop where
  nd : ps.Nodup
  lt : ∀ p ∈ ps, p.1 < p.2 ∧ p.2 < size
theorem one_arrow (ns : List Int) (first size k : Nat) (hs : 0 < size) (a2 : Option D) (ps : List (Nat × Nat)) (h : PsOk size ps) (hl : ps.length ≤ 1000) (v6 v7 v8 : Option D) : ∃ ps' v6' v7' v8', PsOk size ps' ∧ ps'.length ≤ ps.length + 1 ∧
    b1_l_arrows_2 [some (.scr ns), some (nD first), a2, some (nD size), some (.lst (ps.map keyT)), some (nD k), v6, v7, v8] = .nx [some (.scr ns), some (nD first), a2, some (nD size), some (.lst (ps'.map keyT)), some (nD k), v6', v7', v8'] := by
  have em := v_l_mix_2 ns (first + k)
  generalize mixN ns (first + k) = c at em
  have hi : c % size < size := Nat.mod_lt _ hs
  have hj : c / 64 % size < size := Nat.mod_lt _ hs
  generalize hci : c % size = i at hi
  generalize hcj : c / 64 % size = j at hj
  have et : ∀ a b, D.tup [nD a, nD b] = keyT (a, b) := fun _ _ => rfl
  have ein := in_keyT true (min i j, max i j) ps
  have hz := lt_line (show ps.length < 1000000 by omega)
  have hll : (ps.map keyT).length = ps.length := List.length_map _
  by_cases hij : i = j
  · refine ⟨ps, some (nD c), some (nD i), some (nD j), h, by omega, ?_⟩
    simp [b1_l_arrows_2, em, hs, hci, hcj, hij]
  · by_cases hin : (min i j, max i j) ∈ ps
    · refine ⟨ps, some (nD c), some (nD i), some (nD j), h, by omega, ?_⟩
      rw [decide_eq_true hin] at ein
      generalize ps.map keyT = pl at ein hll ⊢
      simp [b1_l_arrows_2, em, hs, hci, hcj, hij, et, ein]
    · refine ⟨ps ++ [(min i j, max i j)], some (nD c), some (nD i), some (nD j), ⟨?_, fun p hp => ?_⟩, by simp, ?_⟩
      · rw [List.nodup_append]
        exact ⟨h.nd, by simp, fun a ha b hb e => hin (by have : b = (min i j, max i j) := by simpa using hb
                                                         rw [← this, ← e]; exact ha)⟩
      · rcases List.mem_append.mp hp with hp | hp
        · exact h.lt p hp
        · have : p = (min i j, max i j) := by simpa using hp
          subst this
          show min i j < max i j ∧ max i j < size
          omega
      · rw [decide_eq_false hin] at ein
        rw [List.map_append]
        simp only [List.map_cons, List.map_nil]
        generalize ps.map keyT = pl at ein hll ⊢
        simp [b1_l_arrows_2, em, hs, hci, hcj, hij, et, ein, hll, hz]
theorem loop_arrows (ns : List Int) (first size : Nat) (hs : 0 < size) (a2 : Option D) : ∀ (js : List Nat) (ps : List (Nat × Nat)), PsOk size ps → ps.length + js.length ≤ 1000 → ∀ (v5 v6 v7 v8 : Option D), ∃ ps' v5' v6' v7' v8', PsOk size ps' ∧ ps'.length ≤ ps.length + js.length ∧
    forL [5] gN b1_l_arrows_2 (js.map nD) [some (.scr ns), some (nD first), a2, some (nD size), some (.lst (ps.map keyT)), v5, v6, v7, v8] = .nx [some (.scr ns), some (nD first), a2, some (nD size), some (.lst (ps'.map keyT)), v5', v6', v7', v8']
  | [], ps, h, _, v5, v6, v7, v8 => ⟨ps, v5, v6, v7, v8, h, by omega, rfl⟩
  | k :: js, ps, h, hl, v5, v6, v7, v8 => by
    rw [List.length_cons] at hl
    obtain ⟨p1, w6, w7, w8, h1, l1, e⟩ := one_arrow ns first size k hs a2 ps h (by omega) v6 v7 v8
    obtain ⟨p2, u5, u6, u7, u8, h2, l2, e2⟩ := loop_arrows ns first size hs a2 js p1 h1 (by omega) (some (nD k)) w6 w7 w8
    exact ⟨p2, u5, u6, u7, u8, h2, by rw [List.length_cons]; omega, by rw [List.map_cons, forL_nx _ _ rfl e, e2]⟩
theorem v_l_arrows (ns : List Int) (first many size : Nat) (hs : 0 < size) (hm : many ≤ 100) : ∃ ps, PsOk size ps ∧ ps.length ≤ many ∧ f_l_arrows_2 [.scr ns, nD first, nD many, nD size] = .ok (ps.map keyT) := by
  obtain ⟨ps, u5, u6, u7, u8, h, l, e⟩ := loop_arrows ns first size hs (some (nD many)) (List.range many) [] ⟨List.nodup_nil, by simp⟩ (by simp; omega) none none none none
  rw [List.map_nil] at e
  refine ⟨ps, h, by simpa using l, ?_⟩
  simp [f_l_arrows_2, d_l_arrows_2, show many < 4611686018427387904 by omega, e]
end CW
namespace CW
open PySem PySem.Spec PyProof.Rows L2

theorem ne_keyT2 (x y : Nat × Nat) : oNe (keyT x) (keyT y) = .ok (.bl (decide (x ≠ y))) := by
  have h : eqD (keyT x) (keyT y) = decide (x = y) := eqD_keyT x y
  have h2 : oNe (keyT x) (keyT y) = .ok (.bl (!eqD (keyT x) (keyT y))) := by simp [keyT]
  rw [h2, h]
  by_cases e : x = y <;> simp [e]
theorem idxD_n (w : Nat) : ∀ (A B : List Nat), w ∉ A → idxD (nD w) ((A ++ w :: B).map nD) = some A.length
  | [], B, _ => by simp [idxD]
  | a :: A, B, h => by
    have ih := idxD_n w A B fun z => h (List.mem_cons_of_mem _ z)
    have hne : (a == w) = false := by simpa using fun e : a = w => h (e ▸ List.mem_cons_self)
    rw [List.cons_append, List.map_cons]
    unfold idxD
    rw [eqD_nn, hne, ih]
    rfl
theorem v_indexN {w : Nat} {A B : List Nat} (h : w ∉ A) : mIndex (.lst ((A ++ w :: B).map nD)) (nD w) = .ok (nD A.length) := by
  show (if flatD (nD w) && ((A ++ w :: B).map nD).all flatD then match idxD (nD w) ((A ++ w :: B).map nD) with
    | some j => Out.ok (D.int j)
    | none => .stuck else .stuck) = _
  rw [flatD_nD, allflat_n, idxD_n w A B h]
  rfl
theorem two_of_count {os : List Nat} {w : Nat} (h : os.count w = 2) : ∃ A B C, os = A ++ w :: (B ++ w :: C) ∧ w ∉ A ∧ w ∉ B ∧ w ∉ C := by
  have h1 : w ∈ os := List.count_pos_iff.mp (by omega)
  obtain ⟨A, R, e1, hA⟩ := List.eq_append_cons_of_mem h1
  subst e1
  rw [List.count_append, List.count_cons_self, List.count_eq_zero_of_not_mem hA] at h
  have h2 : w ∈ R := List.count_pos_iff.mp (by omega)
  obtain ⟨B, C, e2, hB⟩ := List.eq_append_cons_of_mem h2
  subst e2
  rw [List.count_append, List.count_cons_self, List.count_eq_zero_of_not_mem hB] at h
  exact ⟨A, B, C, rfl, hA, hB, fun z => by have := List.count_pos_iff.mpr z; omega⟩
structure TwoAt (os : List Nat) (w a b : Nat) : Prop where
  lt : a < b
  bl : b < os.length
  wa : os[a]? = some w
  wb : os[b]? = some w
  only : ∀ d, os[d]? = some w → d = a ∨ d = b
theorem twoAt_of {w : Nat} {A B C : List Nat} (hA : w ∉ A) (hB : w ∉ B) (hC : w ∉ C) : TwoAt (A ++ w :: (B ++ w :: C)) w A.length (A.length + 1 + B.length) := by
  refine ⟨by omega, by simp; omega, by simp, ?_, fun d hd => ?_⟩
  · rw [List.getElem?_append_right (by omega), show A.length + 1 + B.length - A.length = B.length + 1 by omega, List.getElem?_cons_succ]
    simp
  · by_cases h1 : d < A.length
    · rw [List.getElem?_append_left h1] at hd
      exact absurd (List.mem_of_getElem? hd) hA
    · rw [List.getElem?_append_right (by omega)] at hd
      by_cases h2 : d - A.length = 0
      · exact .inl (by omega)
      · obtain ⟨m, hm⟩ : ∃ m, d - A.length = m + 1 := ⟨d - A.length - 1, by omega⟩
        rw [hm, List.getElem?_cons_succ] at hd
        by_cases h3 : m < B.length
        · rw [List.getElem?_append_left h3] at hd
          exact absurd (List.mem_of_getElem? hd) hB
        · rw [List.getElem?_append_right (by omega)] at hd
          by_cases h4 : m - B.length = 0
          · exact .inr (by omega)
          · obtain ⟨q, hq⟩ : ∃ q, m - B.length = q + 1 := ⟨m - B.length - 1, by omega⟩
            rw [hq, List.getElem?_cons_succ] at hd
            exact absurd (List.mem_of_getElem? hd) hC
section
variable {e0 e1 e2 e3 e4 e5 e6 e7 e8 e9 e10 e11 e12 e13 e14 e15 e16 e17 e18 e19 e20 e21 e22 e23 e24 e25 : Option D}
theorem chain_g (ps : List (Nat × Nat)) (size : Nat) : compL [24] gN c1_l_graph_3 e1_l_graph_3 [e0, e1, e2, e3, e4, e5, e6, some (.lst (ps.map keyT)), e8, e9, e10, e11, e12, e13, e14, e15, e16, e17, e18, e19, e20, e21, e22, e23, none, e25] ((List.range (size - 1)).map nD) = .ok (((List.range (size - 1)).filter fun k => decide ((k, k + 1) ∉ ps)).map fun k => keyT (k, k + 1)) := by
  refine compL_filter (is := [24]) (asg := gN) nD (fun k => [nD k]) (fun _ => rfl) (fun k => decide ((k, k + 1) ∉ ps)) (fun k => keyT (k, k + 1)) (List.range (size - 1)) (fun k _ => ?_) (fun k _ _ => ?_)
  · have e := in_keyT true (k, k + 1) ps
    have et : D.tup [nD k, nD (k + 1)] = keyT (k, k + 1) := rfl
    simp [c1_l_graph_3, et, e]
  · have et : D.tup [nD k, nD (k + 1)] = keyT (k, k + 1) := rfl
    simp [e1_l_graph_3, et]
theorem one_own {os : List Nat} {w n : Nat} (ho : OrdOk n os) (hw : w < n) (hn : n ≤ 100) {ps : List (Nat × Nat)} {size : Nat} (hsz : size = os.length) (h : PsOk size ps) (hl : ps.length ≤ 1000) : ∃ ps' s19 s20 a b, PsOk size ps' ∧ ps'.length ≤ ps.length + 1 ∧ TwoAt os w a b ∧ (a, b) ∈ ps' ∧ (∀ p ∈ ps, p ∈ ps') ∧
    b1_l_graph_3 [e0, e1, e2, e3, some (.lst (os.map nD)), e5, e6, some (.lst (ps.map keyT)), some (nD w), e9, e10, e11, e12, e13, e14, e15, e16, e17, e18, e19, e20, e21, e22, e23, e24, e25] = .nx [e0, e1, e2, e3, some (.lst (os.map nD)), e5, e6, some (.lst (ps'.map keyT)), some (nD w), e9, e10, e11, e12, e13, e14, e15, e16, e17, e18, s19, s20, e21, e22, e23, e24, e25] := by
  obtain ⟨A, B, C, rfl, hA, hB, hC⟩ := two_of_count (by have := ho.cnt w; rw [if_pos hw] at this; exact this)
  have h2 := twoAt_of hA hB hC
  have i1 := v_indexN (B := B ++ w :: C) hA
  have i2 := v_indexN (B := C) hB
  have hlen := ho.len
  have hdrop : ((A ++ w :: (B ++ w :: C)).map nD).drop (A.length + 1) = (B ++ w :: C).map nD := by
    rw [← List.map_drop]
    have e : A ++ w :: (B ++ w :: C) = (A ++ [w]) ++ (B ++ w :: C) := by simp
    rw [e, List.drop_left' (by simp)]
  refine ⟨ps.filter (fun p => decide (p ≠ (A.length, A.length + 1 + B.length))) ++ [(A.length, A.length + 1 + B.length)], some (nD A.length), some (nD (A.length + 1 + B.length)), A.length, A.length + 1 + B.length, ⟨?_, fun p hp => ?_⟩, ?_, h2, by simp, fun p hp => ?_, ?_⟩
  · rw [List.nodup_append]
    refine ⟨h.nd.filter _, by simp, fun x hx y hy e => ?_⟩
    have : y = (A.length, A.length + 1 + B.length) := by simpa using hy
    subst this
    subst e
    simpa using (List.mem_filter.mp hx).2
  · rcases List.mem_append.mp hp with hp | hp
    · exact h.lt p (List.mem_filter.mp hp).1
    · have : p = (A.length, A.length + 1 + B.length) := by simpa using hp
      subst this
      exact ⟨h2.lt, by rw [hsz]; exact h2.bl⟩
  · rw [List.length_append, List.length_singleton]
    have := List.length_filter_le (fun p => decide (p ≠ (A.length, A.length + 1 + B.length))) ps
    omega
  · by_cases e : p = (A.length, A.length + 1 + B.length)
    · subst e; simp
    · exact List.mem_append_left _ (List.mem_filter.mpr ⟨hp, by simpa using e⟩)
  · have hc : compL [25] gN c2_l_graph_3 (eV 25) [e0, e1, e2, e3, some (.lst ((A ++ w :: (B ++ w :: C)).map nD)), e5, e6, some (.lst (ps.map keyT)), some (nD w), e9, e10, e11, e12, e13, e14, e15, e16, e17, e18, some (nD A.length), some (nD (A.length + 1 + B.length)), e21, e22, e23, e24, none] (ps.map keyT) = .ok ((ps.filter fun p => decide (p ≠ (A.length, A.length + 1 + B.length))).map keyT) := by
      refine compL_filter (is := [25]) (asg := gN) keyT (fun p => [keyT p]) (fun _ => rfl) (fun p => decide (p ≠ (A.length, A.length + 1 + B.length))) keyT ps (fun p _ => ?_) (fun p _ _ => by simp)
      have et : D.tup [nD A.length, nD (A.length + 1 + B.length)] = keyT (A.length, A.length + 1 + B.length) := rfl
      have := ne_keyT2 p (A.length, A.length + 1 + B.length)
      simp only [c2_l_graph_3]
      simp [et, this]
    have hfl := List.length_filter_le (fun p => decide (p ≠ (A.length, A.length + 1 + B.length))) ps
    have lc : ((ps.filter fun p => decide (p ≠ (A.length, A.length + 1 + B.length))).map keyT).length + 1 ≤ sizeLine := le_line (by rw [List.length_map]; omega)
    have l1 : (ps.map keyT).length ≤ sizeLine := le_line (by rw [List.length_map]; omega)
    have et : D.tup [nD A.length, nD (A.length + 1 + B.length)] = keyT (A.length, A.length + 1 + B.length) := rfl
    have em : ((ps.filter fun p => decide (p ≠ (A.length, A.length + 1 + B.length))) ++ [(A.length, A.length + 1 + B.length)]).map keyT = (ps.filter fun p => decide (p ≠ (A.length, A.length + 1 + B.length))).map keyT ++ [keyT (A.length, A.length + 1 + B.length)] := by
      rw [List.map_append]; rfl
    rw [em]
    generalize (ps.filter fun p => decide (p ≠ (A.length, A.length + 1 + B.length))).map keyT = fl at hc lc ⊢
    generalize ps.map keyT = pl at hc l1 ⊢
    generalize (A ++ w :: (B ++ w :: C)).map nD = ol at hdrop i1 hc ⊢
    generalize (B ++ w :: C).map nD = bl at hdrop i2
    simp [b1_l_graph_3, i1, hdrop, i2, l1, hc, lc, et]
theorem loop_own {os : List Nat} {n : Nat} (ho : OrdOk n os) (hn : n ≤ 100) {size : Nat} (hsz : size = os.length) : ∀ (m k : Nat) (ps : List (Nat × Nat)), PsOk size ps → k + m ≤ n → ps.length + m ≤ 1000 → ∀ (s8 s19 s20 : Option D), ∃ ps' t8 t19 t20, PsOk size ps' ∧ ps'.length ≤ ps.length + m ∧ (∀ p ∈ ps, p ∈ ps') ∧ (∀ w, k ≤ w → w < k + m → ∃ a b, TwoAt os w a b ∧ (a, b) ∈ ps') ∧
    forL [8] gN b1_l_graph_3 ((List.range' k m).map nD) [e0, e1, e2, e3, some (.lst (os.map nD)), e5, e6, some (.lst (ps.map keyT)), s8, e9, e10, e11, e12, e13, e14, e15, e16, e17, e18, s19, s20, e21, e22, e23, e24, e25] = .nx [e0, e1, e2, e3, some (.lst (os.map nD)), e5, e6, some (.lst (ps'.map keyT)), t8, e9, e10, e11, e12, e13, e14, e15, e16, e17, e18, t19, t20, e21, e22, e23, e24, e25]
  | 0, k, ps, h, _, _, s8, s19, s20 => ⟨ps, s8, s19, s20, h, by omega, fun p hp => hp, fun w h1 h2 => by omega, rfl⟩
  | m + 1, k, ps, h, hk, hl, s8, s19, s20 => by
    obtain ⟨p1, t19, t20, a, b, h1, l1, h2, h3, h4, e⟩ := one_own (e0 := e0) (e1 := e1) (e2 := e2) (e3 := e3) (e5 := e5) (e6 := e6) (e9 := e9) (e10 := e10) (e11 := e11) (e12 := e12) (e13 := e13) (e14 := e14) (e15 := e15) (e16 := e16) (e17 := e17) (e18 := e18) (e19 := s19) (e20 := s20) (e21 := e21) (e22 := e22) (e23 := e23) (e24 := e24) (e25 := e25) ho (show k < n by omega) hn hsz h (by omega)
    obtain ⟨p2, u8, u19, u20, g1, m1, g2, g3, e'⟩ := loop_own ho hn hsz m (k + 1) p1 h1 (by omega) (by omega) (some (nD k)) t19 t20
    refine ⟨p2, u8, u19, u20, g1, by omega, fun p hp => g2 p (h4 p hp), fun w q1 q2 => ?_, ?_⟩
    · by_cases e : w = k
      · subst e; exact ⟨a, b, h2, g2 _ h3⟩
      · exact g3 w (by omega) (by omega)
    · rw [List.range'_succ, List.map_cons, forL_nx _ _ rfl e, e']
end
end CW
namespace CW
open PySem PySem.Spec PyProof.Rows L2
def nestD (size : Nat) (f : Nat → List Nat) : List D := (List.range size).map fun d => .lst ((f d).map nD)
theorem nest_len (size : Nat) (f : Nat → List Nat) : (nestD size f).length = size := by simp [nestD]
theorem nest_at {size : Nat} {f : Nat → List Nat} {i : Nat} (h : i < size) : (nestD size f)[i]? = some (.lst ((f i).map nD)) := by
  unfold nestD
  rw [List.getElem?_map, List.getElem?_range h]
  rfl
def putF (f : Nat → List Nat) (i v : Nat) : Nat → List Nat := fun d => if d = i then f d ++ [v] else f d
theorem nest_set {size : Nat} {f : Nat → List Nat} {i v : Nat} (h : i < size) : (nestD size f).set i (.lst ((f i).map nD ++ [nD v])) = nestD size (putF f i v) := by
  refine List.ext_getElem? fun d => ?_
  rw [List.getElem?_set]
  by_cases e : i = d
  · subst e
    rw [if_pos rfl, if_pos (by rw [nest_len]; exact h), nest_at h]
    simp [putF]
  · rw [if_neg e]
    unfold nestD
    rw [List.getElem?_map, List.getElem?_map]
    by_cases hd : d < size
    · rw [List.getElem?_range hd]
      have : ¬ d = i := fun z => e z.symm
      simp [putF, this]
    · rw [List.getElem?_eq_none (by simpa using hd)]
      rfl
def tkF (f : Nat → List Nat) (i j s : Nat) : Nat → List Nat := putF (putF f j s) i (s + 1)
def flF (f : Nat → List Nat) (i j s : Nat) : Nat → List Nat := putF (putF f i s) j (s + 1)
section
variable {e0 e1 e2 e3 e4 e5 e6 e7 e8 e9 e10 e11 e12 e13 e14 e15 e16 e17 e18 e19 e20 e21 e22 e23 e24 e25 : Option D}
theorem one_fill {size i j s m : Nat} (hsz : size ≤ 1000) (hi : i < size) (hj : j < size) (hij : i ≠ j) (hs : s ≤ 1000) {f g : Nat → List Nat} (hf : ∀ d, (f d).length ≤ 1000) (hg : ∀ d, (g d).length ≤ 1000) :
    b2_l_graph_3 [e0, e1, e2, e3, e4, e5, e6, e7, e8, some (.lst (nestD size f)), some (.lst (nestD size g)), some (nD m), some (nD s), e13, e14, e15, e16, e17, e18, e19, e20, some (nD i), some (nD j), e23, e24, e25] = .nx [e0, e1, e2, e3, e4, e5, e6, e7, e8, some (.lst (nestD size (tkF f i j s))), some (.lst (nestD size (flF g i j s))), some (nD (m ||| 2 ^ (s + 1))), some (nD (s + 2)), e13, e14, e15, e16, e17, e18, e19, e20, some (nD i), some (nD j), e23, e24, e25] := by
  have put_ne : ∀ (f : Nat → List Nat) (a b v : Nat), b ≠ a → putF f a v b = f b := fun f a b v h => if_neg h
  -- fills
  have f1 := nest_at (f := g) hi
  have f2 := nest_set (f := g) (v := s) hi
  have f3 := nest_at (f := putF g i s) hj
  have f4 := nest_set (f := putF g i s) (v := s + 1) hj
  have t1 := nest_at (f := f) hj
  have t2 := nest_set (f := f) (v := s) hj
  have t3 := nest_at (f := putF f j s) hi
  have t4 := nest_set (f := putF f j s) (v := s + 1) hi
  have lf1 : ((g i).map nD).length < sizeLine := lt_line (by rw [List.length_map]; have := hg i; omega)
  have lf2 : ((putF g i s j).map nD).length < sizeLine := lt_line (by rw [List.length_map, put_ne _ _ _ _ (Ne.symm hij)]; have := hg j; omega)
  have lt1 : ((f j).map nD).length < sizeLine := lt_line (by rw [List.length_map]; have := hf j; omega)
  have lt2 : ((putF f j s i).map nD).length < sizeLine := lt_line (by rw [List.length_map, put_ne _ _ _ _ hij]; have := hf i; omega)
  have k1 : ∀ kl, inL (nestD size g) i kl = kl ((g i).map nD) := fun kl => inL_some _ kl f1
  have k2 : ∀ kl, inL (nestD size (putF g i s)) j kl = kl ((putF g i s j).map nD) := fun kl => inL_some _ kl f3
  have k3 : ∀ kl, inL (nestD size f) j kl = kl ((f j).map nD) := fun kl => inL_some _ kl t1
  have k4 : ∀ kl, inL (nestD size (putF f j s)) i kl = kl ((putF f j s i).map nD) := fun kl => inL_some _ kl t3
  unfold tkF flF
  generalize nestD size (putF (putF g i s) j (s + 1)) = n5 at f4 ⊢
  generalize nestD size (putF (putF f j s) i (s + 1)) = n6 at t4 ⊢
  generalize nestD size (putF g i s) = n4 at f2 f4 k2
  generalize nestD size (putF f j s) = n3 at t2 t4 k4
  generalize nestD size g = n2 at f2 k1 ⊢
  generalize nestD size f = n1 at t2 k3 ⊢
  generalize (g i).map nD = a1 at f2 k1 lf1
  generalize (putF g i s j).map nD = a2 at f4 k2 lf2
  generalize (f j).map nD = a3 at t2 k3 lt1
  generalize (putF f j s i).map nD = a4 at t4 k4 lt2
  simp [b2_l_graph_3, show i < 4611686018427387904 by omega, show j < 4611686018427387904 by omega, k1, lf1, f2, k3, lt1, t2, k2, lf2, f4, k4, lt2, t4, show s + 1 ≤ 1000000 by omega]
def tkL : List (Nat × Nat) → Nat → (Nat → List Nat) → Nat → List Nat
  | [], _, f => f
  | (i, j) :: qs, s, f => tkL qs (s + 2) (tkF f i j s)
def flL : List (Nat × Nat) → Nat → (Nat → List Nat) → Nat → List Nat
  | [], _, f => f
  | (i, j) :: qs, s, f => flL qs (s + 2) (flF f i j s)
def mkL : List (Nat × Nat) → Nat → Nat → Nat
  | [], _, m => m
  | _ :: qs, s, m => mkL qs (s + 2) (m ||| 2 ^ (s + 1))
theorem put_len (f : Nat → List Nat) (a v b : Nat) : (putF f a v b).length ≤ (f b).length + 1 := by unfold putF; split <;> simp
theorem tkF_len (f : Nat → List Nat) (i j s b : Nat) : (tkF f i j s b).length ≤ (f b).length + 2 := by
  have := put_len (putF f j s) i (s + 1) b
  have := put_len f j s b
  unfold tkF
  omega
theorem flF_len (f : Nat → List Nat) (i j s b : Nat) : (flF f i j s b).length ≤ (f b).length + 2 := by
  have := put_len (putF f i s) j (s + 1) b
  have := put_len f i s b
  unfold flF
  omega
theorem loop_fill {size : Nat} (hsz : size ≤ 1000) : ∀ (qs : List (Nat × Nat)) (s m : Nat) (f g : Nat → List Nat), (∀ p ∈ qs, p.1 < p.2 ∧ p.2 < size) → s + 2 * qs.length ≤ 1000 → (∀ d, (f d).length + 2 * qs.length ≤ 1000) → (∀ d, (g d).length + 2 * qs.length ≤ 1000) → ∀ (s21 s22 : Option D), ∃ t21 t22,
    forL [21, 22] (gT 2) b2_l_graph_3 (qs.map keyT) [e0, e1, e2, e3, e4, e5, e6, e7, e8, some (.lst (nestD size f)), some (.lst (nestD size g)), some (nD m), some (nD s), e13, e14, e15, e16, e17, e18, e19, e20, s21, s22, e23, e24, e25] = .nx [e0, e1, e2, e3, e4, e5, e6, e7, e8, some (.lst (nestD size (tkL qs s f))), some (.lst (nestD size (flL qs s g))), some (nD (mkL qs s m)), some (nD (s + 2 * qs.length)), e13, e14, e15, e16, e17, e18, e19, e20, t21, t22, e23, e24, e25]
  | [], s, m, f, g, _, _, _, _, s21, s22 => ⟨s21, s22, by simp only [List.map_nil, forL_nil, List.length_nil, Nat.mul_zero, Nat.add_zero, tkL, flL, mkL]⟩
  | (i, j) :: qs, s, m, f, g, h, hl, hf, hg, s21, s22 => by
    obtain ⟨h1, h2⟩ := h (i, j) List.mem_cons_self
    rw [List.length_cons] at hl
    simp only [List.length_cons] at hf hg
    have e := one_fill (e0 := e0) (e1 := e1) (e2 := e2) (e3 := e3) (e4 := e4) (e5 := e5) (e6 := e6) (e7 := e7) (e8 := e8) (e13 := e13) (e14 := e14) (e15 := e15) (e16 := e16) (e17 := e17) (e18 := e18) (e19 := e19) (e20 := e20) (e23 := e23) (e24 := e24) (e25 := e25) (m := m) hsz (show i < size by simp at h1 h2; omega) (show j < size from h2) (show i ≠ j by simp at h1; omega) (show s ≤ 1000 by omega) (f := f) (g := g) (fun d => by have := hf d; omega) (fun d => by have := hg d; omega)
    obtain ⟨t21, t22, e2'⟩ := loop_fill hsz qs (s + 2) (m ||| 2 ^ (s + 1)) (tkF f i j s) (flF g i j s) (fun p hp => h p (List.mem_cons_of_mem _ hp)) (by omega) (fun d => by have := tkF_len f i j s d; have := hf d; omega) (fun d => by have := flF_len g i j s d; have := hg d; omega) (some (nD i)) (some (nD j))
    refine ⟨t21, t22, ?_⟩
    have el : s + 2 * ((i, j) :: qs).length = s + 2 + 2 * qs.length := by rw [List.length_cons]; omega
    have ek : gT 2 (keyT (i, j)) = some [nD i, nD j] := rfl
    rw [List.map_cons, forL_nx (es := [nD i, nD j]) _ _ ek (by simp only [List.zip_cons_cons, List.zip_nil_left, setsE_cons, setsE_nil, List.set_cons_succ, List.set_cons_zero]; exact e), e2', el]
    simp only [tkL, flL, mkL]
end
structure FilOk (f : Nat → List Nat) (s : Nat) : Prop where
  nd : ∀ d, (f d).Nodup
  lt : ∀ d, ∀ p ∈ f d, p < s
theorem put_ok {f : Nat → List Nat} {s s' : Nat} (h : FilOk f s) (hs : s < s') (a : Nat) : FilOk (putF f a s) s' := by
  refine ⟨fun d => ?_, fun d p hp => ?_⟩
  · unfold putF
    split
    · rw [List.nodup_append]
      exact ⟨h.nd d, by simp, fun x hx y hy e => by
        have : y = s := by simpa using hy
        have := h.lt d x hx
        omega⟩
    · exact h.nd d
  · unfold putF at hp
    split at hp
    · rcases List.mem_append.mp hp with hp | hp
      · have := h.lt d p hp; omega
      · have : p = s := by simpa using hp
        omega
    · have := h.lt d p hp; omega
theorem put_mem {f : Nat → List Nat} {a v d p : Nat} : p ∈ putF f a v d ↔ p ∈ f d ∨ (a = d ∧ p = v) := by
  unfold putF
  split
  · rename_i e
    rw [List.mem_append, List.mem_singleton]
    exact ⟨fun h => h.elim .inl fun h => .inr ⟨e.symm, h⟩, fun h => h.elim .inl fun h => .inr h.2⟩
  · rename_i e
    exact ⟨.inl, fun h => h.elim id fun h => absurd h.1.symm e⟩
theorem tkL_mem : ∀ (qs : List (Nat × Nat)) (s : Nat) (f : Nat → List Nat) (d p : Nat), p ∈ tkL qs s f d ↔ p ∈ f d ∨ ∃ t i j, qs[t]? = some (i, j) ∧ ((j = d ∧ p = s + 2 * t) ∨ (i = d ∧ p = s + 2 * t + 1))
  | [], s, f, d, p => by simp [tkL]
  | (i, j) :: qs, s, f, d, p => by
    rw [tkL, tkL_mem qs]
    unfold tkF
    rw [put_mem, put_mem]
    constructor
    · rintro (((h | h) | h) | ⟨t, i', j', ht, h⟩)
      · exact .inl h
      · exact .inr ⟨0, i, j, rfl, .inl ⟨h.1, by omega⟩⟩
      · exact .inr ⟨0, i, j, rfl, .inr ⟨h.1, by omega⟩⟩
      · refine .inr ⟨t + 1, i', j', by simpa using ht, ?_⟩
        rcases h with h | h
        · exact .inl ⟨h.1, by omega⟩
        · exact .inr ⟨h.1, by omega⟩
    · rintro (h | ⟨t, i', j', ht, h⟩)
      · exact .inl (.inl (.inl h))
      · cases t with
        | zero =>
          simp at ht
          obtain ⟨rfl, rfl⟩ := ht
          rcases h with h | h
          · exact .inl (.inl (.inr ⟨h.1, by omega⟩))
          · exact .inl (.inr ⟨h.1, by omega⟩)
        | succ t =>
          refine .inr ⟨t, i', j', by simpa using ht, ?_⟩
          rcases h with h | h
          · exact .inl ⟨h.1, by omega⟩
          · exact .inr ⟨h.1, by omega⟩
theorem flL_mem : ∀ (qs : List (Nat × Nat)) (s : Nat) (f : Nat → List Nat) (d p : Nat), p ∈ flL qs s f d ↔ p ∈ f d ∨ ∃ t i j, qs[t]? = some (i, j) ∧ ((i = d ∧ p = s + 2 * t) ∨ (j = d ∧ p = s + 2 * t + 1))
  | [], s, f, d, p => by simp [flL]
  | (i, j) :: qs, s, f, d, p => by
    rw [flL, flL_mem qs]
    unfold flF
    rw [put_mem, put_mem]
    constructor
    · rintro (((h | h) | h) | ⟨t, i', j', ht, h⟩)
      · exact .inl h
      · exact .inr ⟨0, i, j, rfl, .inl ⟨h.1, by omega⟩⟩
      · exact .inr ⟨0, i, j, rfl, .inr ⟨h.1, by omega⟩⟩
      · refine .inr ⟨t + 1, i', j', by simpa using ht, ?_⟩
        rcases h with h | h
        · exact .inl ⟨h.1, by omega⟩
        · exact .inr ⟨h.1, by omega⟩
    · rintro (h | ⟨t, i', j', ht, h⟩)
      · exact .inl (.inl (.inl h))
      · cases t with
        | zero =>
          simp at ht
          obtain ⟨rfl, rfl⟩ := ht
          rcases h with h | h
          · exact .inl (.inl (.inr ⟨h.1, by omega⟩))
          · exact .inl (.inr ⟨h.1, by omega⟩)
        | succ t =>
          refine .inr ⟨t, i', j', by simpa using ht, ?_⟩
          rcases h with h | h
          · exact .inl ⟨h.1, by omega⟩
          · exact .inr ⟨h.1, by omega⟩
theorem tkL_ok : ∀ (qs : List (Nat × Nat)) (s : Nat) (f : Nat → List Nat), FilOk f s → FilOk (tkL qs s f) (s + 2 * qs.length)
  | [], s, f, h => by simpa [tkL] using h
  | (i, j) :: qs, s, f, h => by
    have h1 : FilOk (tkF f i j s) (s + 2) := put_ok (put_ok h (Nat.lt_succ_self s) j) (by omega) i
    have := tkL_ok qs (s + 2) _ h1
    rw [tkL, List.length_cons, show s + 2 * (qs.length + 1) = s + 2 + 2 * qs.length by omega]
    exact this
theorem flL_ok : ∀ (qs : List (Nat × Nat)) (s : Nat) (f : Nat → List Nat), FilOk f s → FilOk (flL qs s f) (s + 2 * qs.length)
  | [], s, f, h => by simpa [flL] using h
  | (i, j) :: qs, s, f, h => by
    have h1 : FilOk (flF f i j s) (s + 2) := put_ok (put_ok h (Nat.lt_succ_self s) i) (by omega) j
    have := flL_ok qs (s + 2) _ h1
    rw [flL, List.length_cons, show s + 2 * (qs.length + 1) = s + 2 + 2 * qs.length by omega]
    exact this
theorem mkL_bit : ∀ (qs : List (Nat × Nat)) (s m p : Nat), (mkL qs s m).testBit p = true ↔ m.testBit p = true ∨ ∃ t, t < qs.length ∧ p = s + 2 * t + 1
  | [], s, m, p => by simp [mkL]
  | q :: qs, s, m, p => by
    rw [mkL, mkL_bit qs, Nat.testBit_or, Nat.testBit_two_pow, Bool.or_eq_true, decide_eq_true_eq, List.length_cons]
    constructor
    · rintro ((h | h) | ⟨t, ht, h⟩)
      · exact .inl h
      · exact .inr ⟨0, by omega, by omega⟩
      · exact .inr ⟨t + 1, by omega, by omega⟩
    · rintro (h | ⟨t, ht, h⟩)
      · exact .inl (.inl h)
      · cases t with
        | zero => exact .inl (.inr (by omega))
        | succ t => exact .inr ⟨t, by omega, by omega⟩
end CW
namespace CW
open PySem PySem.Spec PyProof.Rows L2
def stepR (r : Ring) (tk fl : Nat → List Nat) (d : Nat) : Step := ⟨r.w d, r.up d, sortN (tk d), sortN (fl d)⟩
theorem enum_nats (os : List Nat) : enumL (os.map nD) = os.zipIdx.map fun p => .tup [nD p.2, nD p.1] := by
  rw [enumL_eq, List.zipIdx_map, List.map_map]
  rfl
section
variable {e0 e1 e2 e3 e4 e5 e6 e7 e8 e9 e10 e11 e12 e13 e14 e15 e16 e17 e18 e19 e20 e21 e22 e23 e24 e25 : Option D}
theorem one_stepR (r : Ring) {tk fl : Nat → List Nat} {size d w : Nat} (hsz : r.os.length = size) (hd : d < size) (h1 : size ≤ 1000) (hw : r.os[d]? = some w) (hw2 : w ≤ 1000) (ht : (tk d).length ≤ 1000) (hf : (fl d).length ≤ 1000) :
    b3_l_graph_3 [e0, e1, e2, e3, e4, e5, e6, e7, some (nD w), some (.lst (nestD size tk)), some (.lst (nestD size fl)), e11, e12, e13, some (nD (r.lv (2 ^ size - 1) d)), some (.lst (((List.range d).map (stepR r tk fl)).map stepD)), e16, e17, e18, e19, e20, e21, e22, some (nD d), e24, e25] = .nx [e0, e1, e2, e3, e4, e5, e6, e7, some (nD w), some (.lst (nestD size tk)), some (.lst (nestD size fl)), e11, e12, e13, some (nD (r.lv (2 ^ size - 1) (d + 1))), some (.lst (((List.range (d + 1)).map (stepR r tk fl)).map stepD)), e16, e17, e18, e19, e20, e21, e22, some (nD d), e24, e25] := by
  have hwd : r.w d = w := by
    unfold Ring.w
    rw [List.getD_eq_getElem?_getD, hw]; rfl
  have hb : (2 ^ size - 1).testBit d = true := Ring.ones_bit hd
  have hlv : r.lv (2 ^ size - 1) (d + 1) = r.lv (2 ^ size - 1) d ^^^ 2 ^ w := by
    rw [Ring.lv, hb, if_pos rfl, hwd]
  have hup : r.up d = (r.lv (2 ^ size - 1) d / 2 ^ w % 2 == 0) := by
    rw [Ring.up, hsz, hwd, ← up_eq, Nat.and_one_is_mod]
  have x1 : oIx (.lst (nestD size tk)) (nD d) = .ok (.lst ((tk d).map nD)) := by rw [ix_lst, nest_at hd]; rfl
  have x2 : oIx (.lst (nestD size fl)) (nD d) = .ok (.lst ((fl d).map nD)) := by rw [ix_lst, nest_at hd]; rfl
  have y1 := v_sort (tk d)
  have y2 := v_sort (fl d)
  have z1 : ((sortN (tk d)).map nD).length ≤ sizeLine := le_line (by rw [List.length_map, sortN_length]; omega)
  have z2 : ((sortN (fl d)).map nD).length ≤ sizeLine := le_line (by rw [List.length_map, sortN_length]; omega)
  have hl : ((List.range d).map (stepR r tk fl)).length < 1000000 := by rw [List.length_map, List.length_range]; omega
  have em : ((List.range (d + 1)).map (stepR r tk fl)).map stepD = ((List.range d).map (stepR r tk fl)).map stepD ++ [stepD (stepR r tk fl d)] := by
    rw [List.range_succ, List.map_append, List.map_append]; rfl
  have es : stepD (stepR r tk fl d) = .tup [nD w, .bl (r.up d), .tup ((sortN (tk d)).map nD), .tup ((sortN (fl d)).map nD)] := by rw [stepD, stepR, hwd]
  have hl2 : (((List.range d).map (stepR r tk fl)).map stepD).length < sizeLine := lt_line (by rw [List.length_map]; exact hl)
  rw [em, es, hlv, hup]
  generalize ((List.range d).map (stepR r tk fl)).map stepD = dn at hl2 ⊢
  generalize nestD size tk = n1 at x1 ⊢
  generalize nestD size fl = n2 at x2 ⊢
  generalize (tk d).map nD = a1 at x1 y1
  generalize (fl d).map nD = a2 at x2 y2
  generalize (sortN (tk d)).map nD = b1 at y1 z1 ⊢
  generalize (sortN (fl d)).map nD = b2 at y2 z2 ⊢
  generalize r.lv (2 ^ size - 1) d = sn
  have i1 : ∀ i, oIx (.lst n1) i = oIx (.lst n1) i := fun _ => rfl
  simp only [b3_l_graph_3]
  simp [-ix_lst, x1, x2, y1, y2, hl2, show w ≤ 1000000 by omega]
theorem loop_stepR (r : Ring) {tk fl : Nat → List Nat} {size : Nat} (hsz : r.os.length = size) (h1 : size ≤ 1000) (hw : ∀ w ∈ r.os, w ≤ 1000) (ht : ∀ d, (tk d).length ≤ 1000) (hf : ∀ d, (fl d).length ≤ 1000) : ∀ (qs : List Nat) (k : Nat), r.os.drop k = qs → k ≤ size → ∀ (s23 s8 : Option D), ∃ t23 t8,
    forL [23, 8] (gT 2) b3_l_graph_3 ((qs.zipIdx k).map fun p => .tup [nD p.2, nD p.1]) [e0, e1, e2, e3, e4, e5, e6, e7, s8, some (.lst (nestD size tk)), some (.lst (nestD size fl)), e11, e12, e13, some (nD (r.lv (2 ^ size - 1) k)), some (.lst (((List.range k).map (stepR r tk fl)).map stepD)), e16, e17, e18, e19, e20, e21, e22, s23, e24, e25] = .nx [e0, e1, e2, e3, e4, e5, e6, e7, t8, some (.lst (nestD size tk)), some (.lst (nestD size fl)), e11, e12, e13, some (nD (r.lv (2 ^ size - 1) size)), some (.lst (((List.range size).map (stepR r tk fl)).map stepD)), e16, e17, e18, e19, e20, e21, e22, t23, e24, e25]
  | [], k, hk, hks, s23, s8 => by
    have : k = size := by
      have := congrArg List.length hk
      simp at this
      omega
    subst this
    exact ⟨s23, s8, by simp only [List.zipIdx_nil, List.map_nil, forL_nil]⟩
  | q :: qs, k, hk, hks, s23, s8 => by
    have hlt : k < size := by
      have := congrArg List.length hk
      simp at this
      omega
    have hq : r.os[k]? = some q := by
      have := congrArg (fun l => l[0]?) hk
      simpa using this
    have hk2 : r.os.drop (k + 1) = qs := by
      rw [← List.tail_drop, hk]; rfl
    have e := one_stepR (e0 := e0) (e1 := e1) (e2 := e2) (e3 := e3) (e4 := e4) (e5 := e5) (e6 := e6) (e7 := e7) (e11 := e11) (e12 := e12) (e13 := e13) (e16 := e16) (e17 := e17) (e18 := e18) (e19 := e19) (e20 := e20) (e21 := e21) (e22 := e22) (e24 := e24) (e25 := e25) r hsz hlt h1 hq (hw q (List.mem_of_getElem? hq)) (ht k) (hf k)
    obtain ⟨t23, t8, e'⟩ := loop_stepR r hsz h1 hw ht hf qs (k + 1) hk2 (by omega) (some (nD k)) (some (nD q))
    refine ⟨t23, t8, ?_⟩
    have ek : gT 2 (.tup [nD k, nD q]) = some [nD k, nD q] := rfl
    rw [List.zipIdx_cons, List.map_cons, forL_nx (es := [nD k, nD q]) _ _ ek (by simp only [List.zip_cons_cons, List.zip_nil_left, setsE_cons, setsE_nil, List.set_cons_succ, List.set_cons_zero]; exact e), e']
end
end CW
namespace CW
open PySem PySem.Spec PyProof.Rows L2

noncomputable def wordOf (c k : Nat) : List Nat := (v_l_word c k).choose
theorem wordOf_eq (c k : Nat) : f_l_word [nD c, nD k] = .ok (sD (wordOf c k)) := (v_l_word c k).choose_spec.2
theorem wordOf_asc (c k : Nat) : ∀ x ∈ wordOf c k, x < 128 := by
  obtain ⟨z, h, e⟩ := v_l_word_a c k
  have e2 := wordOf_eq c k
  rw [e] at e2
  rw [← sD_inj.mp (Out.ok.inj e2)]
  exact h.2
def kindOf (a : Nat) : List Nat := if a / 4096 % 2 = 0 then toL "given" else toL "made"
theorem wires_g (ns : List Int) (first n c : Nat) (ρ : Env) (h0 : ρ[0]? = some (some (.scr ns))) (h1 : ρ[1]? = some (some (nD first))) (h17 : ρ[17]? = some (some (nD c))) (hl : ρ.length = 26) :
    compL [8] gN cYes e2_l_graph_3 ρ ((List.range n).map nD) = .ok (((List.range n).map fun w => (wordOf c w, kindOf (mixN ns (first + w)))).map wireD) := by
  rw [List.map_map]
  refine compL_map (is := [8]) (asg := gN) nD (fun w => [nD w]) (fun _ => rfl) (wireD ∘ fun w => (wordOf c w, kindOf (mixN ns (first + w)))) (List.range n) fun w _ => ?_
  have em := v_l_mix_2 ns (first + w)
  have ew := wordOf_eq c w
  have g0 : (ρ.set 8 (some (nD w)))[0]? = some (some (.scr ns)) := by rw [List.getElem?_set_ne (by decide)]; exact h0
  have g1 : (ρ.set 8 (some (nD w)))[1]? = some (some (nD first)) := by rw [List.getElem?_set_ne (by decide)]; exact h1
  have g17 : (ρ.set 8 (some (nD w)))[17]? = some (some (nD c)) := by rw [List.getElem?_set_ne (by decide)]; exact h17
  have g8 : (ρ.set 8 (some (nD w)))[8]? = some (some (nD w)) := List.getElem?_set_self (by omega)
  show e2_l_graph_3 (ρ.set 8 (some (nD w))) = .ok (wireD (wordOf c w, kindOf (mixN ns (first + w))))
  generalize ρ.set 8 (some (nD w)) = ρ' at g0 g1 g17 g8 ⊢
  have hk : ∃ kd, ([sD (toL "given"), sD (toL "made")] : List D)[mixN ns (first + w) / 4096 % 2]? = some (sD kd) ∧ kindOf (mixN ns (first + w)) = kd := by
    unfold kindOf
    rcases Nat.mod_two_eq_zero_or_one (mixN ns (first + w) / 4096) with e | e
    · rw [e]; exact ⟨_, rfl, rfl⟩
    · rw [e]; exact ⟨_, rfl, rfl⟩
  obtain ⟨kd, k1, k2⟩ := hk
  rw [k2]
  have k3 : oIx (.lst [sD (toL "given"), sD (toL "made")]) (nD (mixN ns (first + w) / 4096 % 2)) = .ok (sD kd) := by rw [ix_lst, k1]; rfl
  generalize mixN ns (first + w) = m at em k3
  generalize wordOf c w = wd at ew ⊢
  simp [-ix_lst, e2_l_graph_3, g0, g1, g17, g8, em, ew, k3, wireD]
structure RingG (g : Graph) (r : Ring) (n : Nat) : Prop where
  n1 : 1 ≤ n
  n4 : n ≤ 4
  ord : OrdOk n r.os
  ps : PsOk (2 * n) r.ps
  plen : r.ps.length ≤ 17
  s0 : r.s0 < 20
  own : ∀ w, w < n → ∃ a b, TwoAt r.os w a b ∧ (a, b) ∈ r.ps
  marks : g.marks = mkL r.ps r.s0 0
  code : g.code = r.code
  cl : r.code < 2 ^ n
  wires : g.wires.length = n
  nm : ∀ w ∈ g.wires, w.1.length ≤ 9
  asc : ∀ w ∈ g.wires, (∀ x ∈ w.1, x < 128) ∧ (w.2 = toL "given" ∨ w.2 = toL "made")
  steps : ∃ t, g.steps = ((List.range (2 * n)).map (stepR r (tkL r.ps r.s0 fun _ => []) (flL r.ps r.s0 fun _ => []))).drop t ++ ((List.range (2 * n)).map (stepR r (tkL r.ps r.s0 fun _ => []) (flL r.ps r.s0 fun _ => []))).take t
set_option maxHeartbeats 2000000 in
theorem v_l_graph_3 (ns : List Int) (first n many : Nat) (h1 : 1 ≤ n) (h4 : n ≤ 4) (hm : many ≤ 6) : ∃ g r, RingG g r n ∧ f_l_graph_3 [.scr ns, nD first, nD n, nD many] = .ok (graphD g) := by
  obtain ⟨os, ho, eo⟩ := v_l_order ns first n (by omega)
  have em := v_l_mix_2 ns (first + n)
  generalize mixN ns (first + n) = c at em
  obtain ⟨ps0, hp0, hl0, ea⟩ := v_l_arrows ns (first + n + 1) many (2 * n) (by omega) (by omega)
  have hol := ho.len
  -- the chain
  have hchain := chain_g (e0 := some (.scr ns)) (e1 := some (nD first)) (e2 := some (nD n)) (e3 := some (nD many)) (e4 := some (.lst (os.map nD))) (e5 := some (nD (2 * n))) (e6 := some (nD c)) (e8 := none) (e9 := none) (e10 := none) (e11 := none) (e12 := none) (e13 := none) (e14 := none) (e15 := none) (e16 := none) (e17 := none) (e18 := none) (e19 := none) (e20 := none) (e21 := none) (e22 := none) (e23 := none) (e25 := none) ps0 (2 * n)
  generalize hch : ((List.range (2 * n - 1)).filter fun k => decide ((k, k + 1) ∉ ps0)) = ch at hchain
  have hchl : ch.length ≤ 7 := by
    have := List.length_filter_le (fun k => decide ((k, k + 1) ∉ ps0)) (List.range (2 * n - 1))
    rw [hch, List.length_range] at this
    omega
  have hchk : ch.map (fun k => keyT (k, k + 1)) = (ch.map fun k => (k, k + 1)).map keyT := by rw [List.map_map]; rfl
  have hps1 : PsOk (2 * n) (ps0 ++ ch.map fun k => (k, k + 1)) := by
    refine ⟨?_, fun p hp => ?_⟩
    · rw [List.nodup_append]
      refine ⟨hp0.nd, ?_, fun x hx y hy e => ?_⟩
      · have : ch.Nodup := by rw [← hch]; exact List.nodup_range.filter _
        exact List.Pairwise.map _ (fun a b h e => h (by simpa using e)) this
      · subst e
        obtain ⟨k, hk, e⟩ := List.mem_map.mp hy
        rw [← hch] at hk
        have := (List.mem_filter.mp hk).2
        rw [← e] at hx
        simp at this
        exact this hx
    · rcases List.mem_append.mp hp with hp | hp
      · exact hp0.lt p hp
      · obtain ⟨k, hk, rfl⟩ := List.mem_map.mp hp
        rw [← hch] at hk
        have := List.mem_range.mp (List.mem_filter.mp hk).1
        show k < k + 1 ∧ k + 1 < 2 * n
        omega
  obtain ⟨ps1, hps1', hps1l, hps1e⟩ : ∃ ps1, PsOk (2 * n) ps1 ∧ ps1.length ≤ 13 ∧ ps1 = if c % 3 = 0 then ps0 ++ ch.map (fun k => (k, k + 1)) else ps0 := by
    refine ⟨_, ?_, ?_, rfl⟩
    · split
      · exact hps1
      · exact hp0
    · split
      · rw [List.length_append, List.length_map]; omega
      · omega
  obtain ⟨ps, t8, t19, t20, hps, hpl, _, hown, eown⟩ := loop_own (e0 := some (.scr ns)) (e1 := some (nD first)) (e2 := some (nD n)) (e3 := some (nD many)) (e5 := some (nD (2 * n))) (e6 := some (nD c)) (e9 := none) (e10 := none) (e11 := none) (e12 := none) (e13 := none) (e14 := none) (e15 := none) (e16 := none) (e17 := none) (e18 := none) (e21 := none) (e22 := none) (e23 := none) (e24 := none) (e25 := none) ho (by omega) hol.symm n 0 ps1 hps1' (by omega) (by omega) none none none
  rw [← List.range_eq_range'] at eown
  have s20 : c / 3 % 20 < 20 := Nat.mod_lt _ (by decide)
  generalize hs0 : c / 3 % 20 = s0 at s20
  obtain ⟨t21, t22, efill⟩ := loop_fill (e0 := some (.scr ns)) (e1 := some (nD first)) (e2 := some (nD n)) (e3 := some (nD many)) (e4 := some (.lst (os.map nD))) (e5 := some (nD (2 * n))) (e6 := some (nD c)) (e7 := some (.lst (ps.map keyT))) (e8 := t8) (e13 := none) (e14 := none) (e15 := none) (e16 := none) (e17 := none) (e18 := none) (e19 := t19) (e20 := t20) (e23 := none) (e24 := none) (e25 := none) (size := 2 * n) (by omega) ps s0 0 (fun _ => []) (fun _ => []) hps.lt (by omega) (fun d => by simp; omega) (fun d => by simp; omega) none none
  have hcd : c / 60 % 2 ^ n < 2 ^ n := Nat.mod_lt _ (Nat.pow_pos (by decide))
  generalize hcd0 : c / 60 % 2 ^ n = cd at hcd
  obtain ⟨r, hr⟩ : ∃ r : Ring, r = ⟨ps, os, s0, cd⟩ := ⟨_, rfl⟩
  have r1 : r.ps = ps := by rw [hr]
  have r2 : r.os = os := by rw [hr]
  have r3 : r.s0 = s0 := by rw [hr]
  have r4 : r.code = cd := by rw [hr]
  have hfk := tkL_ok ps s0 (fun _ => []) ⟨fun _ => List.nodup_nil, fun _ _ h => by simp at h⟩
  have hff := flL_ok ps s0 (fun _ => []) ⟨fun _ => List.nodup_nil, fun _ _ h => by simp at h⟩
  have hosw : ∀ w ∈ os, w ≤ 1000 := fun w hw => by
    have := ho.cnt w
    have h2 := List.count_pos_iff.mpr hw
    by_cases e : w < n
    · omega
    · rw [if_neg e] at this; omega
  obtain ⟨u23, u8, estep⟩ := loop_stepR (e0 := some (.scr ns)) (e1 := some (nD first)) (e2 := some (nD n)) (e3 := some (nD many)) (e4 := some (.lst (os.map nD))) (e5 := some (nD (2 * n))) (e6 := some (nD c)) (e7 := some (.lst (ps.map keyT))) (e11 := some (nD (mkL ps s0 0))) (e12 := some (nD (s0 + 2 * ps.length))) (e13 := some (nD cd)) (e16 := none) (e17 := none) (e18 := none) (e19 := t19) (e20 := t20) (e21 := t21) (e22 := t22) (e24 := none) (e25 := none) r (tk := tkL ps s0 fun _ => []) (fl := flL ps s0 fun _ => []) (size := 2 * n) (by rw [r2]; exact hol) (by omega) (by rw [r2]; exact hosw) (fun d => Nat.le_trans (nodup_lt (hfk.nd d) (hfk.lt d)) (by omega)) (fun d => Nat.le_trans (nodup_lt (hff.nd d) (hff.lt d)) (by omega)) os 0 (by rw [r2]; rfl) (by omega) none t8
  have hlv0 : r.lv (2 ^ (2 * n) - 1) 0 = cd := by rw [Ring.lv, r4]
  rw [hlv0, ← enum_nats] at estep
  simp only [List.range_zero, List.map_nil] at estep
  obtain ⟨st, hst⟩ : ∃ st, st = (List.range (2 * n)).map (stepR r (tkL ps s0 fun _ => []) (flL ps s0 fun _ => [])) := ⟨_, rfl⟩
  have hstl : st.length = 2 * n := by rw [hst, List.length_map, List.length_range]
  rw [← hst] at estep
  obtain ⟨t, ht⟩ : ∃ t, t = c / 2000 % (2 * n) := ⟨_, rfl⟩
  refine ⟨⟨(List.range n).map fun w => (wordOf (c / 40000) w, kindOf (mixN ns (first + w))), st.drop t ++ st.take t, mkL ps s0 0, cd⟩, r, ⟨h1, h4, by rw [r2]; exact ho, by rw [r1]; exact hps, by rw [r1]; omega, by rw [r3]; exact s20, by rw [r1, r2]; exact fun w hw => hown w (by omega) (by omega), by rw [r1, r3], by rw [r4], by rw [r4]; exact hcd, by simp, fun w hw => by
    obtain ⟨k, _, rfl⟩ := List.mem_map.mp hw
    exact (v_l_word _ _).choose_spec.1, fun w hw => by
    obtain ⟨k, _, rfl⟩ := List.mem_map.mp hw
    refine ⟨wordOf_asc _ _, ?_⟩
    show kindOf _ = _ ∨ kindOf _ = _
    unfold kindOf
    split
    · exact .inl rfl
    · exact .inr rfl, ⟨t, by rw [r1, r3, ← hst]⟩⟩, ?_⟩
  have nest0 : (os.map nD).map (fun _ => D.lst []) = nestD (2 * n) fun _ => [] := by
    unfold nestD
    rw [List.map_map, ← hol]
    refine List.ext_getElem? fun k => ?_
    rw [List.getElem?_map, List.getElem?_map]
    by_cases hk : k < os.length
    · rw [List.getElem?_eq_getElem hk, List.getElem?_range hk]; rfl
    · rw [List.getElem?_eq_none (by omega), List.getElem?_eq_none (by simp; omega)]; rfl
  have ew := wires_g ns first n (c / 40000) [some (.scr ns), some (nD first), some (nD n), some (nD many), some (.lst (os.map nD)), some (nD (2 * n)), some (nD c), some (.lst (ps.map keyT)), none, some (.lst (nestD (2 * n) (tkL ps s0 fun _ => []))), some (.lst (nestD (2 * n) (flL ps s0 fun _ => []))), some (nD (mkL ps s0 0)), some (nD (s0 + 2 * ps.length)), some (nD cd), some (nD (r.lv (2 ^ (2 * n) - 1) (2 * n))), some (.lst ((st.drop t ++ st.take t).map stepD)), some (nD t), some (nD (c / 40000)), none, t19, t20, t21, t22, u23, none, none] rfl rfl rfl rfl
  have hch2 : ((List.range (2 * n - 1)).filter fun k => decide ((k, k + 1) ∉ ps0)).map (fun k => keyT (k, k + 1)) = (ch.map fun k => (k, k + 1)).map keyT := by rw [hch]; exact hchk
  rw [← hch2] at hchk
  have hpsl : ps1.map keyT = if c % 3 = 0 then ps0.map keyT ++ ch.map (fun k => keyT (k, k + 1)) else ps0.map keyT := by
    rw [hps1e]
    split
    · rw [List.map_append, List.map_map]; rfl
    · rfl
  have rotD : (st.map stepD).drop t ++ (st.map stepD).take t = (st.drop t ++ st.take t).map stepD := by rw [List.map_append, List.map_drop, List.map_take]
  have hol2 : (os.map nD).length = 2 * n := by rw [List.length_map]; exact hol
  have hstl2 : (st.map stepD).length = 2 * n := by rw [List.length_map]; exact hstl
  have hch3 : (ch.map fun k => keyT (k, k + 1)).length ≤ 7 := by rw [List.length_map]; exact hchl
  have hpl0 : (ps0.map keyT).length ≤ 6 := by rw [List.length_map]; omega
  have ht2 : t < 2 * n := by rw [ht]; exact Nat.mod_lt _ (by omega)
  have hrg1 : ∀ e, iRg1 e = iRg1 e := fun _ => rfl
  show _ = Out.ok (D.tup [.tup (((List.range n).map fun w => (wordOf (c / 40000) w, kindOf (mixN ns (first + w)))).map wireD), .tup ((st.drop t ++ st.take t).map stepD), nD (mkL ps s0 0), nD cd])
  have zl : ∀ (f : Nat → List Nat), (nestD (2 * n) f).length = 2 * n := fun f => nest_len _ f
  generalize ((List.range n).map fun w => (wordOf (c / 40000) w, kindOf (mixN ns (first + w)))).map wireD = wl at ew ⊢
  generalize (st.drop t ++ st.take t).map stepD = rot at ew rotD ⊢
  generalize st.map stepD = sl at estep rotD hstl2
  generalize ch.map (fun k => keyT (k, k + 1)) = cl at hchain hpsl hch3
  generalize ps1.map keyT = pl1 at eown hpsl
  generalize ps0.map keyT = pl0 at hchain hpsl hpl0 ea
  generalize ps.map keyT = pl at eown efill estep ew
  generalize os.map nD = ol at eo hchain eown efill estep ew nest0 hol2
  generalize nestD (2 * n) (tkL ps s0 fun _ => []) = k1 at efill estep ew
  generalize nestD (2 * n) (flL ps s0 fun _ => []) = k2 at efill estep ew
  generalize nestD (2 * n) (fun _ => []) = k0 at efill nest0
  generalize mkL ps s0 0 = mk at efill estep ew ⊢
  generalize s0 + 2 * ps.length = s1 at efill estep ew
  generalize r.lv (2 ^ (2 * n) - 1) (2 * n) = lv at estep ew
  clear hchk hch2 hps1 hps1' hps1e hps hpl hown hr r1 r2 r3 r4 hfk hff hosw hlv0 hst hstl hp0 hl0 ho hol hch hchl hps1l
  have n62 : n < 4611686018427387904 := by omega
  have n63 : 2 * n - 1 < 4611686018427387904 := by omega
  have n1' : 1 ≤ 2 * n := by omega
  have n0' : 0 < 2 * n := by omega
  have sz : ol.length + 1 ≤ sizeLine := le_line (by omega)
  have t62 : t < 4611686018427387904 := by omega
  have tle : t ≤ 2 * n := by omega
  have pw : 0 < 2 ^ n := Nat.pow_pos (by decide)
  have hadd : pl0.length + cl.length ≤ sizeLine := le_line (by omega)
  have hrotl : sl.length ≤ sizeLine := le_line (by omega)
  have hz2 : 2 * n ≤ sizeLine + 1 := Nat.le_succ_of_le (le_line (by omega))
  have hz3 : n ≤ sizeLine := le_line (by omega)
  have hz4 : 2 * n ≤ 1000000 := by omega
  have hsh : oShl (nD 1) (nD n) = .ok (nD (2 ^ n)) := by rw [shl_nn (by omega) (by decide), Nat.one_mul]
  by_cases hc3 : c % 3 = 0
  · rw [if_pos hc3] at hpsl
    have hc3' : (c % 3 == 0) = true := by simpa using hc3
    simp [f_l_graph_3, d_l_graph_3, eo, em, ea, hc3', n62, n63, n1', n0', hz2, hchain, hadd, ← hpsl, eown, hz3, nest0, hs0, efill, hcd0, pw, estep, ← ht, t62, sz, rotD, ew, hol2, hstl2, tle, hrotl, hz4, hsh]
  · rw [if_neg hc3] at hpsl
    have hc3' : (c % 3 == 0) = false := by simpa using hc3
    rw [← hpsl] at ea
    simp [f_l_graph_3, d_l_graph_3, eo, em, ea, hc3', n62, n0', hz2, eown, hz3, nest0, hs0, efill, hcd0, pw, estep, ← ht, t62, sz, rotD, ew, hol2, hstl2, tle, hrotl, hz4, hsh]
end CW
namespace CW
open PySem PySem.Spec PyProof.Rows L2

section
variable {g : Graph} {r : Ring} {n : Nat}
theorem RingG.mem (h : RingG g r n) {s : Step} (hs : s ∈ g.steps) : ∃ d, d < 2 * n ∧ s = stepR r (tkL r.ps r.s0 fun _ => []) (flL r.ps r.s0 fun _ => []) d := by
  obtain ⟨t, ht⟩ := h.steps
  rw [ht] at hs
  have : s ∈ (List.range (2 * n)).map (stepR r (tkL r.ps r.s0 fun _ => []) (flL r.ps r.s0 fun _ => [])) := by
    rcases List.mem_append.mp hs with h | h
    · exact List.mem_of_mem_drop h
    · exact List.mem_of_mem_take h
  obtain ⟨d, hd, e⟩ := List.mem_map.mp this
  exact ⟨d, List.mem_range.mp hd, e.symm⟩
theorem RingG.len (h : RingG g r n) : g.steps.length = 2 * n := by
  obtain ⟨t, ht⟩ := h.steps
  rw [ht, List.length_append, List.length_drop, List.length_take, List.length_map, List.length_range]
  omega
theorem RingG.os_lt (h : RingG g r n) {d v : Nat} (hv : r.os[d]? = some v) : v < n := by
  have := h.ord.cnt v
  have h2 := List.count_pos_iff.mpr (List.mem_of_getElem? hv)
  by_cases e : v < n
  · exact e
  · rw [if_neg e] at this; omega
theorem ring_w {d v : Nat} (hv : r.os[d]? = some v) : r.w d = v := by
  unfold Ring.w
  rw [List.getD_eq_getElem?_getD, hv]; rfl
theorem RingG.at (h : RingG g r n) {d : Nat} (hd : d < 2 * n) : r.os[d]? = some (r.w d) := by
  have hl := h.ord.len
  have e : r.os[d]? = some (r.os[d]'(by omega)) := List.getElem?_eq_getElem _
  rw [ring_w e]
  exact e
theorem RingG.two (h : RingG g r n) {d : Nat} (hd : d < r.os.length) : ∃ a b, r.Two a b ∧ (d = a ∨ d = b) := by
  have hl := h.ord.len
  have hv := h.at (show d < 2 * n by omega)
  obtain ⟨a, b, t, hm⟩ := h.own _ (h.os_lt hv)
  refine ⟨a, b, ⟨t.lt, t.bl, ?_, fun e he hw => ?_, hm⟩, t.only d hv⟩
  · rw [ring_w t.wa, ring_w t.wb]
  · rw [ring_w t.wa] at hw
    have := h.at (show e < 2 * n by omega)
    rw [hw] at this
    exact t.only e this
theorem RingG.ne (h : RingG g r n) : ∀ i j, (i, j) ∈ r.ps → i ≠ j := fun i j hp => by
  have := (h.ps.lt _ hp).1
  simp at this
  omega
theorem RingG.isSt (h : RingG g r n) {d : Nat} (hd : d < 2 * n) : r.IsSt d (stepR r (tkL r.ps r.s0 fun _ => []) (flL r.ps r.s0 fun _ => []) d) := by
  have hl := h.ord.len
  refine ⟨by omega, rfl, rfl, fun p => ?_, fun p => ?_⟩
  · show p ∈ sortN _ ↔ _
    rw [sortN_mem, tkL_mem]
    simp only [List.not_mem_nil, false_or]
  · show p ∈ sortN _ ↔ _
    rw [sortN_mem, flL_mem]
    simp only [List.not_mem_nil, false_or]
theorem RingG.marks0 (h : RingG g r n) : g.marks = r.mrk 0 := by
  rw [h.marks]
  refine Nat.eq_of_testBit_eq fun p => ?_
  rw [Bool.eq_iff_iff, mkL_bit, r.mrk_bit]
  simp only [Nat.zero_testBit, Bool.false_eq_true, false_or, beq_self_eq_true, if_true]
  constructor
  · rintro ⟨t, h1, h2⟩
    exact ⟨t, r.ps[t].1, r.ps[t].2, by rw [List.getElem?_eq_getElem h1], h2⟩
  · rintro ⟨t, i, j, h1, h2⟩
    exact ⟨t, (List.getElem?_eq_some_iff.mp h1).1, h2⟩
theorem RingG.space (h : RingG g r n) : Space g ((List.range (2 ^ r.os.length)).map fun x => (r.mrk x, r.lv x r.os.length)) :=
  r.space h.ne (fun d hd => h.two hd) (fun s hs => by
    obtain ⟨d, hd, rfl⟩ := h.mem hs
    exact ⟨d, h.isSt hd⟩) h.marks0 h.code
theorem RingG.spot (h : RingG g r n) {s : Step} (hs : s ∈ g.steps) : (∀ p ∈ s.takes, p < 60) ∧ ∀ p ∈ s.fills, p < 60 := by
  obtain ⟨d, hd, rfl⟩ := h.mem hs
  have hi := h.isSt hd
  have := h.plen
  have := h.s0
  constructor
  · intro p hp
    obtain ⟨t, i, j, ht, e⟩ := (hi.takes p).mp hp
    have := (List.getElem?_eq_some_iff.mp ht).1
    omega
  · intro p hp
    obtain ⟨t, i, j, ht, e⟩ := (hi.fills p).mp hp
    have := (List.getElem?_eq_some_iff.mp ht).1
    omega
theorem RingG.net (h : RingG g r n) : NetOk g ∧ LowG g ∧ 1 ≤ g.steps.length ∧ (∀ s ∈ g.steps, s.wire < g.wires.length) ∧ g.wires.length ≤ 10 ∧ g.steps.length ≤ 24 ∧ ∀ s ∈ g.steps, s.takes ≠ [] := by
  have hl := h.len
  have h1 := h.n1
  have h4 := h.n4
  have hwire : ∀ s ∈ g.steps, s.wire < n := fun s hs => by
    obtain ⟨d, hd, rfl⟩ := h.mem hs
    exact h.os_lt (h.at hd)
  have hsp := fun s (hs : s ∈ g.steps) => h.spot hs
  have hnd : ∀ s ∈ g.steps, s.takes.Nodup ∧ s.fills.Nodup := fun s hs => by
    obtain ⟨d, hd, rfl⟩ := h.mem hs
    have hfk := tkL_ok r.ps r.s0 (fun _ => []) ⟨fun _ => List.nodup_nil, fun _ _ h => by simp at h⟩
    have hff := flL_ok r.ps r.s0 (fun _ => []) ⟨fun _ => List.nodup_nil, fun _ _ h => by simp at h⟩
    exact ⟨(sortN_perm _).nodup_iff.mpr (hfk.nd d), (sortN_perm _).nodup_iff.mpr (hff.nd d)⟩
  refine ⟨⟨⟨by omega, fun s hs => ?_⟩, _, h.space, ?_⟩, ⟨?_, fun s hs => ?_⟩, by omega, fun s hs => by rw [h.wires]; exact hwire s hs, by rw [h.wires]; omega, by omega, fun s hs => ?_⟩
  · obtain ⟨a, b⟩ := hsp s hs
    obtain ⟨c, d⟩ := hnd s hs
    have := hwire s hs
    have := nodup_lt c a
    have := nodup_lt d b
    exact ⟨⟨fun p hp => by have := a p hp; omega, fun p hp => by have := b p hp; omega⟩, by omega, c, d, by omega, by omega⟩
  · rw [List.length_map, List.length_range, h.ord.len]
    have : 2 ^ (2 * n) ≤ 2 ^ 8 := Nat.pow_le_pow_right (by decide) (by omega)
    omega
  · rw [h.marks]
    refine Nat.lt_pow_two_of_testBit _ fun p hp => ?_
    cases e : (mkL r.ps r.s0 0).testBit p with
    | false => rfl
    | true =>
      rcases (mkL_bit r.ps r.s0 0 p).mp e with z | ⟨t, z1, z2⟩
      · simp at z
      · have := h.plen
        have := h.s0
        omega
  · obtain ⟨a, b⟩ := hsp s hs
    exact ⟨fun p hp => by have := a p hp; omega, fun p hp => by have := b p hp; omega⟩
  · obtain ⟨d, hd, rfl⟩ := h.mem hs
    have hi := h.isSt hd
    obtain ⟨a, b, t, e⟩ := h.two (d := d) (by have := h.ord.len; omega)
    obtain ⟨i, hi2⟩ := List.getElem?_of_mem t.arr
    intro z
    rcases e with rfl | rfl
    · have : r.s0 + 2 * i + 1 ∈ (stepR r (tkL r.ps r.s0 fun _ => []) (flL r.ps r.s0 fun _ => []) d).takes := (hi.takes _).mpr ⟨i, d, b, hi2, by simp⟩
      rw [z] at this
      simp at this
    · have : r.s0 + 2 * i ∈ (stepR r (tkL r.ps r.s0 fun _ => []) (flL r.ps r.s0 fun _ => []) d).takes := (hi.takes _).mpr ⟨i, a, d, hi2, by simp⟩
      rw [z] at this
      simp at this
end
end CW
namespace CW
open PySem PySem.Spec PyProof.Rows L2
def Row.till (r : Row) (n k : Nat) : Prop := ∀ a b, r.pre = some (a, b) → a < n ∨ a = n ∧ b ≤ k
section
variable {g : Graph} {most : Nat}
def Done (g : Graph) (rows : List Row) (i : Nat) : Prop := ∀ p, rows[i]? = some p → ∀ k s, g.steps[k]? = some s → canN s p.m = true → brokeN s p.c = false ∧ crowdN s p.m = false ∧ ∃ q ∈ rows, q.key = nextB s p.key ∧ q.till i k
theorem Done.more {rows t : List Row} {i : Nat} (h : Done g rows i) (hi : i < rows.length) : Done g (rows ++ t) i := fun p hp k s hs hc => by
  rw [List.getElem?_append_left hi] at hp
  obtain ⟨a, b, q, hq, r⟩ := h p hp k s hs hc
  exact ⟨a, b, q, List.mem_append_left _ hq, r⟩
end
end CW
namespace CW
open PySem PySem.Spec PyProof.Rows L2
def rowsD (rs : List Row) : D := .lst (rs.map rowT)
def stepsD (ss : List Step) : D := .tup (ss.map stepD)
def wiresD (ws : List (List Nat × List Nat)) : D := .tup (ws.map wireD)
section
variable (rs : List Row) (ss : List Step) (ws : List (List Nat × List Nat)) (ks js : List Nat) (i : Nat) (k : List D → Fl)
@[simp] theorem rowsD_fold : D.lst (rs.map rowT) = rowsD rs := (rfl)
@[simp] theorem stepsD_fold : D.tup (ss.map stepD) = stepsD ss := (rfl)
@[simp] theorem wiresD_fold : D.tup (ws.map wireD) = wiresD ws := (rfl)
@[simp] theorem natsD_fold : D.lst (ks.map nD) = natsD ks := (rfl)
@[simp] theorem ix_rowsD : oIx (rowsD rs) (nD i) = ixO (rs[i]?.map rowT) := by rw [rowsD, ix_lst, List.getElem?_map]
@[simp] theorem ix_stepsD : oIx (stepsD ss) (nD i) = ixO (ss[i]?.map stepD) := by rw [stepsD, ix_tup, List.getElem?_map]
@[simp] theorem ix_wiresD : oIx (wiresD ws) (nD i) = ixO (ws[i]?.map wireD) := by rw [wiresD, ix_tup, List.getElem?_map]
@[simp] theorem ix_natsD : oIx (natsD ks) (nD i) = ixO (ks[i]?.map nD) := by rw [natsD, ix_lst, List.getElem?_map]
@[simp] theorem len_rowsD : bLen [rowsD rs] = .ok (nD rs.length) := by rw [rowsD, bLen_lstn, List.length_map]
@[simp] theorem len_stepsD : bLen [stepsD ss] = .ok (nD ss.length) := by rw [stepsD, bLen_tupn, List.length_map]
@[simp] theorem len_wiresD : bLen [wiresD ws] = .ok (nD ws.length) := by rw [wiresD, bLen_tupn, List.length_map]
@[simp] theorem len_natsD : bLen [natsD ks] = .ok (nD ks.length) := by rw [natsD, bLen_lstn, List.length_map]
@[simp] theorem seq_rowsD : iSeq (rowsD rs) = .ok (rs.map rowT) := (rfl)
@[simp] theorem seq_stepsD : iSeq (stepsD ss) = .ok (ss.map stepD) := (rfl)
@[simp] theorem seq_wiresD : iSeq (wiresD ws) = .ok (ws.map wireD) := (rfl)
@[simp] theorem seq_natsD : iSeq (natsD ks) = .ok (ks.map nD) := (rfl)
def rowsE (rs : List Row) : List D := rs.zipIdx.map fun p => .tup [nD p.2, rowT p.1]
def stepsE (ss : List Step) : List D := ss.zipIdx.map fun p => .tup [nD p.2, stepD p.1]
def wiresE (ws : List (List Nat × List Nat)) : List D := ws.zipIdx.map fun p => .tup [nD p.2, wireD p.1]
@[simp] theorem enum_rowsD : enumD [rowsD rs] = .ok (rowsE rs) := by
  rw [rowsD, enumD_lst, enumL_eq, List.zipIdx_map, List.map_map]
  rfl
@[simp] theorem enum_stepsD : enumD [stepsD ss] = .ok (stepsE ss) := by
  rw [stepsD, enumD_tup, enum_steps]
  rfl
@[simp] theorem enum_wiresD : enumD [wiresD ws] = .ok (wiresE ws) := by
  rw [wiresD, enumD_tup, enumL_eq, List.zipIdx_map, List.map_map]
  rfl
@[simp] theorem lenE_rows : (rowsE rs).length = rs.length := by simp [rowsE]
@[simp] theorem lenE_steps : (stepsE ss).length = ss.length := by simp [stepsE]
@[simp] theorem lenE_wires : (wiresE ws).length = ws.length := by simp [wiresE]
@[simp] theorem withL_rowsD : withL (some (some (rowsD rs))) k = k (rs.map rowT) := (rfl)
@[simp] theorem withL_natsD : withL (some (some (natsD ks))) k = k (ks.map nD) := (rfl)
@[simp] theorem runLO_rowsD : runLO (.ret (rowsD rs)) = .ok (rs.map rowT) := (rfl)
@[simp] theorem runLO_natsD : runLO (.ret (natsD ks)) = .ok (ks.map nD) := (rfl)
@[simp] theorem runXL_rowsD : runXL (.ret (rowsD rs)) = .ok (rs.map rowT) := (rfl)
@[simp] theorem runXL_natsD : runXL (.ret (natsD ks)) = .ok (ks.map nD) := (rfl)
@[simp] theorem in_natsD (neg : Bool) (x : Nat) : oIn neg (nD x) (natsD ks) = .ok (.bl (neg != decide (x ∈ ks))) := in_nn neg x ks
theorem okD_natsD (n : Nat) : okD (n + 1) (natsD ks) = true := by
  rw [natsD, okD_lst, okDs_map, List.all_eq_true]
  exact fun _ _ => okD_nD _
theorem eqD_nats : eqDs (ks.map nD) (js.map nD) = decide (ks = js) := by
  induction ks generalizing js with
  | nil => cases js <;> simp
  | cons k ks ih =>
    cases js with
    | nil => simp
    | cons j js =>
      simp only [List.map_cons, eqDs_cons, eqD_nn, ih, List.cons.injEq, Bool.decide_and]
      rw [Bool.eq_iff_iff]
      simp
theorem eqD_natsD : eqD (natsD ks) (natsD js) = decide (ks = js) := by rw [natsD, natsD, eqD_lst, eqD_nats]
@[simp] theorem eq_natsD : oEq (natsD ks) (natsD js) = .ok (.bl (decide (ks = js))) := by
  rw [oEq_ok (okD_natsD ks 59) (okD_natsD js 59), eqD_natsD]
@[simp] theorem ne_natsD : oNe (natsD ks) (natsD js) = .ok (.bl (!decide (ks = js))) := by
  rw [oNe_ok (okD_natsD ks 59) (okD_natsD js 59), eqD_natsD]
@[simp] theorem isD_natsD (t : Ty) : isD t (natsD ks) = .ok (.bl (t == .list)) := isD_lst _ _
@[simp] theorem isNon_natsD : isNon (natsD ks) = false := (rfl)
@[simp] theorem isNon_rowsD : isNon (rowsD rs) = false := (rfl)
@[simp] theorem isNon_keyT (x : Nat × Nat) : isNon (keyT x) = false := (rfl)
@[simp] theorem sl_rowT' (r : Row) : oSl none (some (nI 2)) (rowT r) = .ok (keyT r.key) := sl_rowT r
@[simp] theorem ix_keyT0 (x : Nat × Nat) : oIx (keyT x) (nD 0) = .ok (nD x.1) := by simp [keyT]
@[simp] theorem ix_keyT1 (x : Nat × Nat) : oIx (keyT x) (nD 1) = .ok (nD x.2) := by simp [keyT]
@[simp] theorem gT_keyT (x : Nat × Nat) : gT 2 (keyT x) = some [nD x.1, nD x.2] := (rfl)
@[simp] theorem keyT_fold (a b : Nat) : D.tup [nD a, nD b] = keyT (a, b) := (rfl)
@[simp] theorem ix_rowT0 (r : Row) : oIx (rowT r) (nD 0) = .ok (nD r.m) := by simp [rowT]
@[simp] theorem ix_rowT1 (r : Row) : oIx (rowT r) (nD 1) = .ok (nD r.c) := by simp [rowT]
end
def offN (g : Graph) (m a b : Nat) : Bool := match g.steps[a]?, g.steps[b]? with
  | some sa, some sb => !canT sa (newM sb m)
  | _, _ => false
def cansN (g : Graph) (m : Nat) : List Nat := (List.range g.steps.length).filter fun k => match g.steps[k]? with
  | some s => canN s m
  | none => false
theorem cansN_mem {g : Graph} {m k : Nat} : k ∈ cansN g m ↔ ∃ s, g.steps[k]? = some s ∧ canN s m = true := by
  unfold cansN
  rw [List.mem_filter, List.mem_range]
  constructor
  · rintro ⟨h1, h2⟩
    rw [List.getElem?_eq_getElem h1] at h2 ⊢
    exact ⟨_, rfl, h2⟩
  · rintro ⟨s, h1, h2⟩
    exact ⟨(List.getElem?_eq_some_iff.mp h1).1, by rw [h1]; exact h2⟩
def offPair (own : Nat → Bool) (g : Graph) (m b a : Nat) : Bool := (a != b) && ((own a || own b) && offN g m a b)
def firstOff (own : Nat → Bool) (g : Graph) (m : Nat) : Option (Nat × Nat) := (cansN g m).findSome? fun b => ((cansN g m).find? (offPair own g m b)).map fun a => (b, a)
def Calm (g : Graph) (x : Nat × Nat) : Prop := ∀ (k : Nat) (s : Step), g.steps[k]? = some s → canN s x.1 = true → brokeN s x.2 = false ∧ crowdN s x.1 = false
end CW
namespace CW
open PySem PySem.Spec PyProof.Rows L2
def madeN (g : Graph) : List Nat := whichN (fun w => w.2 == toL "made") g.wires
def ownN (g : Graph) : List Nat := (g.steps.zipIdx.filter fun p => decide (p.1.wire ∈ madeN g)).map (·.2)
def ownB (g : Graph) (k : Nat) : Bool := decide (k ∈ ownN g)
theorem ownB_iff {g : Graph} {k : Nat} : ownB g k = true ↔ ∃ s, g.steps[k]? = some s ∧ s.wire ∈ madeN g := by
  unfold ownB ownN
  rw [decide_eq_true_eq, List.mem_map]
  constructor
  · rintro ⟨⟨s, k'⟩, hm, rfl⟩
    obtain ⟨h1, h2⟩ := List.mem_filter.mp hm
    exact ⟨s, by simpa using List.mem_zipIdx_iff_getElem?.mp h1, by simpa using h2⟩
  · rintro ⟨s, h1, h2⟩
    exact ⟨(s, k), List.mem_filter.mpr ⟨List.mem_zipIdx_iff_getElem?.mpr (by simpa using h1), by simpa using h2⟩, rfl⟩
def offAt (g : Graph) (rows : List Row) : Option Rf := rows.zipIdx.findSome? fun p => (firstOff (ownB g) g p.1.m).map fun q => Rf.off (wayB rows p.2) q.2 q.1
def soundX (g : Graph) (most : Nat) : Except Rf (List Row) := match standsX g most with
  | .ok rows => (match offAt g rows with
    | some r => .error r
    | none => .ok rows)
  | .error r => .error r
def Rf.St : Rf → Prop
  | .broken _ => True | .crowded _ => True | .many => True | _ => False
def GraphW (g : Graph) : Prop := GraphSt g ∧ g.wires.length ≤ 1000000
end CW
namespace CW
open PySem PySem.Spec PyProof.Rows L2

def natsT (ks : List Nat) : D := .tup (ks.map nD)
section
variable (ks js : List Nat) (i : Nat) (s : Step)
@[simp] theorem natsT_fold : D.tup (ks.map nD) = natsT ks := (rfl)
@[simp] theorem natsT_one (a : Nat) : D.tup [nD a] = natsT [a] := (rfl)
@[simp] theorem ix_natsT : oIx (natsT ks) (nD i) = ixO (ks[i]?.map nD) := by rw [natsT, ix_tup, List.getElem?_map]
@[simp] theorem len_natsT : bLen [natsT ks] = .ok (nD ks.length) := by rw [natsT, bLen_tupn, List.length_map]
@[simp] theorem seq_natsT : iSeq (natsT ks) = .ok (ks.map nD) := (rfl)
@[simp] theorem in_natsT (neg : Bool) (x : Nat) : oIn neg (nD x) (natsT ks) = .ok (.bl (neg != decide (x ∈ ks))) := by
  rw [natsT, oIn_tup neg flatD_nD (allflat_n ks), inD_nn]
theorem add_natsT (h : ks.length + js.length ≤ 1000000) : oAdd (natsT ks) (natsT js) = .ok (natsT (ks ++ js)) := by
  rw [natsT, natsT, oAdd_tup, List.length_map, List.length_map, if_pos (le_line h), ← List.map_append]
  rfl
@[simp] theorem sortT_natsT : bSortT [natsT ks] = .ok ((sortN ks).map nD) := v_sortT ks
@[simp] theorem sl_natsT (lo hi : Option Int) : oSl lo hi (natsT ks) = .ok (natsT (cutL ks lo hi)) := by
  rw [natsT, oSl_tup, cutL_map]
  rfl
@[simp] theorem tuple_natsD : bTuple [natsD ks] = .ok (natsT ks) := (rfl)
@[simp] theorem gT_stepD : gT 4 (stepD s) = some [nD s.wire, .bl s.up, natsT s.takes, natsT s.fills] := (rfl)
@[simp] theorem stepD_fold (w : Nat) (u : Bool) (a b : List Nat) : D.tup [nD w, .bl u, natsT a, natsT b] = stepD ⟨w, u, a, b⟩ := (rfl)
@[simp] theorem ix_step2' : oIx (stepD s) (nD 2) = .ok (natsT s.takes) := by rw [stepD, ix_tup]; rfl
@[simp] theorem ix_step3' : oIx (stepD s) (nD 3) = .ok (natsT s.fills) := by rw [stepD, ix_tup]; rfl
@[simp] theorem graphD_fold (a b : Nat) (ws : List (List Nat × List Nat)) (ss : List Step) : D.tup [wiresD ws, stepsD ss, nD a, nD b] = graphD ⟨ws, ss, a, b⟩ := (rfl)
@[simp] theorem gT_graph' (g : Graph) : gT 4 (graphD g) = some [wiresD g.wires, stepsD g.steps, nD g.marks, nD g.code] := (rfl)
@[simp] theorem sl_stepsD (ss : List Step) (lo hi : Option Int) : oSl lo hi (stepsD ss) = .ok (stepsD (cutL ss lo hi)) := by
  rw [stepsD, oSl_tup, cutL_map]
  rfl
@[simp] theorem stepsD_one : D.tup [stepD s] = stepsD [s] := (rfl)
@[simp] theorem withL_stepsL (ss : List Step) (k : List D → Fl) : withL (some (some (.lst (ss.map stepD)))) k = k (ss.map stepD) := (rfl)
end
structure GG (g : Graph) : Prop where
  st : GraphSt g
  w : g.wires.length ≤ 1000
  s1 : 1 ≤ g.steps.length
  s24 : g.steps.length ≤ 24
  wl : ∀ s ∈ g.steps, s.wire < g.wires.length
  tk : ∀ s ∈ g.steps, s.takes ≠ []
theorem GG.gw {g : Graph} (h : GG g) : GraphW g := ⟨h.st, by have := h.w; omega⟩
theorem kind_at (b : Nat) (hb : b < 2) : ∃ k : List Nat, (k = toL "given" ∨ k = toL "made") ∧ [sD (toL "given"), sD (toL "made")][b]? = some (sD k) := by
  have : b = 0 ∨ b = 1 := by omega
  rcases this with rfl | rfl
  · exact ⟨_, .inl rfl, rfl⟩
  · exact ⟨_, .inr rfl, rfl⟩
end CW
namespace CW
open PySem PySem.Spec PyProof.Rows L2

@[simp] theorem sortI_natsD (ks : List Nat) : bSortI [natsD ks] = .ok ((sortN ks).map nD) := v_sort ks
end CW
namespace CW
open PySem PySem.Spec PyProof.Rows L2

def Sp64 (g : Graph) : Prop := ∀ s ∈ g.steps, (∀ p ∈ s.takes, p < 64) ∧ ∀ p ∈ s.fills, p < 64
theorem LowG.sp {g : Graph} (h : LowG g) : Sp64 g := fun s hs => ⟨fun p hp => by have := (h.2 s hs).1 p hp; omega, fun p hp => by have := (h.2 s hs).2 p hp; omega⟩
end CW
namespace CW
open PySem PySem.Spec PyProof.Rows L2

mutual
theorem eqD_self : ∀ (d : D) (n : Nat), okD n d = true → eqD d d = true
  | .non, _, _ => by simp [eqD]
  | .bl _, _, _ => by simp [eqD]
  | .int _, _, _ => by simp [eqD]
  | .str _, _, _ => by simp [eqD]
  | .tup ds, 0, h => by simp [okD] at h
  | .tup ds, n + 1, h => by
    simp only [okD] at h
    simp only [eqD]
    exact eqDs_self ds n h
  | .lst ds, 0, h => by simp [okD] at h
  | .lst ds, n + 1, h => by
    simp only [okD] at h
    simp only [eqD]
    exact eqDs_self ds n h
  | .dic _ _ _ _, n, h => by cases n <;> simp [okD] at h
  | .exn _ _, n, h => by cases n <;> simp [okD] at h
  | .scr _, n, h => by cases n <;> simp [okD] at h
  | .cst _, n, h => by cases n <;> simp [okD] at h
  | .obj _, n, h => by cases n <;> simp [okD] at h
theorem eqDs_self : ∀ (ds : List D) (n : Nat), okDs n ds = true → eqDs ds ds = true
  | [], _, _ => by simp [eqDs]
  | d :: ds, n, h => by
    simp only [okDs, Bool.and_eq_true] at h
    simp only [eqDs, Bool.and_eq_true]
    exact ⟨eqD_self d n h.1, eqDs_self ds n h.2⟩
end
theorem oEq_self {d : D} (h : okD 60 d = true) : oEq d d = .ok (.bl true) := by rw [oEq_ok h h, eqD_self d 60 h]
theorem oNe_self {d : D} (h : okD 60 d = true) : oNe d d = .ok (.bl false) := by rw [oNe_ok h h, eqD_self d 60 h]; rfl
@[simp] theorem okD_rowT (n : Nat) (r : Row) : okD (n + 1) (rowT r) = true := by
  obtain ⟨m, c, pre⟩ := r
  cases pre with
  | none => simp [rowT, preD]
  | some ak => simp [rowT, preD]
@[simp] theorem okD_rowsD (n : Nat) (rs : List Row) : okD (n + 2) (rowsD rs) = true := by
  rw [rowsD, okD_lst, okDs_map, List.all_eq_true]
  exact fun r _ => okD_rowT n r
@[simp] theorem okD_natsD' (n : Nat) (ks : List Nat) : okD (n + 1) (natsD ks) = true := okD_natsD ks n
@[simp] theorem okD_keyT (n : Nat) (x : Nat × Nat) : okD (n + 1) (keyT x) = true := by simp only [keyT, okD_tup, okDs_cons, okD_nD, okDs_nil, Bool.and_true]
section
variable {cs : List Str} (a b c : D)
theorem xf_of {n f : Str} {fs : List D} {d : D} (h : n ∈ cs) (e : ((fieldsOf n).zip fs).reverse.lookup f = some d) : xfD cs f (.exn n fs) = .ok d := by
  show (if n ∈ cs then (match ((fieldsOf n).zip fs).reverse.lookup f with
    | some d => Out.ok d
    | none => .stuck) else .stuck) = _
  rw [if_pos h, e]
theorem lk_ne {k f : Str} {d : D} {l : List (Str × D)} (h : (f == k) = false) : ((k, d) :: l).lookup f = l.lookup f := by rw [List.lookup_cons, h]
theorem lk_eq {f : Str} {d : D} {l : List (Str × D)} : ((f, d) :: l).lookup f = some d := by rw [List.lookup_cons]; simp
@[simp] theorem xf_broken (h : ("Broken" : Str) ∈ cs) : xfD cs "way" (.exn "Broken" [a]) = .ok a := xf_of h (by rw [fo_Broken]; exact lk_eq)
@[simp] theorem xf_crowded (h : ("Crowded" : Str) ∈ cs) : xfD cs "way" (.exn "Crowded" [a]) = .ok a := xf_of h (by rw [fo_Crowded]; exact lk_eq)
@[simp] theorem xf_off0 (h : ("CalledOff" : Str) ∈ cs) : xfD cs "way" (.exn "CalledOff" [a, b, c]) = .ok a := xf_of h (by rw [fo_CalledOff]; exact (lk_ne (by decide +kernel)).trans ((lk_ne (by decide +kernel)).trans lk_eq))
@[simp] theorem xf_off1 (h : ("CalledOff" : Str) ∈ cs) : xfD cs "lost" (.exn "CalledOff" [a, b, c]) = .ok b := xf_of h (by rw [fo_CalledOff]; exact (lk_ne (by decide +kernel)).trans lk_eq)
@[simp] theorem xf_off2 (h : ("CalledOff" : Str) ∈ cs) : xfD cs "by" (.exn "CalledOff" [a, b, c]) = .ok c := xf_of h (by rw [fo_CalledOff]; exact lk_eq)
@[simp] theorem xf_clash0 (h : ("Clash" : Str) ∈ cs) : xfD cs "one" (.exn "Clash" [a, b, c]) = .ok a := xf_of h (by rw [fo_Clash]; exact (lk_ne (by decide +kernel)).trans ((lk_ne (by decide +kernel)).trans lk_eq))
@[simp] theorem xf_clash1 (h : ("Clash" : Str) ∈ cs) : xfD cs "other" (.exn "Clash" [a, b, c]) = .ok b := xf_of h (by rw [fo_Clash]; exact (lk_ne (by decide +kernel)).trans lk_eq)
@[simp] theorem xf_clash2 (h : ("Clash" : Str) ∈ cs) : xfD cs "wire" (.exn "Clash" [a, b, c]) = .ok c := xf_of h (by rw [fo_Clash]; exact lk_eq)
@[simp] theorem xf_notext (h : ("NoText" : Str) ∈ cs) : xfD cs "line" (.exn "NoText" [a]) = .ok a := xf_of h (by rw [fo_NoText]; exact lk_eq)
end
end CW
namespace CW
open PySem PySem.Spec PyProof.Rows L2
inductive Reach (g : Graph) : Nat × Nat → Prop
  | beg : Reach g (g.marks, g.code)
  | go {x : Nat × Nat} {k : Nat} {s : Step} : Reach g x → g.steps[k]? = some s → canN s x.1 = true → Reach g (nextB s x)
def Live (g : Graph) : Prop := ∀ x, Reach g x → cansN g x.1 ≠ []
def NoOff (g : Graph) : Prop := ∀ x, Reach g x → ∀ a ∈ cansN g x.1, ∀ b ∈ cansN g x.1, a ≠ b → offN g x.1 a b = false
theorem Reach.space {g : Graph} {S : List (Nat × Nat)} (sp : Space g S) {x : Nat × Nat} (h : Reach g x) : x ∈ S := by
  induction h with
  | beg => exact sp.beg
  | go _ hk hc ih => exact (sp.go _ ih _ _ hk hc).2.2
theorem Ring.can_iff {r : Ring} {d x : Nat} {s : Step} (h : r.IsSt d s) : canN s (r.mrk x) = true ↔ ∀ (t i j : Nat), r.ps[t]? = some (i, j) → (j = d → x.testBit i ≠ x.testBit j) ∧ (i = d → x.testBit i = x.testBit j) := by
  rw [can_eq, canT, List.all_eq_true]
  constructor
  · intro hc t i j ht
    constructor
    · rintro rfl e
      have := hc (r.s0 + 2 * t) ((h.takes _).mpr ⟨t, i, j, ht, .inl ⟨rfl, rfl⟩⟩)
      obtain ⟨t', i', j', ht', e'⟩ := (r.mrk_bit x _).mp this
      have : t' = t ∧ ¬ (x.testBit i' == x.testBit j') = true := by
        by_cases hb : (x.testBit i' == x.testBit j') = true
        · rw [if_pos hb] at e'; omega
        · rw [if_neg hb] at e'; exact ⟨by omega, hb⟩
      obtain ⟨rfl, hb⟩ := this
      rw [ht] at ht'
      cases ht'
      exact hb (by rw [e]; simp)
    · rintro rfl
      have := hc (r.s0 + 2 * t + 1) ((h.takes _).mpr ⟨t, i, j, ht, .inr ⟨rfl, rfl⟩⟩)
      obtain ⟨t', i', j', ht', e'⟩ := (r.mrk_bit x _).mp this
      have : t' = t ∧ (x.testBit i' == x.testBit j') = true := by
        by_cases hb : (x.testBit i' == x.testBit j') = true
        · rw [if_pos hb] at e'; exact ⟨by omega, hb⟩
        · rw [if_neg hb] at e'; omega
      obtain ⟨rfl, hb⟩ := this
      rw [ht] at ht'
      cases ht'
      simpa using hb
  · intro hc p hp
    obtain ⟨t, i, j, ht, he⟩ := (h.takes p).mp hp
    obtain ⟨q1, q2⟩ := hc t i j ht
    rw [r.mrk_bit]
    rcases he with ⟨rfl, rfl⟩ | ⟨rfl, rfl⟩
    · refine ⟨t, i, j, ht, ?_⟩
      have := q1 rfl
      rw [if_neg (by simpa using this)]
    · refine ⟨t, i, j, ht, ?_⟩
      have := q2 rfl
      rw [if_pos (by simpa using this)]
structure Pot (r : Ring) (x : Nat) (c : Nat → Nat) : Prop where
  par : ∀ d, d < r.os.length → x.testBit d = decide (c d % 2 = 1)
  arr : ∀ i j, (i, j) ∈ r.ps → c j ≤ c i ∧ c i ≤ c j + 1
section
variable {g : Graph} {r : Ring} {n : Nat}
theorem RingG.lt_os (h : RingG g r n) {i j : Nat} (hp : (i, j) ∈ r.ps) : i < j ∧ j < r.os.length := by
  have := h.ps.lt _ hp
  have := h.ord.len
  simp only at *
  omega
theorem RingG.pot (h : RingG g r n) : ∀ x, Reach g x → ∃ X c, x = (r.mrk X, r.lv X r.os.length) ∧ Pot r X c := by
  intro x hx
  induction hx with
  | beg =>
    refine ⟨0, fun _ => 0, ?_, fun d _ => by simp, fun i j _ => by simp⟩
    rw [h.marks0, h.code]
    have : ∀ m, r.lv 0 m = r.code := by
      intro m
      induction m with
      | zero => rfl
      | succ m ih => rw [Ring.lv, if_neg (by simp), ih]
    rw [this]
  | @go x k s _ hk hc ih =>
    obtain ⟨X, c, rfl, pt⟩ := ih
    obtain ⟨d, hd, rfl⟩ := h.mem (List.mem_of_getElem? hk)
    have hi := h.isSt hd
    have hdo := hi.lt
    have en := (Ring.can_iff hi).mp hc
    obtain ⟨_, _, e3⟩ := Ring.go (r := r) hi h.ne (h.two hdo) hc
    refine ⟨X ^^^ 2 ^ d, fun e => if e = d then c d + 1 else c e, e3, fun e he => ?_, fun i j hij => ?_⟩
    · rw [Nat.testBit_xor, Nat.testBit_two_pow, pt.par e he]
      by_cases hed : e = d
      · subst hed
        simp only [if_true, decide_true, Bool.xor_true]
        by_cases hp : c e % 2 = 1
        · rw [decide_eq_true hp, decide_eq_false (by omega)]; rfl
        · rw [decide_eq_false hp, decide_eq_true (by omega)]; rfl
      · rw [if_neg hed, decide_eq_false (Ne.symm hed)]
        simp
    · obtain ⟨h1, h2⟩ := h.lt_os hij
      obtain ⟨a1, a2⟩ := pt.arr i j hij
      obtain ⟨t, ht⟩ := List.mem_iff_getElem?.mp hij
      obtain ⟨q1, q2⟩ := en t i j ht
      rw [pt.par i (by omega), pt.par j h2] at q1 q2
      by_cases hjd : j = d
      · subst hjd
        have := q1 rfl
        have hne : c i ≠ c j := fun z => this (by rw [z])
        simp only [if_true]
        rw [if_neg (by omega)]
        omega
      · by_cases hid : i = d
        · subst hid
          have := q2 rfl
          have hp : c i % 2 = c j % 2 := by
            by_cases z1 : c i % 2 = 1 <;> by_cases z2 : c j % 2 = 1 <;> simp [z1, z2] at this <;> omega
          simp only [if_true]
          rw [if_neg hjd]
          omega
        · rw [if_neg hjd, if_neg hid]
          exact ⟨a1, a2⟩
theorem RingG.mem_of (h : RingG g r n) {d : Nat} (hd : d < 2 * n) : stepR r (tkL r.ps r.s0 fun _ => []) (flL r.ps r.s0 fun _ => []) d ∈ g.steps := by
  obtain ⟨t, ht⟩ := h.steps
  have hm : stepR r (tkL r.ps r.s0 fun _ => []) (flL r.ps r.s0 fun _ => []) d ∈ (List.range (2 * n)).map (stepR r (tkL r.ps r.s0 fun _ => []) (flL r.ps r.s0 fun _ => [])) := List.mem_map.mpr ⟨d, List.mem_range.mpr hd, rfl⟩
  rw [ht, List.mem_append]
  generalize (List.range (2 * n)).map (stepR r (tkL r.ps r.s0 fun _ => []) (flL r.ps r.s0 fun _ => [])) = l at hm ⊢
  rw [← List.take_append_drop t l, List.mem_append] at hm
  exact hm.symm
theorem least (c : Nat → Nat) : ∀ m, 0 < m → ∃ d, d < m ∧ (∀ e, e < m → c d ≤ c e) ∧ ∀ e, e < d → c d < c e
  | 1, _ => ⟨0, by omega, fun (e : Nat) he => (by
      have h0 : e = 0 := by omega
      rw [h0]
      exact Nat.le_refl _), fun (e : Nat) he => absurd he (by omega)⟩
  | m + 2, _ => by
    obtain ⟨d, h1, h2, h3⟩ := least c (m + 1) (by omega)
    by_cases hc : c (m + 1) < c d
    · refine ⟨m + 1, by omega, fun e he => ?_, fun e he => ?_⟩
      · by_cases z : e = m + 1
        · rw [z]; exact Nat.le_refl _
        · have := h2 e (by omega); omega
      · have := h2 e (by omega); omega
    · refine ⟨d, by omega, fun e he => ?_, h3⟩
      by_cases z : e = m + 1
      · rw [z]; omega
      · exact h2 e (by omega)
theorem RingG.live (h : RingG g r n) : Live g := by
  intro x hx z
  obtain ⟨X, c, rfl, pt⟩ := h.pot x hx
  have hl := h.ord.len
  have h1 := h.n1
  obtain ⟨d, hd, hmin, hfst⟩ := least c (2 * n) (by omega)
  have hi := h.isSt hd
  have hc : canN _ (r.mrk X) = true := (Ring.can_iff hi).mpr fun t i j ht => by
    have hij := List.mem_of_getElem? ht
    obtain ⟨q1, q2⟩ := h.lt_os hij
    obtain ⟨a1, a2⟩ := pt.arr i j hij
    rw [pt.par i (by omega), pt.par j q2]
    constructor
    · rintro rfl
      have := hfst i q1
      have : c i = c j + 1 := by omega
      rw [this]
      by_cases hp : c j % 2 = 1
      · rw [decide_eq_true hp, decide_eq_false (by omega)]; decide
      · rw [decide_eq_false hp, decide_eq_true (by omega)]; decide
    · rintro rfl
      have := hmin j (by omega)
      have : c i = c j := by omega
      rw [this]
  obtain ⟨k, hk⟩ := List.getElem?_of_mem (h.mem_of hd)
  have : k ∈ cansN g (r.mrk X) := cansN_mem.mpr ⟨_, hk, hc⟩
  have z' : cansN g (r.mrk X) = [] := z
  rw [z'] at this
  simp at this
theorem RingG.apart (h : RingG g r n) : ∀ (a b : Nat) (sa sb : Step), g.steps[a]? = some sa → g.steps[b]? = some sb → a ≠ b → ∀ p ∈ sa.takes, p ∉ sb.takes := by
  have hpw : g.steps.Pairwise fun s t => ∀ p ∈ s.takes, p ∉ t.takes := by
    obtain ⟨t, ht⟩ := h.steps
    have hl : ((List.range (2 * n)).map (stepR r (tkL r.ps r.s0 fun _ => []) (flL r.ps r.s0 fun _ => []))).Pairwise fun s t => ∀ p ∈ s.takes, p ∉ t.takes := by
      rw [List.pairwise_map]
      refine List.Pairwise.imp_of_mem (R := (· < ·)) (fun {d e} hd he hde p hp hq => ?_) List.pairwise_lt_range
      have i1 := h.isSt (List.mem_range.mp hd)
      have i2 := h.isSt (List.mem_range.mp he)
      obtain ⟨t, i, j, ht, q⟩ := (i1.takes p).mp hp
      obtain ⟨t', i', j', ht', q'⟩ := (i2.takes p).mp hq
      have : t = t' := by omega
      subst this
      rw [ht] at ht'
      cases ht'
      omega
    rw [ht]
    generalize (List.range (2 * n)).map (stepR r (tkL r.ps r.s0 fun _ => []) (flL r.ps r.s0 fun _ => [])) = l at hl ⊢
    rw [← List.take_append_drop t l] at hl
    refine (List.pairwise_append_comm ?_).mp hl
    exact fun {x y} hxy p hp hq => hxy p hq hp
  intro a b sa sb ha hb hab p hp hq
  rw [List.pairwise_iff_getElem] at hpw
  obtain ⟨a1, a2⟩ := List.getElem?_eq_some_iff.mp ha
  obtain ⟨b1, b2⟩ := List.getElem?_eq_some_iff.mp hb
  rcases Nat.lt_or_gt_of_ne hab with z | z
  · exact hpw a b a1 b1 z p (by rw [a2]; exact hp) (by rw [b2]; exact hq)
  · exact hpw b a b1 a1 z p (by rw [b2]; exact hq) (by rw [a2]; exact hp)
end
theorem noOff_of {g : Graph} (h : ∀ (a b : Nat) (sa sb : Step), g.steps[a]? = some sa → g.steps[b]? = some sb → a ≠ b → ∀ p ∈ sa.takes, p ∉ sb.takes) : NoOff g := by
  intro x _ a ha b hb hab
  obtain ⟨sa, ea, ca⟩ := cansN_mem.mp ha
  obtain ⟨sb, eb, _⟩ := cansN_mem.mp hb
  unfold offN
  rw [ea, eb]
  dsimp only
  rw [Bool.not_eq_false', canT, List.all_eq_true]
  intro p hp
  have h1 := h a b sa sb ea eb hab p hp
  rw [can_eq, canT, List.all_eq_true] at ca
  unfold newM leftN
  rw [Nat.testBit_or, Nat.testBit_xor, ca p hp, bitsN_bit, decide_eq_false h1]
  rfl
theorem ring_live (ns : List Int) (first n many : Nat) (h1 : 1 ≤ n) (h4 : n ≤ 4) (hm : many ≤ 6) : ∃ g, f_l_graph_3 [.scr ns, nD first, nD n, nD many] = .ok (graphD g) ∧ NetOk g ∧ LowG g ∧ GG g ∧ Live g ∧ NoOff g := by
  obtain ⟨g, r, h, e⟩ := v_l_graph_3 ns first n many h1 h4 hm
  obtain ⟨a1, a2, a3, a4, a5, a6, a7⟩ := h.net
  exact ⟨g, e, a1, a2, ⟨a1.1, by omega, a3, a6, a4, a7⟩, h.live, noOff_of h.apart⟩
section
variable {g : Graph} {L : Nat} {f : Nat → Bool}
theorem look_stands (hm : g.marks.testBit L = false) (hs : ∀ s ∈ g.steps, L ∉ s.takes ∧ L ∉ s.fills) (hn : NetOk g) (hst : GraphSt (lookG g L f)) : NetOk (lookG g L f) := by
  obtain ⟨_, S, sp, hS⟩ := hn
  refine ⟨hst, _, look_space sp hm hs, ?_⟩
  rw [List.length_map]
  exact Nat.le_trans (List.length_filter_le _ _) hS
end
end CW
namespace CW
open PySem PySem.Spec PyProof.Rows L2
structure Snd (g : Graph) : Prop where
  calm : ∀ x, Reach g x → Calm g x
  off : ∀ x, Reach g x → ∀ a ∈ cansN g x.1, ∀ b ∈ cansN g x.1, a ≠ b → (ownB g a = true ∨ ownB g b = true) → offN g x.1 a b = false
section
variable {g : Graph}
theorem calm_up {x : Nat × Nat} (hx : Calm g x) {k : Nat} {s : Step} (hk : g.steps[k]? = some s) (hc : canN s x.1 = true) : s.up = !x.2.testBit s.wire := by
  have := (hx k s hk hc).1
  unfold brokeN at this
  cases h1 : x.2.testBit s.wire <;> cases h2 : s.up <;> rw [h1, h2] at this <;> first | rfl | exact absurd this (by decide)
theorem next_bit (s : Step) (x : Nat × Nat) (w : Nat) : (nextB s x).2.testBit w = (x.2.testBit w ^^ decide (s.wire = w)) := by
  show (newC s x.2).testBit w = _
  unfold newC
  rw [Nat.testBit_xor, Nat.testBit_two_pow]
theorem stays {x : Nat × Nat} {a b : Nat} {sa sb : Step} (ea : g.steps[a]? = some sa) (eb : g.steps[b]? = some sb) (h : offN g x.1 a b = false) : canN sa (nextB sb x).1 = true := by
  unfold offN at h
  rw [ea, eb] at h
  dsimp only at h
  rw [can_eq]
  show canT sa (newM sb x.1) = true
  simpa using h
theorem own_of {k : Nat} {s : Step} (hk : g.steps[k]? = some s) (hw : s.wire ∈ madeN g) : ownB g k = true := ownB_iff.mpr ⟨s, hk, hw⟩
theorem Snd.one (hs : Snd g) {x : Nat × Nat} (hx : Reach g x) {a b : Nat} {sa sb : Step} (ea : g.steps[a]? = some sa) (eb : g.steps[b]? = some sb) (ca : canN sa x.1 = true) (cb : canN sb x.1 = true) (hw : sa.wire = sb.wire) (hm : sa.wire ∈ madeN g) : a = b := by
  refine Decidable.byContradiction fun hab => ?_
  have h1 := hs.off x hx a (cansN_mem.mpr ⟨sa, ea, ca⟩) b (cansN_mem.mpr ⟨sb, eb, cb⟩) hab (.inl (own_of ea hm))
  have h2 := stays ea eb h1
  have u1 := calm_up (hs.calm x hx) ea ca
  have u2 := calm_up (hs.calm _ (.go hx eb cb)) ea h2
  rw [next_bit, hw, decide_eq_true rfl] at u2
  rw [hw] at u1
  rw [u1] at u2
  cases h : x.2.testBit sb.wire <;> rw [h] at u2 <;> exact absurd u2 (by decide)
def wireAt (g : Graph) (k : Nat) : Nat := match g.steps[k]? with
  | some s => s.wire
  | none => 0
def cansW (g : Graph) (m w : Nat) : List Nat := (cansN g m).filter fun k => wireAt g k == w
theorem cansW_mem {m w k : Nat} : k ∈ cansW g m w ↔ ∃ s, g.steps[k]? = some s ∧ canN s m = true ∧ s.wire = w := by
  unfold cansW
  rw [List.mem_filter, cansN_mem]
  constructor
  · rintro ⟨⟨s, h1, h2⟩, h3⟩
    unfold wireAt at h3
    rw [h1] at h3
    exact ⟨s, h1, h2, by simpa using h3⟩
  · rintro ⟨s, h1, h2, h3⟩
    refine ⟨⟨s, h1, h2⟩, ?_⟩
    unfold wireAt
    rw [h1]
    simpa using h3
theorem wants_calm {x : Nat × Nat} (hx : Calm g x) (w : Nat) : wantsN g.steps x.1 w = if cansW g x.1 w = [] then 0 else if x.2.testBit w then -1 else 1 := by
  unfold wantsN
  by_cases he : cansW g x.1 w = []
  · rw [if_pos he]
    have : ∀ s ∈ g.steps, (s.wire == w && canN s x.1) = false := fun s hs => by
      obtain ⟨k, hk⟩ := List.getElem?_of_mem hs
      cases h1 : s.wire == w with
      | false => rfl
      | true =>
        cases h2 : canN s x.1 with
        | false => rfl
        | true =>
          have : k ∈ cansW g x.1 w := cansW_mem.mpr ⟨s, hk, h2, by simpa using h1⟩
          rw [he] at this
          simp at this
    have a1 : (g.steps.any fun s => s.wire == w && canN s x.1 && s.up) = false := by
      rw [List.any_eq_false]
      intro s hs
      rw [this s hs]
      simp
    have a2 : (g.steps.any fun s => s.wire == w && canN s x.1) = false := by
      rw [List.any_eq_false]
      intro s hs
      rw [this s hs]
      simp
    rw [a1, a2]
    rfl
  · rw [if_neg he]
    obtain ⟨k, hk⟩ := List.exists_mem_of_ne_nil _ he
    obtain ⟨s, h1, h2, h3⟩ := cansW_mem.mp hk
    have hm := List.mem_of_getElem? h1
    have hb : (s.wire == w) = true := by simpa using h3
    have a2 : (g.steps.any fun s => s.wire == w && canN s x.1) = true := List.any_eq_true.mpr ⟨s, hm, by rw [hb, h2]; rfl⟩
    cases hl : x.2.testBit w with
    | true =>
      have a1 : (g.steps.any fun s => s.wire == w && canN s x.1 && s.up) = false := by
        rw [List.any_eq_false]
        intro t ht
        obtain ⟨j, hj⟩ := List.getElem?_of_mem ht
        cases q1 : t.wire == w with
        | false => simp
        | true =>
          cases q2 : canN t x.1 with
          | false => simp
          | true =>
            have := calm_up hx hj q2
            have e : t.wire = w := by simpa using q1
            rw [e, hl] at this
            rw [this]
            simp
      rw [a1, a2]
      rfl
    | false =>
      have := calm_up hx h1 h2
      rw [h3, hl] at this
      have a1 : (g.steps.any fun s => s.wire == w && canN s x.1 && s.up) = true := List.any_eq_true.mpr ⟨s, hm, by rw [hb, h2, this]; rfl⟩
      rw [a1]
      rfl
theorem Snd.keep (hs : Snd g) {x : Nat × Nat} (hx : Reach g x) {k : Nat} {s : Step} (hk : g.steps[k]? = some s) (hc : canN s x.1 = true) {w : Nat} (hw : w ≠ s.wire) (hm : w ∈ madeN g ∨ s.wire ∈ madeN g) (h0 : wantsN g.steps x.1 w ≠ 0) : wantsN g.steps (nextB s x).1 w = wantsN g.steps x.1 w := by
  have c1 := hs.calm x hx
  have c2 := hs.calm _ (.go hx hk hc)
  rw [wants_calm c1] at h0 ⊢
  rw [wants_calm c2, next_bit, decide_eq_false (Ne.symm hw), Bool.xor_false]
  by_cases he : cansW g x.1 w = []
  · rw [if_pos he] at h0; exact absurd rfl h0
  · rw [if_neg he]
    obtain ⟨a, ha⟩ := List.exists_mem_of_ne_nil _ he
    obtain ⟨sa, a1, a2, a3⟩ := cansW_mem.mp ha
    have hak : a ≠ k := fun z => by
      subst z
      rw [hk] at a1
      cases a1
      exact hw a3.symm
    have hown : ownB g a = true ∨ ownB g k = true := by
      rcases hm with h | h
      · exact .inl (own_of a1 (by rw [a3]; exact h))
      · exact .inr (own_of hk h)
    have := stays a1 hk (hs.off x hx a (cansN_mem.mpr ⟨sa, a1, a2⟩) k (cansN_mem.mpr ⟨s, hk, hc⟩) hak hown)
    have hne : cansW g (nextB s x).1 w ≠ [] := fun z => by
      have : a ∈ cansW g (nextB s x).1 w := cansW_mem.mpr ⟨sa, a1, this, a3⟩
      rw [z] at this
      simp at this
    rw [if_neg hne]
end
end CW
namespace CW
open PySem PySem.Spec PyProof.Rows L2
section
variable (x2 x3 x6 x7 x8 x11 x16 x17 : Option D) (n size low : Nat)
end
end CW
namespace CW
open PySem PySem.Spec PyProof.Rows L2
@[simp] theorem eq_natsD_nil (ks : List Nat) : oEq (natsD ks) (.lst []) = .ok (.bl (decide (ks = []))) := eq_natsD ks []
@[simp] theorem ne_natsD_nil (ks : List Nat) : oNe (natsD ks) (.lst []) = .ok (.bl (!decide (ks = []))) := ne_natsD ks []
@[simp] theorem isD_keyT (t : Ty) (x : Nat × Nat) : isD t (keyT x) = .ok (.bl (t == .tuple)) := isD_tup t _
end CW
namespace CW
open PySem PySem.Spec PyProof.Rows L2
def usedS (m : Nat) (ss : List Step) : Nat := ss.foldl (fun n s => n ||| bitsN s.takes ||| bitsN s.fills) m
theorem usedS_bit (p : Nat) : ∀ (ss : List Step) (m : Nat), (usedS m ss).testBit p = true ↔ m.testBit p = true ∨ ∃ s ∈ ss, p ∈ s.takes ∨ p ∈ s.fills
  | [], m => by simp [usedS]
  | s :: ss, m => by
    have ih := usedS_bit p ss (m ||| bitsN s.takes ||| bitsN s.fills)
    unfold usedS at ih ⊢
    rw [List.foldl_cons, ih, Nat.testBit_or, Nat.testBit_or, bitsN, bitsN, foldl_bit, foldl_bit]
    simp [or_assoc]
def Used (g : Graph) (p : Nat) : Prop := g.marks.testBit p = true ∨ ∃ s ∈ g.steps, p ∈ s.takes ∨ p ∈ s.fills
def usedN (g : Graph) : Nat := usedS g.marks g.steps
theorem usedN_bit (g : Graph) (p : Nat) : (usedN g).testBit p = true ↔ Used g p := usedS_bit p g.steps g.marks
def vacN (g : Graph) : List Nat := (List.range 64).filter fun p => !(usedN g).testBit p
theorem vacN_mem {g : Graph} {p : Nat} : p ∈ vacN g ↔ p < 64 ∧ ¬ Used g p := by
  unfold vacN
  rw [List.mem_filter, List.mem_range, ← usedN_bit]
  simp
theorem vacN_rising (g : Graph) : Rising (vacN g) := List.Pairwise.filter _ List.pairwise_lt_range
structure PGr (B : Nat) (g : Graph) : Prop where
  w1 : 1 ≤ g.wires.length
  w8 : g.wires.length ≤ 8
  s22 : g.steps.length ≤ 22
  wl : ∀ s ∈ g.steps, s.wire < g.wires.length
  two : ∀ w < g.wires.length, 2 ≤ (g.steps.map (·.wire)).count w
  mks : g.marks < 2 ^ B
  sp : ∀ s ∈ g.steps, (∀ p ∈ s.takes, p < B) ∧ ∀ p ∈ s.fills, p < B
  ln : ∀ s ∈ g.steps, s.takes.length ≤ 100 ∧ s.fills.length ≤ 100
theorem PGr.up {g : Graph} {B C : Nat} (h : PGr B g) (hc : B ≤ C) : PGr C g :=
  ⟨h.w1, h.w8, h.s22, h.wl, h.two, Nat.lt_of_lt_of_le h.mks (Nat.pow_le_pow_right (by decide) hc), fun s hs => ⟨fun p hp => Nat.lt_of_lt_of_le ((h.sp s hs).1 p hp) hc, fun p hp => Nat.lt_of_lt_of_le ((h.sp s hs).2 p hp) hc⟩, h.ln⟩
theorem PGr.used {g : Graph} {B p : Nat} (h : PGr B g) (hu : Used g p) : p < B := by
  rcases hu with hu | ⟨s, hs, hu | hu⟩
  · refine Classical.byContradiction fun hn => ?_
    have : g.marks.testBit p = false := Nat.testBit_lt_two_pow (Nat.lt_of_lt_of_le h.mks (Nat.pow_le_pow_right (by decide) (by omega)))
    rw [this] at hu
    cases hu
  · exact (h.sp s hs).1 p hu
  · exact (h.sp s hs).2 p hu
theorem PGr.free {g : Graph} {B : Nat} (h : PGr B g) (hB : B + 2 ≤ 64) : ∃ lo hi t, vacN g = lo :: hi :: t ∧ lo < hi ∧ hi < B + 2 ∧ ¬ Used g lo ∧ ¬ Used g hi := by
  have h1 : B ∈ vacN g := vacN_mem.mpr ⟨by omega, fun hu => by have := h.used hu; omega⟩
  have h2 : B + 1 ∈ vacN g := vacN_mem.mpr ⟨by omega, fun hu => by have := h.used hu; omega⟩
  have hr := vacN_rising g
  cases hf : vacN g with
  | nil => rw [hf] at h1; cases h1
  | cons lo t =>
    rw [hf] at hr h1 h2
    obtain ⟨r1, r2⟩ := List.pairwise_cons.mp hr
    have m1 : lo ∈ vacN g := by rw [hf]; exact List.mem_cons_self
    cases t with
    | nil => simp at h1 h2; omega
    | cons hi t =>
      obtain ⟨r3, r4⟩ := List.pairwise_cons.mp r2
      have m2 : hi ∈ vacN g := by rw [hf]; simp
      refine ⟨lo, hi, t, rfl, r1 _ List.mem_cons_self, ?_, (vacN_mem.mp m1).2, (vacN_mem.mp m2).2⟩
      rcases List.mem_cons.mp h2 with e | h2
      · rcases List.mem_cons.mp h1 with e' | h1
        · omega
        · have := r1 _ h1
          omega
      · rcases List.mem_cons.mp h2 with e | h2
        · omega
        · have := r3 _ h2
          omega
section
variable {g : Graph} {B : Nat}
end
end CW
namespace CW
open PySem PySem.Spec PyProof.Rows L2
def madeW (g : Graph) (w : Nat) : Bool := (g.wires[w]?.map fun x => x.2 == toL "made").getD false
theorem madeW_mem (g : Graph) (w : Nat) : w ∈ madeN g ↔ madeW g w = true := by
  show w ∈ whichN (fun w => w.2 == toL "made") g.wires ↔ _
  rw [which_range, List.mem_filter, List.mem_range]
  unfold madeW
  constructor
  · exact fun h => h.2
  · intro h
    refine ⟨?_, h⟩
    cases e : g.wires[w]? with
    | none => rw [e] at h; cases h
    | some x => exact (List.getElem?_eq_some_iff.mp e).1
section
variable {g : Graph} {B : Nat} (h : PGr B g)
include h
end
end CW
namespace CW
open PySem PySem.Spec PyProof.Rows L2
inductive SD : Nat → D → Prop
  | int {n : Nat} (i : Int) : SD n (.int i)
  | bl {n : Nat} (b : Bool) : SD n (.bl b)
  | str {n : Nat} (z : List Nat) : SD n (sD z)
  | tup {n : Nat} {ds : List D} : (∀ d ∈ ds, SD n d) → ds.length ≤ 1000 → SD (n + 1) (.tup ds)
theorem SD.up {n : Nat} {d : D} (h : SD n d) : SD (n + 1) d := by
  induction h with
  | int i => exact .int _
  | bl b => exact .bl _
  | str z => exact .str _
  | tup _ h2 ih => exact .tup ih h2
end CW
namespace CW
open PySem PySem.Spec PyProof.Rows L2

def stepsL (ss : List Step) : D := .lst (ss.map stepD)
def lfN (c p : Nat) : Nat := p + (if c % 4 ≤ p then 1 else 0) + (if 2 + c / 4 % 20 ≤ p then 1 else 0)
theorem lfN_le (c p : Nat) : lfN c p ≤ p + 2 := by unfold lfN; split <;> split <;> omega
def mvM (c m : Nat) (ps : List Nat) : Nat := ps.foldl (fun n p => if m.testBit p then n ||| 2 ^ lfN c p else n) 0
def mvS (c : Nat) (s : Step) : Step := ⟨s.wire, s.up, s.takes.map (lfN c), s.fills.map (lfN c)⟩
def mvG (g : Graph) (c : Nat) : Graph := ⟨g.wires, g.steps.map (mvS c), mvM c g.marks (List.range 62), g.code⟩
theorem mv_lt (c m B : Nat) (hm : m < 2 ^ B) : ∀ (ps : List Nat) (n : Nat), n < 2 ^ (B + 2) → ps.foldl (fun n p => if m.testBit p then n ||| 2 ^ lfN c p else n) n < 2 ^ (B + 2)
  | [], n, h => h
  | p :: ps, n, h => by
    rw [List.foldl_cons]
    refine mv_lt c m B hm ps _ ?_
    split
    · rename_i hb
      have hp : p < B := by
        refine Classical.byContradiction fun hn => ?_
        have : m.testBit p = false := Nat.testBit_lt_two_pow (Nat.lt_of_lt_of_le hm (Nat.pow_le_pow_right (by decide) (by omega)))
        rw [this] at hb
        cases hb
      have := lfN_le c p
      exact Nat.or_lt_two_pow h (Nat.pow_lt_pow_right (by decide) (by omega))
    · exact h
theorem PGr.mv {g : Graph} {B : Nat} (h : PGr B g) (c : Nat) : PGr (B + 2) (mvG g c) := by
  have hw : (g.steps.map (mvS c)).map (·.wire) = g.steps.map (·.wire) := by rw [List.map_map]; rfl
  have mem : ∀ s ∈ (mvG g c).steps, ∃ t ∈ g.steps, mvS c t = s := fun s hs => List.mem_map.mp hs
  refine ⟨h.w1, h.w8, by show (g.steps.map (mvS c)).length ≤ 22; rw [List.length_map]; exact h.s22, fun s hs => ?_, fun w hwl => ?_, mv_lt c g.marks B h.mks _ 0 (Nat.two_pow_pos _), fun s hs => ?_, fun s hs => ?_⟩
  · obtain ⟨t, ht, rfl⟩ := mem s hs
    exact h.wl t ht
  · show 2 ≤ ((g.steps.map (mvS c)).map (·.wire)).count w
    rw [hw]
    exact h.two w hwl
  · obtain ⟨t, ht, rfl⟩ := mem s hs
    refine ⟨fun p hp => ?_, fun p hp => ?_⟩
    · obtain ⟨q, hq, rfl⟩ := List.mem_map.mp hp
      have := lfN_le c q
      have := (h.sp t ht).1 q hq
      omega
    · obtain ⟨q, hq, rfl⟩ := List.mem_map.mp hp
      have := lfN_le c q
      have := (h.sp t ht).2 q hq
      omega
  · obtain ⟨t, ht, rfl⟩ := mem s hs
    have := h.ln t ht
    exact ⟨by show (t.takes.map _).length ≤ 100; rw [List.length_map]; exact this.1, by show (t.fills.map _).length ≤ 100; rw [List.length_map]; exact this.2⟩
section
variable {g : Graph} {B : Nat} (h : PGr B g) (hB : B ≤ 62) (c : Nat)
include h hB
end
end CW
namespace CW
open PySem PySem.Spec PyProof.Rows L2
theorem PGr.set {g : Graph} {B : Nat} (h : PGr B g) {m : Nat} {ss : List Step} (hw : ss.map (·.wire) = g.steps.map (·.wire)) (hm : m < 2 ^ B) (hs : ∀ s ∈ ss, ((∀ p ∈ s.takes, p < B) ∧ ∀ p ∈ s.fills, p < B) ∧ s.takes.length ≤ 100 ∧ s.fills.length ≤ 100) : PGr B ⟨g.wires, ss, m, g.code⟩ := by
  have hl : ss.length = g.steps.length := by
    have := congrArg List.length hw
    simpa using this
  refine ⟨h.w1, h.w8, by show ss.length ≤ 22; rw [hl]; exact h.s22, fun s hss => ?_, fun w hwl => ?_, hm, fun s hss => (hs s hss).1, fun s hss => (hs s hss).2⟩
  · have h1 : s.wire ∈ ss.map (·.wire) := List.mem_map.mpr ⟨s, hss, rfl⟩
    rw [hw] at h1
    obtain ⟨t, ht, e⟩ := List.mem_map.mp h1
    rw [← e]
    exact h.wl t ht
  · show 2 ≤ (ss.map (·.wire)).count w
    rw [hw]
    exact h.two w hwl
end CW
namespace CW
open PySem PySem.Spec PyProof.Rows L2
theorem nodup_sub {α : Type} [DecidableEq α] : ∀ (xs ys : List α), xs.Nodup → (∀ x ∈ xs, x ∈ ys) → xs.length ≤ ys.length
  | [], _, _, _ => Nat.zero_le _
  | x :: xs, ys, h, hs => by
    obtain ⟨h1, h2⟩ := List.nodup_cons.mp h
    have hx := hs x List.mem_cons_self
    have := nodup_sub xs (ys.erase x) h2 fun y hy => (List.mem_erase_of_ne fun e => by subst e; exact h1 hy).mpr (hs y (List.mem_cons_of_mem _ hy))
    rw [List.length_erase_of_mem hx] at this
    have hp : 0 < ys.length := List.length_pos_of_mem hx
    rw [List.length_cons]
    omega
end CW
namespace CW
open PySem PySem.Spec PyProof.Rows L2

end CW
namespace CW
open PySem PySem.Spec PyProof.Rows L2
def deedD (p : Nat × Bool) : D := .tup [nD p.1, .bl p.2]
def OneSpot (m : Nat) (s : Step) : Prop := ∃ x y, s.takes = [x] ∧ s.fills = [y] ∧ x ≤ m ∧ y ≤ m
theorem OneSpot.up {m n : Nat} {s : Step} (h : OneSpot m s) (hn : m ≤ n) : OneSpot n s := by
  obtain ⟨x, y, a, b, c, d⟩ := h
  exact ⟨x, y, a, b, by omega, by omega⟩
@[simp] theorem ix_deed0 (p : Nat × Bool) : oIx (deedD p) (nD 0) = .ok (nD p.1) := by simp [deedD]
@[simp] theorem ix_deed1 (p : Nat × Bool) : oIx (deedD p) (nD 1) = .ok (.bl p.2) := by simp [deedD]
theorem snocL (acc : List Step) (s : Step) : D.lst (acc.map stepD ++ [stepD s]) = stepsL (acc ++ [s]) := by
  unfold stepsL
  rw [List.map_append]
  rfl
def chN (many own c : Nat) : List Nat := (List.range own).map fun j => many + (c + j) % own
def bothN (many own c : Nat) : List (Nat × Bool) := (chN many own c).map (fun w => (w, true)) ++ (chN many own (c / 2)).map (fun w => (w, false))
def deedsN (many own c k : Nat) : List (Nat × Bool) := (k, true) :: ((bothN many own c).take (c / 4 % (2 * own + 1)) ++ [(k, false)] ++ (bothN many own c).drop (c / 4 % (2 * own + 1)))
theorem both_len (many own c : Nat) : (bothN many own c).length = 2 * own := by
  unfold bothN chN
  simp
  omega
theorem deeds_len (many own c k : Nat) : (deedsN many own c k).length = 2 * own + 2 := by
  unfold deedsN
  have := both_len many own c
  rw [List.length_cons, List.length_append, List.length_append, List.length_take, List.length_drop, List.length_singleton]
  omega
theorem deeds_count (many own c k w : Nat) : ((deedsN many own c k).map (·.1)).count w = (if w = k then 2 else 0) + ((bothN many own c).map (·.1)).count w := by
  unfold deedsN
  have h : ((bothN many own c).map (·.1)).count w = (((bothN many own c).take (c / 4 % (2 * own + 1))).map (·.1)).count w + (((bothN many own c).drop (c / 4 % (2 * own + 1))).map (·.1)).count w := by
    rw [← List.count_append, ← List.map_append, List.take_append_drop]
  rw [List.map_cons, List.map_append, List.map_append, List.count_cons, List.count_append, List.count_append, h]
  by_cases hk : w = k
  · subst hk
    simp
    omega
  · have : (k == w) = false := by simpa using fun z : k = w => hk z.symm
    simp [hk, this, List.count_cons]
theorem deeds_lt (many own c k : Nat) (hk : k < many) (ho : 0 < own) : ∀ w ∈ (deedsN many own c k).map (·.1), w < many + own := by
  have hb : ∀ w ∈ (bothN many own c).map (·.1), w < many + own := by
    intro w hw
    unfold bothN chN at hw
    simp only [List.map_append, List.map_map, List.mem_append, List.mem_map, Function.comp] at hw
    rcases hw with ⟨j, _, rfl⟩ | ⟨j, _, rfl⟩
    · have := Nat.mod_lt (c + j) ho
      omega
    · have := Nat.mod_lt (c / 2 + j) ho
      omega
  intro w hw
  have hc := List.count_pos_iff.mpr hw
  rw [deeds_count] at hc
  by_cases h : w = k
  · omega
  · rw [if_neg h] at hc
    exact hb w (List.count_pos_iff.mp (by omega))
structure ChI (many own a : Nat) (acc : List Step) : Prop where
  len : acc.length = a * (2 * own + 2)
  sp : ∀ s ∈ acc, OneSpot (1 + a * (2 * own + 2)) s
  wl : ∀ s ∈ acc, s.wire < many + own
  giv : ∀ w < a, 2 ≤ (acc.map (·.wire)).count w
  mad : 0 < a → ∀ i < own, 2 ≤ (acc.map (·.wire)).count (many + i)
end CW
namespace CW
open PySem PySem.Spec PyProof.Rows L2

@[simp] theorem hide_odl (O : List OK) (x : Option D) (ρ : Env) : hide (.odl :: O) (x :: ρ) = none :: hide O ρ := (rfl)
theorem forL_flat {α β : Type} {is : List Nat} {asg : D → Option (List D)} {b : Env → Fl} (enc : α → D) (as : α → List D) (ha : ∀ x, asg (enc x) = some (as x)) (R : List β → Env → Prop) (gf : α → List β) (N : Nat) :
    ∀ (xs : List α) (acc : List β) (ρ : Env), R acc ρ → acc.length + (xs.flatMap gf).length ≤ N → (∀ acc x ρ, x ∈ xs → R acc ρ → acc.length + (gf x).length ≤ N → ∃ ρ', b (setsE ρ (is.zip (as x))) = .nx ρ' ∧ R (acc ++ gf x) ρ') →
    ∃ ρ', forL is asg b (xs.map enc) ρ = .nx ρ' ∧ R (acc ++ xs.flatMap gf) ρ'
  | [], acc, ρ, h, _, _ => ⟨ρ, rfl, by simpa using h⟩
  | x :: xs, acc, ρ, h, hl, hb => by
    rw [List.flatMap_cons, List.length_append] at hl
    obtain ⟨ρ', hc, hr⟩ := hb acc x ρ List.mem_cons_self h (by omega)
    rw [List.map_cons, forL_nx ρ b (ha x) hc]
    obtain ⟨ρ2, h1, h2⟩ := forL_flat enc as ha R gf N xs (acc ++ gf x) ρ' hr (by rw [List.length_append]; omega) fun acc y ρ hy => hb acc y ρ (List.mem_cons_of_mem _ hy)
    exact ⟨ρ2, h1, by rw [List.flatMap_cons, ← List.append_assoc]; exact h2⟩
structure ByC (pre : List Row) (codes : List Nat) (f : Nat → List Nat) : Prop where
  nd : codes.Nodup
  mem : ∀ c, c ∈ codes ↔ ∃ r ∈ pre, r.c = c
  idx : ∀ c n, n ∈ f c ↔ ∃ r, pre[n]? = some r ∧ r.c = c
  ris : ∀ c, Rising (f c)
  sum : (codes.map fun c => (f c).length).sum = pre.length
theorem ByC.none {pre : List Row} {codes : List Nat} {f : Nat → List Nat} (h : ByC pre codes f) {c : Nat} (hc : c ∉ codes) : f c = [] := by
  rw [List.eq_nil_iff_forall_not_mem]
  intro n hn
  obtain ⟨r, h1, h2⟩ := (h.idx c n).mp hn
  exact hc ((h.mem c).mpr ⟨r, List.mem_of_getElem? h1, h2⟩)
theorem ByC.le {pre : List Row} {codes : List Nat} {f : Nat → List Nat} (h : ByC pre codes f) (c : Nat) : (f c).length ≤ pre.length := by
  have h1 : ∀ n ∈ f c, n < pre.length := fun n hn => by
    obtain ⟨r, h2, _⟩ := (h.idx c n).mp hn
    exact (List.getElem?_eq_some_iff.mp h2).1
  have nd : (f c).Nodup := (h.ris c).imp fun hab => Nat.ne_of_lt hab
  exact nodup_lt nd h1
def putC (codes : List Nat) (c : Nat) : List Nat := if c ∈ codes then codes else codes ++ [c]
def putFn (f : Nat → List Nat) (c n : Nat) : Nat → List Nat := fun d => if d = c then f d ++ [n] else f d
theorem putFn_ne {f : Nat → List Nat} {c n d : Nat} (h : d ≠ c) : putFn f c n d = f d := if_neg h
theorem putFn_eq {f : Nat → List Nat} {c n : Nat} : putFn f c n c = f c ++ [n] := if_pos rfl
theorem sum_put {f : Nat → List Nat} {c n : Nat} : ∀ {codes : List Nat}, codes.Nodup → (c ∉ codes → f c = []) → ((putC codes c).map fun d => (putFn f c n d).length).sum = (codes.map fun d => (f d).length).sum + 1
  | [], _, h => by
    unfold putC
    rw [if_neg (by simp)]
    simp [putFn_eq, h (by simp)]
  | d :: codes, hn, h => by
    obtain ⟨n1, n2⟩ := List.nodup_cons.mp hn
    by_cases e : d = c
    · subst e
      unfold putC
      rw [if_pos List.mem_cons_self, List.map_cons, List.map_cons, List.sum_cons, List.sum_cons, putFn_eq]
      have : codes.map (fun e => (putFn f d n e).length) = codes.map fun e => (f e).length := List.map_congr_left fun e he => by
        have hne : e ≠ d := fun z => n1 (by rw [← z]; exact he)
        rw [putFn_ne hne]
      rw [this, List.length_append, List.length_singleton]
      omega
    · have hm : c ∈ d :: codes ↔ c ∈ codes := by
        rw [List.mem_cons]
        exact ⟨fun z => z.resolve_left fun z => e z.symm, .inr⟩
      have ih := sum_put (f := f) (n := n) n2 fun z => h fun z2 => z (hm.mp z2)
      have hp : putC (d :: codes) c = d :: putC codes c := by
        unfold putC
        by_cases hc : c ∈ codes
        · rw [if_pos hc, if_pos (hm.mpr hc)]
        · rw [if_neg hc, if_neg fun z => hc (hm.mp z)]; rfl
      rw [hp, List.map_cons, List.map_cons, List.sum_cons, List.sum_cons, ih, putFn_ne e]
      omega
theorem ByC.put {pre : List Row} {codes : List Nat} {f : Nat → List Nat} (h : ByC pre codes f) (r : Row) : ByC (pre ++ [r]) (putC codes r.c) (putFn f r.c pre.length) where
  nd := by
    unfold putC
    split
    · exact h.nd
    · rename_i hc
      refine List.nodup_append.mpr ⟨h.nd, by simp, fun a ha b hb => ?_⟩
      have : b = r.c := by simpa using hb
      rw [this]
      exact fun z => hc (z ▸ ha)
  mem := fun c => by
    have : c ∈ putC codes r.c ↔ c ∈ codes ∨ c = r.c := by
      unfold putC
      split
      · rename_i hc
        exact ⟨.inl, fun z => z.elim id fun z => z ▸ hc⟩
      · simp
    rw [this, h.mem]
    constructor
    · rintro (⟨q, h1, h2⟩ | e)
      · exact ⟨q, List.mem_append_left _ h1, h2⟩
      · exact ⟨r, by simp, e.symm⟩
    · rintro ⟨q, h1, h2⟩
      rcases List.mem_append.mp h1 with h1 | h1
      · exact .inl ⟨q, h1, h2⟩
      · have : q = r := by simpa using h1
        exact .inr (by rw [← h2, this])
  idx := fun c n => by
    unfold putFn
    by_cases e : c = r.c
    · rw [if_pos e, List.mem_append, h.idx]
      constructor
      · rintro (⟨q, h1, h2⟩ | e2)
        · exact ⟨q, by rw [List.getElem?_append_left (List.getElem?_eq_some_iff.mp h1).1]; exact h1, h2⟩
        · have : n = pre.length := by simpa using e2
          exact ⟨r, by rw [this]; simp, e.symm⟩
      · rintro ⟨q, h1, h2⟩
        by_cases hn : n < pre.length
        · rw [List.getElem?_append_left hn] at h1
          exact .inl ⟨q, h1, h2⟩
        · have := (List.getElem?_eq_some_iff.mp h1).1
          rw [List.length_append, List.length_singleton] at this
          exact .inr (by simp; omega)
    · rw [if_neg e, h.idx]
      constructor
      · rintro ⟨q, h1, h2⟩
        exact ⟨q, by rw [List.getElem?_append_left (List.getElem?_eq_some_iff.mp h1).1]; exact h1, h2⟩
      · rintro ⟨q, h1, h2⟩
        by_cases hn : n < pre.length
        · rw [List.getElem?_append_left hn] at h1
          exact ⟨q, h1, h2⟩
        · have h3 := (List.getElem?_eq_some_iff.mp h1).1
          rw [List.length_append, List.length_singleton] at h3
          have : n = pre.length := by omega
          subst this
          rw [List.getElem?_concat_length] at h1
          cases h1
          exact absurd h2.symm e
  ris := fun c => by
    unfold putFn
    split
    · refine List.pairwise_append.mpr ⟨h.ris c, List.pairwise_singleton _ _, fun a ha b hb => ?_⟩
      have : b = pre.length := by simpa using hb
      obtain ⟨q, h1, _⟩ := (h.idx c a).mp ha
      rw [this]
      exact (List.getElem?_eq_some_iff.mp h1).1
    · exact h.ris c
  sum := by
    rw [sum_put h.nd h.none, h.sum, List.length_append, List.length_singleton]
theorem ByC.len {pre : List Row} {codes : List Nat} {f : Nat → List Nat} (h : ByC pre codes f) : codes.length ≤ pre.length := by
  have key : ∀ cs : List Nat, (∀ c ∈ cs, 1 ≤ (f c).length) → cs.length ≤ (cs.map fun c => (f c).length).sum := by
    intro cs
    induction cs with
    | nil => exact fun _ => Nat.le_refl _
    | cons c cs ih =>
      intro hc
      have a := hc c List.mem_cons_self
      have b := ih fun d hd => hc d (List.mem_cons_of_mem _ hd)
      rw [List.length_cons, List.map_cons, List.sum_cons]
      omega
  rw [← h.sum]
  refine key codes fun c hc => ?_
  obtain ⟨r, h1, h2⟩ := (h.mem c).mp hc
  obtain ⟨n, hn⟩ := List.getElem?_of_mem h1
  exact List.length_pos_of_mem ((h.idx c n).mpr ⟨r, hn, h2⟩)
end CW
namespace CW
open PySem PySem.Spec PyProof.Rows L2

def tri3D (x : Nat × Nat × Nat) : D := .tup [nD x.1, nD x.2.1, nD x.2.2]
def big : Nat := 10000000
variable {g : Graph} {rows : List Row} {ks : List Nat}
theorem flat_len {α β : Type} (f : α → List β) (m : Nat) : ∀ xs : List α, (∀ x ∈ xs, (f x).length ≤ m) → (xs.flatMap f).length ≤ xs.length * m
  | [], _ => by simp
  | x :: xs, h => by
    have a := h x List.mem_cons_self
    have b := flat_len f m xs fun y hy => h y (List.mem_cons_of_mem _ hy)
    rw [List.flatMap_cons, List.length_append, List.length_cons, Nat.succ_mul]
    omega
end CW
namespace CW
open PySem PySem.Spec PyProof.Rows L2

def up3 (x : Nat × Nat × Nat) : Int × Int × Int := ((x.1 : Int), (x.2.1 : Int), (x.2.2 : Int))
def IsClash (g : Graph) (rows : List Row) (x : Nat × Nat × Nat) : Prop :=
  x.1 < x.2.1 ∧ x.2.2 ∈ madeN g ∧ ∃ rn rm, rows[x.1]? = some rn ∧ rows[x.2.1]? = some rm ∧ rn.c = rm.c ∧ wantsN g.steps rn.m x.2.2 ≠ wantsN g.steps rm.m x.2.2
structure ClashOk (g : Graph) (rows : List Row) (cl : List (Nat × Nat × Nat)) : Prop where
  mem : ∀ x, x ∈ cl ↔ IsClash g rows x
  srt : cl.Pairwise (fun a b => SrtO.lex3 (up3 b) (up3 a) = false)
  nd : cl.Nodup
variable {g : Graph} {rows : List Row}
open Classical in
noncomputable def clashL (g : Graph) (rows : List Row) : List (Nat × Nat × Nat) := if h : ∃ cl, f_among [graphD g, rowsD rows] = .ok (cl.map tri3D) ∧ ClashOk g rows cl then h.choose else []
noncomputable def needX (g : Graph) (most : Nat) : Except Rf (List Row) := match soundX g most with
  | .error r => .error r
  | .ok rows => match clashL g rows with
    | [] => .ok rows
    | (n, m, w) :: _ => .error (.clash (wayB rows n) (wayB rows m) w)
theorem ClashOk.lt {cl : List (Nat × Nat × Nat)} (h : ClashOk g rows cl) {x : Nat × Nat × Nat} (hx : x ∈ cl) : x.1 < rows.length ∧ x.2.1 < rows.length := by
  obtain ⟨_, _, rn, rm, h1, h2, _⟩ := (h.mem x).mp hx
  exact ⟨(List.getElem?_eq_some_iff.mp h1).1, (List.getElem?_eq_some_iff.mp h2).1⟩
end CW
namespace CW
open PySem PySem.Spec PyProof.Rows L2
def upR (rs : List (Nat × Nat)) (c : Nat) : Bool := rs.any fun r => (c &&& r.1) == r.2
def gateT (rs : List (Nat × Nat)) : D := .tup (rs.map keyT)
theorem v_fitsK (r : Nat × Nat) (c : Nat) : f_fits [keyT r, nD c] = .ok (.bl ((c &&& r.1) == r.2)) := by
  simp [f_fits, d_fits]
theorem up_loop (gd : D) (c : Nat) (rs : List (Nat × Nat)) (v : Option D) : match rs.find? fun r => (c &&& r.1) == r.2 with
    | some _ => forL [2] gN b1_is_up (rs.map keyT) [some gd, some (nD c), v] = .ret (.bl true)
    | none => ∃ v', forL [2] gN b1_is_up (rs.map keyT) [some gd, some (nD c), v] = .nx [some gd, some (nD c), v'] := by
  have h := forL_find (is := [2]) (asg := gN) (b := b1_is_up) keyT (fun r => [keyT r]) (fun _ => rfl) (fun ρ => ∃ v, ρ = [some gd, some (nD c), v]) (fun r => (c &&& r.1) == r.2) (fun _ => .bl true) rs [some gd, some (nD c), v] ⟨v, rfl⟩ (by
    rintro r ρ hr ⟨v, rfl⟩
    have hf := v_fitsK r c
    by_cases e : ((c &&& r.1) == r.2) = true
    · rw [if_pos e]
      rw [e] at hf
      simp [b1_is_up, setsE, hf]
    · rw [if_neg e]
      have e' : ((c &&& r.1) == r.2) = false := by simpa using e
      rw [e'] at hf
      exact ⟨[some gd, some (nD c), some (keyT r)], .inl (by simp [b1_is_up, setsE, hf]), _, rfl⟩)
  split at h
  · rename_i e; rw [e]; exact h
  · rename_i e
    rw [e]
    obtain ⟨ρ', h1, v', rfl⟩ := h
    exact ⟨v', h1⟩
theorem upR_find (rs : List (Nat × Nat)) (c : Nat) : upR rs c = (rs.find? fun r => (c &&& r.1) == r.2).isSome := by
  unfold upR
  rw [Bool.eq_iff_iff, List.find?_isSome, List.any_eq_true]
theorem v_is_upD (gd : D) (rs : List (Nat × Nat)) (hg : iSeq gd = .ok (rs.map keyT)) (c : Nat) : f_is_up [gd, nD c] = .ok (.bl (upR rs c)) := by
  have h := up_loop gd c rs none
  rw [upR_find]
  split at h
  · rename_i e
    rw [e]
    simp [f_is_up, d_is_up, hg, h]
  · rename_i e
    rw [e]
    obtain ⟨v', h1⟩ := h
    simp [f_is_up, d_is_up, hg, h1]
theorem v_is_upT (rs : List (Nat × Nat)) (c : Nat) : f_is_up [gateT rs, nD c] = .ok (.bl (upR rs c)) := v_is_upD _ rs rfl c
def phW (g : Graph) (w : Nat) (up : Bool) (x : Nat × Nat) : List Nat :=
  if wantsN g.steps x.1 w = (if up then 1 else -1) then toL "call" else if wantsN g.steps x.1 w = 0 ∧ x.2.testBit w = up then toL "still" else toL "other"
structure Closed (g : Graph) (ks : List (Nat × Nat)) : Prop where
  calm : ∀ x ∈ ks, Calm g x
  go : ∀ x ∈ ks, ∀ (k : Nat) (s : Step), g.steps[k]? = some s → canN s x.1 = true → nextB s x ∈ ks
def againN (g : Graph) (f : Nat × Nat → List Nat) (rs : List (Nat × Nat)) (x : Nat × Nat) (k : Nat) : Bool := match g.steps[k]? with
  | some s => canN s x.1 && (f (nextB s x) == toL "still" && upR rs (nextB s x).2)
  | none => false
variable {g : Graph} {ks : List (Nat × Nat)} {f : Nat × Nat → List Nat} {rs : List (Nat × Nat)}
def goodAt (g : Graph) (f : Nat × Nat → List Nat) (rs : List (Nat × Nat)) (x : Nat × Nat) : Bool :=
  if f x = toL "still" then upR rs x.2 || !(List.range g.steps.length).any (againN g f rs x) else upR rs x.2 == decide (f x = toL "call")
def goodN (g : Graph) (f : Nat × Nat → List Nat) (ks : List (Nat × Nat)) (rs : List (Nat × Nat)) : Bool := ks.all (goodAt g f rs)
end CW
namespace CW
open PySem PySem.Spec PyProof.Rows L2
variable {g : Graph} {ks : List (Nat × Nat)} {f : Nat × Nat → List Nat}
structure Wide (full : Nat) (c : Nat) (off : List Nat) (care : Nat) : Prop where
  sub : ∀ i, care.testBit i = true → full.testBit i = true
  no : ∀ o ∈ off, o &&& care ≠ c &&& care
end CW
namespace CW
open PySem PySem.Spec PyProof.Rows L2
structure RowsGood (full : Nat) (rs : List (Nat × Nat)) : Prop where
  sub : ∀ r ∈ rs, ∀ i, r.1.testBit i = true → full.testBit i = true
  lev : ∀ r ∈ rs, r.2 &&& r.1 = r.2
  nd : rs.Nodup
variable {g : Graph} {ks : List (Nat × Nat)}
def orderN (g : Graph) (w : Nat) : List Nat := [w] ++ (List.range g.wires.length).filter fun k => decide (k ≠ w)
end CW
namespace CW
open PySem PySem.Spec PyProof.Rows L2

variable {g : Graph} {rows : List Row} {most : Nat}
abbrev NetE : Type := Nat × List (Nat × Nat) × List (Nat × Nat)
structure NetGood (g : Graph) (rows : List Row) (p : NetE) : Prop where
  lt : p.1 < g.wires.length
  up : goodN g (phW g p.1 true) (rows.map Row.key) p.2.1 = true
  dn : goodN g (phW g p.1 false) (rows.map Row.key) p.2.2 = true
  ur : RowsGood (bitsN (orderN g p.1)) p.2.1
  dr : RowsGood (bitsN (orderN g p.1)) p.2.2
  ul : p.2.1.length ≤ rows.length
  dl : p.2.2.length ≤ rows.length
  uw : p.2.1.length ≤ 2 ^ g.wires.length
  dw : p.2.2.length ≤ 2 ^ g.wires.length
end CW
namespace CW
open PySem PySem.Spec PyProof.Rows L2
theorem map_inj' {α β : Type} {f : α → β} (hf : ∀ a b, f a = f b → a = b) : ∀ {xs ys : List α}, xs.map f = ys.map f → xs = ys
  | [], [], _ => rfl
  | [], _ :: _, h => by simp at h
  | _ :: _, [], h => by simp at h
  | x :: xs, y :: ys, h => by
    simp only [List.map_cons, List.cons.injEq] at h
    rw [hf _ _ h.1, map_inj' hf h.2]
theorem wireD_inj {a b : List Nat × List Nat} (h : wireD a = wireD b) : a = b := by
  have h2 : [sD a.1, sD a.2] = [sD b.1, sD b.2] := D.tup.inj h
  simp only [List.cons.injEq, and_true] at h2
  exact Prod.ext (sD_inj.mp h2.1) (sD_inj.mp h2.2)
theorem natsT_inj {a b : List Nat} (h : D.tup (a.map nD) = D.tup (b.map nD)) : a = b := map_inj' (fun _ _ => nD_inj.mp) (D.tup.inj h)
theorem stepD_inj {a b : Step} (h : stepD a = stepD b) : a = b := by
  have h2 : [nD a.wire, .bl a.up, .tup (a.takes.map nD), .tup (a.fills.map nD)] = [nD b.wire, .bl b.up, .tup (b.takes.map nD), .tup (b.fills.map nD)] := D.tup.inj h
  simp only [List.cons.injEq, and_true] at h2
  obtain ⟨h3, h4, h5, h6⟩ := h2
  obtain ⟨aw, au, at_, af⟩ := a
  obtain ⟨bw, bu, bt, bf⟩ := b
  simp only at h3 h4 h5 h6
  rw [nD_inj.mp h3, D.bl.inj h4, natsT_inj h5, natsT_inj h6]
theorem graphD_inj {a b : Graph} (h : graphD a = graphD b) : a = b := by
  have h2 : [D.tup (a.wires.map wireD), .tup (a.steps.map stepD), nD a.marks, nD a.code] = [D.tup (b.wires.map wireD), .tup (b.steps.map stepD), nD b.marks, nD b.code] := D.tup.inj h
  simp only [List.cons.injEq, and_true] at h2
  obtain ⟨h3, h4, h5, h6⟩ := h2
  obtain ⟨aw, as_, am, ac⟩ := a
  obtain ⟨bw, bs, bm, bc⟩ := b
  simp only at h3 h4 h5 h6
  rw [map_inj' (fun _ _ => wireD_inj) (D.tup.inj h3), map_inj' (fun _ _ => stepD_inj) (D.tup.inj h4), nD_inj.mp h5, nD_inj.mp h6]
theorem graphD_uniq {o : Out D} {a b : Graph} (h1 : o = .ok (graphD a)) (h2 : o = .ok (graphD b)) : a = b := by
  rw [h1] at h2
  exact graphD_inj (Out.ok.inj h2)
variable {g : Graph} {ws : List (List Nat × List Nat)} {most : Nat} {rows : List Row}
theorem firstOff_none {own : Nat → Bool} {m : Nat} : firstOff own g m = none ↔ ∀ b ∈ cansN g m, ∀ a ∈ cansN g m, offPair own g m b a = false := by
  unfold firstOff
  rw [List.findSome?_eq_none_iff]
  constructor
  · intro h b hb a ha
    have := h b hb
    rw [Option.map_eq_none_iff, List.find?_eq_none] at this
    simpa using this a ha
  · intro h b hb
    rw [Option.map_eq_none_iff, List.find?_eq_none]
    intro a ha
    rw [h b hb a ha]
    simp
theorem offAt_none : offAt g rows = none ↔ ∀ r ∈ rows, firstOff (ownB g) g r.m = none := by
  unfold offAt
  rw [List.findSome?_eq_none_iff]
  constructor
  · intro h r hr
    obtain ⟨n, hn⟩ := List.getElem?_of_mem hr
    have := h (r, n) (by rw [List.mem_zipIdx_iff_getElem?]; simpa using hn)
    rwa [Option.map_eq_none_iff] at this
  · rintro h ⟨r, n⟩ hp
    have hr : rows[n]? = some r := by simpa using List.mem_zipIdx_iff_getElem?.mp hp
    rw [Option.map_eq_none_iff]
    exact h r (List.mem_of_getElem? hr)
theorem netOk_sound (h : NetOk g) : (∃ rows, soundX g 400 = .ok rows) ∨ ∃ w a b, soundX g 400 = .error (.off w a b) := by
  obtain ⟨_, S, sp, hS⟩ := h
  unfold soundX
  rw [standsX_space sp hS]
  dsimp only
  cases ho : offAt g (rowsB g 400) with
  | none => exact .inl ⟨_, rfl⟩
  | some r =>
    unfold offAt at ho
    obtain ⟨l1, p, l2, _, hp, _⟩ := List.findSome?_eq_some_iff.mp ho
    cases hf : firstOff (ownB g) g p.1.m with
    | none => rw [hf] at hp; cases hp
    | some q =>
      rw [hf] at hp
      cases hp
      exact .inr ⟨_, _, _, rfl⟩
def lwN (steps : List Step) (m w : Nat) : Int := match steps.filter fun s => s.wire == w && canT s m with
  | [] => 0
  | s :: _ => if s.up then 1 else -1
theorem ring_all (ns : List Int) (first n many : Nat) (h1 : 1 ≤ n) (h4 : n ≤ 4) (hm : many ≤ 6) : ∃ g, f_l_graph_3 [.scr ns, nD first, nD n, nD many] = .ok (graphD g) ∧ NetOk g ∧ LowG g ∧ GG g ∧ Live g ∧ NoOff g ∧ g.wires.length ≤ 10 ∧ g.code < 2 ^ g.wires.length := by
  obtain ⟨g, e, a, b, c, d, f⟩ := ring_live ns first n many h1 h4 hm
  obtain ⟨g1, r, h, e1⟩ := v_l_graph_3 ns first n many h1 h4 hm
  obtain rfl := graphD_uniq e e1
  exact ⟨g, e, a, b, c, d, f, by rw [h.wires]; omega, by rw [h.code, h.wires]; exact h.cl⟩
end CW
namespace CW
open PySem PySem.Spec PyProof.Rows L2
variable {g : Graph} {rows : List Row}
noncomputable def partN (g : Graph) (most : Nat) : Bool := match soundX g most with
  | .ok rows => decide (clashL g rows = [])
  | .error _ => false
end CW
namespace CW
open PySem PySem.Spec PyProof.Rows L2
def Ap (mk : Nat → Bool) (s t : Step) : Prop := (mk s.wire = true ∨ mk t.wire = true) → ∀ p, p ∈ s.takes → p ∈ t.takes → p ∈ t.fills ∧ p ∈ s.fills
theorem Ap.symm {mk : Nat → Bool} {s t : Step} (h : Ap mk s t) : Ap mk t s := fun o p a b => (h o.symm p b a).symm
def Apart (g : Graph) : Prop := g.steps.Pairwise (Ap (madeW g))
theorem Apart.at {g : Graph} (h : Apart g) {a b : Nat} {sa sb : Step} (ea : g.steps[a]? = some sa) (eb : g.steps[b]? = some sb) (hab : a ≠ b) : Ap (madeW g) sa sb := by
  have := List.pairwise_iff_getElem.mp h
  obtain ⟨ha, ea⟩ := List.getElem?_eq_some_iff.mp ea
  obtain ⟨hb, eb⟩ := List.getElem?_eq_some_iff.mp eb
  subst ea eb
  rcases Nat.lt_or_gt_of_ne hab with z | z
  · exact this a b ha hb z
  · exact (this b a hb ha z).symm
theorem apart_sound {g : Graph} (h : NetOk g) (ha : Apart g) : ∃ rows, soundX g 400 = .ok rows := by
  rcases netOk_sound h with h | ⟨w, a, b, e⟩
  · exact h
  exfalso
  obtain ⟨_, S, sp, hS⟩ := h
  unfold soundX at e
  rw [standsX_space sp hS] at e
  dsimp only at e
  have : offAt g (rowsB g 400) = none := offAt_none.mpr fun r _ => firstOff_none.mpr fun b hb a ha' => by
    obtain ⟨sa, ea, ca⟩ := cansN_mem.mp ha'
    obtain ⟨sb, eb, cb⟩ := cansN_mem.mp hb
    unfold offPair
    by_cases hab : a = b
    · subst hab; simp
    by_cases ho : ownB g a = true ∨ ownB g b = true
    · have hap := ha.at ea eb hab
      have ho2 : madeW g sa.wire = true ∨ madeW g sb.wire = true := ho.imp (fun z => by
        obtain ⟨s, hs, hm⟩ := ownB_iff.mp z
        rw [ea] at hs; cases hs
        exact (madeW_mem g _).mp hm) fun z => by
        obtain ⟨s, hs, hm⟩ := ownB_iff.mp z
        rw [eb] at hs; cases hs
        exact (madeW_mem g _).mp hm
      have hoff : offN g r.m a b = false := by
        unfold offN
        rw [ea, eb]
        dsimp only
        rw [Bool.not_eq_false']
        unfold canT
        rw [List.all_eq_true]
        intro p hp
        rw [can_eq] at ca
        have c1 : r.m.testBit p = true := List.all_eq_true.mp ca p hp
        unfold newM leftN
        rw [Nat.testBit_or, Nat.testBit_xor, bitsN_bit, bitsN_bit, c1]
        by_cases hq : p ∈ sb.takes
        · have := (hap ho2 p hp hq).1
          simp [this]
        · simp [hq]
      simp [hoff]
    · have h1 : ownB g a = false := by simpa using fun z => ho (.inl z)
      have h2 : ownB g b = false := by simpa using fun z => ho (.inr z)
      simp [h1, h2]
  rw [this] at e
  cases e
def chainS : List (Nat × Bool) → Nat → Nat → List Step
  | [], _, _ => []
  | [d], last, _ => [⟨d.1, d.2, [last], [0]⟩]
  | d :: e :: ds, last, spots => ⟨d.1, d.2, [last], [spots]⟩ :: chainS (e :: ds) spots (spots + 1)
theorem chainS_len : ∀ (ds : List (Nat × Bool)) (last spots : Nat), (chainS ds last spots).length = ds.length
  | [], _, _ => rfl
  | [_], _, _ => rfl
  | _ :: e :: ds, _, spots => by
    have := chainS_len (e :: ds) spots (spots + 1)
    unfold chainS
    rw [List.length_cons, this]
    rfl
theorem chainS_mem : ∀ (ds : List (Nat × Bool)) (last spots : Nat) (s : Step), s ∈ chainS ds last spots → ∃ i d, ds[i]? = some d ∧ s = ⟨d.1, d.2, [if i = 0 then last else spots + i - 1], [if i + 1 = ds.length then 0 else spots + i]⟩
  | [], _, _, s, h => by simp [chainS] at h
  | [d], last, spots, s, h => by
    have : s = ⟨d.1, d.2, [last], [0]⟩ := by simpa [chainS] using h
    exact ⟨0, d, rfl, by rw [this]; simp⟩
  | d :: e :: ds, last, spots, s, h => by
    unfold chainS at h
    rcases List.mem_cons.mp h with rfl | h
    · exact ⟨0, d, rfl, by simp⟩
    · obtain ⟨i, x, h1, h2⟩ := chainS_mem (e :: ds) spots (spots + 1) s h
      refine ⟨i + 1, x, by simpa using h1, ?_⟩
      rw [h2]
      have e1 : (if i = 0 then spots else spots + 1 + i - 1) = if i + 1 = 0 then last else spots + (i + 1) - 1 := by
        rw [if_neg (Nat.succ_ne_zero i)]
        split <;> omega
      have e2 : (if i + 1 = (e :: ds).length then 0 else spots + 1 + i) = if i + 1 + 1 = (d :: e :: ds).length then 0 else spots + (i + 1) := by
        rw [List.length_cons (a := d)]
        by_cases h : i + 1 = (e :: ds).length
        · rw [if_pos h, if_pos (by omega)]
        · rw [if_neg h, if_neg (by omega)]
          omega
      rw [e1, e2]
theorem chainS_pw : ∀ (ds : List (Nat × Bool)) (last spots : Nat), last < spots → (chainS ds last spots).Pairwise fun s t => ∀ p, p ∈ s.takes → p ∉ t.takes
  | [], _, _, _ => List.Pairwise.nil
  | [_], _, _, _ => List.pairwise_singleton _ _
  | d :: e :: ds, last, spots, h => by
    have ih := chainS_pw (e :: ds) spots (spots + 1) (by omega)
    unfold chainS
    refine List.pairwise_cons.mpr ⟨fun t ht p hp hq => ?_, ih⟩
    obtain ⟨i, x, _, h2⟩ := chainS_mem _ _ _ t ht
    have hp : p = last := by simpa using hp
    rw [h2] at hq
    have hq : p = if i = 0 then spots else spots + 1 + i - 1 := by simpa using hq
    split at hq <;> omega
end CW
namespace CW
open PySem PySem.Spec PyProof.Rows L2
def TkB (g : Graph) : Prop := ∀ s ∈ g.steps, s.takes.length ≤ 30
theorem tkF_one (f : Nat → List Nat) {i j : Nat} (h : i ≠ j) (s b : Nat) : (tkF f i j s b).length ≤ (f b).length + 1 := by
  unfold tkF putF
  by_cases h1 : b = i
  · subst h1
    rw [if_pos rfl, if_neg h, List.length_append, List.length_singleton]
    omega
  · rw [if_neg h1]
    split
    · rw [List.length_append, List.length_singleton]
      omega
    · omega
theorem tkL_one : ∀ (qs : List (Nat × Nat)) (s : Nat) (f : Nat → List Nat) (b : Nat), (∀ p ∈ qs, p.1 ≠ p.2) → (tkL qs s f b).length ≤ (f b).length + qs.length
  | [], _, _, _, _ => Nat.le_refl _
  | (i, j) :: qs, s, f, b, h => by
    have h1 := tkL_one qs (s + 2) (tkF f i j s) b fun p hp => h p (List.mem_cons_of_mem _ hp)
    have h2 : (tkF f i j s b).length ≤ (f b).length + 1 := tkF_one f (h (i, j) List.mem_cons_self) s b
    rw [List.length_cons]
    show (tkL qs (s + 2) (tkF f i j s) b).length ≤ _
    omega
theorem ring_tkB {g : Graph} {r : Ring} {n : Nat} (hr : RingG g r n) : TkB g := by
  intro s hs
  obtain ⟨t, ht⟩ := hr.steps
  have h1 : s ∈ (List.range (2 * n)).map (stepR r (tkL r.ps r.s0 fun _ => []) (flL r.ps r.s0 fun _ => [])) := by
    rw [ht] at hs
    rcases List.mem_append.mp hs with h | h
    · exact (List.drop_sublist _ _).subset h
    · exact (List.take_sublist _ _).subset h
  obtain ⟨d, _, rfl⟩ := List.mem_map.mp h1
  show (sortN (tkL r.ps r.s0 (fun _ => []) d)).length ≤ 30
  rw [sortN_length]
  have h2 := tkL_one r.ps r.s0 (fun _ => []) d fun p hp => by
    have := (hr.ps.lt p hp).1
    omega
  have h3 := hr.plen
  rw [List.length_nil] at h2
  omega
end CW
namespace CW
open PySem PySem.Spec PyProof.Rows L2
def bothQ (many own a b : Nat) : List (Nat × Bool) := (chN many own a).map (fun w => (w, true)) ++ (chN many own b).map (fun w => (w, false))
def deedsQ (many own a b p k : Nat) : List (Nat × Bool) := (k, true) :: ((bothQ many own a b).take p ++ [(k, false)] ++ (bothQ many own a b).drop p)
theorem chN_mod (many own c : Nat) : chN many own c = chN many own (c % own) := by
  unfold chN
  refine List.map_congr_left fun j _ => ?_
  rw [Nat.mod_add_mod]
theorem deedsN_eq (many own c k : Nat) : deedsN many own c k = deedsQ many own (c % own) (c / 2 % own) (c / 4 % (2 * own + 1)) k := by
  unfold deedsN deedsQ bothN bothQ
  rw [chN_mod many own c, chN_mod many own (c / 2)]
def preX (ds : List (Nat × Bool)) (i : Nat) : Nat := (ds.take i).foldl (fun c d => c ^^^ 2 ^ d.1) 0
def chkX (ds : List (Nat × Bool)) : Bool := ((List.range ds.length).all fun i => match ds[i]? with
  | some d => (preX ds i).testBit d.1 != d.2
  | none => true) && preX ds ds.length == 0
theorem preX_succ {ds : List (Nat × Bool)} {i : Nat} {d : Nat × Bool} (h : ds[i]? = some d) : preX ds (i + 1) = preX ds i ^^^ 2 ^ d.1 := by
  unfold preX
  rw [List.take_add_one, h, List.foldl_append]
  rfl
theorem chk_at {ds : List (Nat × Bool)} (h : chkX ds = true) {i : Nat} {d : Nat × Bool} (hd : ds[i]? = some d) : (preX ds i).testBit d.1 = !d.2 := by
  unfold chkX at h
  rw [Bool.and_eq_true, List.all_eq_true] at h
  have := h.1 i (List.mem_range.mpr (List.getElem?_eq_some_iff.mp hd).1)
  rw [hd] at this
  dsimp only at this
  revert this
  cases (preX ds i).testBit d.1 <;> cases d.2 <;> decide
theorem chk_end {ds : List (Nat × Bool)} (h : chkX ds = true) : preX ds ds.length = 0 := by
  unfold chkX at h
  rw [Bool.and_eq_true] at h
  exact by simpa using h.2
variable (many own : Nat) (cell : Nat → Nat)
variable {many own}
theorem words_comp2 {ev : Env → Out D} {i : Nat} {ρ : Env} (n : Nat) (kd : List Nat) (h : ∀ w, ∃ z : List Nat, ev (ρ.set i (some (nD w))) = .ok (wireD (z, kd))) :
    ∃ ws : List (List Nat × List Nat), ws.length = n ∧ (∀ x ∈ ws, x.2 = kd) ∧ compL [i] gN cYes ev ρ ((List.range n).map nD) = .ok (ws.map wireD) := by
  obtain ⟨x, hx⟩ : ∃ x : Nat → List Nat, ∀ w, ev (ρ.set i (some (nD w))) = .ok (wireD (x w, kd)) := ⟨fun w => (h w).choose, fun w => (h w).choose_spec⟩
  refine ⟨(List.range n).map fun w => (x w, kd), by simp, fun y hy => ?_, ?_⟩
  · obtain ⟨w, _, rfl⟩ := List.mem_map.mp hy
    rfl
  · rw [List.map_map]
    exact compL_map (is := [i]) (asg := gN) nD (fun k => [nD k]) (fun _ => rfl) (fun w => wireD (x w, kd)) (List.range n) fun w _ => hx w
structure AnyG (g : Graph) : Prop where
  net : NetOk g
  low : LowG g
  gg : GG g
  w10 : g.wires.length ≤ 10
  w1 : 1 ≤ g.wires.length
  cd : g.code < 2 ^ g.wires.length
  ap : Apart g
  tk30 : TkB g
theorem ring_any (ns : List Int) (first n many : Nat) (h1 : 1 ≤ n) (h4 : n ≤ 4) (hm : many ≤ 6) : ∃ g, f_l_graph_3 [.scr ns, nD first, nD n, nD many] = .ok (graphD g) ∧ AnyG g ∧ 2 ≤ g.steps.length ∧ g.wires.length ≤ 5 := by
  obtain ⟨g, e, a, b, c, d, f, h, i⟩ := ring_all ns first n many h1 h4 hm
  obtain ⟨g1, r, hr, e1⟩ := v_l_graph_3 ns first n many h1 h4 hm
  obtain rfl := graphD_uniq e e1
  refine ⟨g, e, ⟨a, b, c, h, by rw [hr.wires]; omega, i, ?_, ring_tkB hr⟩, by rw [hr.len]; omega, by rw [hr.wires]; omega⟩
  refine List.pairwise_iff_getElem.mpr fun i j hi hj hij _ p hp hq => absurd hq (hr.apart i j _ _ (List.getElem?_eq_getElem hi) (List.getElem?_eq_getElem hj) (by omega) p hp)
end CW
namespace CW
open PySem PySem.Spec PyProof.Rows L2
def cutG (g : Graph) (k : Nat) : Graph := ⟨g.wires, g.steps.take k ++ g.steps.drop (k + 1), g.marks, g.code⟩
theorem cut_sub (g : Graph) (k : Nat) : (cutG g k).steps.Sublist g.steps := by
  unfold cutG
  dsimp only
  rw [← List.eraseIdx_eq_take_drop_succ]
  exact List.eraseIdx_sublist _ _
theorem AnyG.cut {g : Graph} (h : AnyG g) {k : Nat} (hk : k < g.steps.length) (h2 : 2 ≤ g.steps.length) : AnyG (cutG g k) := by
  have hs := cut_sub g k
  have hm : ∀ s ∈ (cutG g k).steps, s ∈ g.steps := fun s h => hs.subset h
  have hl : (cutG g k).steps.length = g.steps.length - 1 := by
    unfold cutG
    dsimp only
    rw [← List.eraseIdx_eq_take_drop_succ, List.length_eraseIdx_of_lt hk]
  have hst : GraphSt (cutG g k) := ⟨by have := h.gg.st.1; omega, fun s z => h.gg.st.2 s (hm s z)⟩
  obtain ⟨_, S, sp, hS⟩ := h.net
  refine ⟨⟨hst, S, ⟨sp.beg, fun x hx i s hi hc => ?_⟩, hS⟩, ⟨h.low.1, fun s z => h.low.2 s (hm s z)⟩, ⟨hst, h.gg.w, by omega, by have := h.gg.s24; omega, fun s z => h.gg.wl s (hm s z), fun s z => h.gg.tk s (hm s z)⟩, h.w10, h.w1, h.cd, h.ap.sublist hs, fun s z => h.tk30 s (hm s z)⟩
  obtain ⟨j, hj⟩ := List.getElem?_of_mem (hm s (List.mem_of_getElem? hi))
  exact sp.go x hx j s hj hc
def widC (c at_ : Nat) (u : Bool) : Nat := (c % 2 ^ at_ ||| ((if u then 1 else 0) * 2 ^ at_)) ||| (c / 2 ^ at_ * 2 ^ (at_ + 1))
theorem widC_bit (c at_ : Nat) (u : Bool) (i : Nat) : (widC c at_ u).testBit i = if i < at_ then c.testBit i else if i = at_ then u else c.testBit (i - 1) := by
  unfold widC
  rw [Nat.testBit_or, Nat.testBit_or, Nat.testBit_mod_two_pow, ← Nat.shiftRight_eq_div_pow, ← Nat.shiftLeft_eq, ← Nat.shiftLeft_eq, Nat.testBit_shiftLeft, Nat.testBit_shiftLeft, Nat.testBit_shiftRight]
  have hu : ∀ j, (if u = true then 1 else 0 : Nat).testBit j = (decide (j = 0) && u) := fun j => by
    cases u
    · simp
    · cases j with
      | zero => rfl
      | succ j =>
        rw [decide_eq_false (Nat.succ_ne_zero j)]
        exact Nat.testBit_lt_two_pow (Nat.one_lt_two_pow (by omega))
  rw [hu]
  rcases Nat.lt_trichotomy i at_ with h | h | h
  · rw [if_pos h]
    have h1 : decide (i < at_) = true := decide_eq_true h
    have h2 : decide (i ≥ at_) = false := decide_eq_false (by omega)
    have h3 : decide (i ≥ at_ + 1) = false := decide_eq_false (by omega)
    simp [h1, h2, h3]
  · subst h
    rw [decide_eq_false (by omega : ¬ i ≥ i + 1), decide_eq_false (by omega : ¬ i < i), Nat.sub_self, decide_eq_true (Nat.le_refl i)]
    simp
  · rw [if_neg (by omega), if_neg (by omega)]
    have h1 : decide (i < at_) = false := decide_eq_false (by omega)
    have h2 : decide (i - at_ = 0) = false := decide_eq_false (by omega)
    have h3 : decide (i ≥ at_ + 1) = true := decide_eq_true h
    have h4 : at_ + (i - (at_ + 1)) = i - 1 := by omega
    rw [h1, h2, h3, h4]
    simp
def widW (at_ w : Nat) : Nat := w + (if at_ ≤ w then 1 else 0)
theorem widC_at (c at_ : Nat) (u : Bool) (w : Nat) : (widC c at_ u).testBit (widW at_ w) = c.testBit w := by
  rw [widC_bit]
  unfold widW
  by_cases h : at_ ≤ w
  · rw [if_pos h, if_neg (by omega), if_neg (by omega), Nat.add_sub_cancel]
  · rw [if_neg h, Nat.add_zero, if_pos (by omega)]
theorem widC_x (c at_ : Nat) (u : Bool) (w : Nat) : widC c at_ u ^^^ 2 ^ widW at_ w = widC (c ^^^ 2 ^ w) at_ u := Nat.eq_of_testBit_eq fun i => by
  rw [Nat.testBit_xor, widC_bit, widC_bit, Nat.testBit_two_pow, Nat.testBit_xor, Nat.testBit_xor, Nat.testBit_two_pow, Nat.testBit_two_pow]
  unfold widW
  by_cases h : at_ ≤ w
  · rw [if_pos h]
    by_cases h1 : i < at_
    · rw [if_pos h1, if_pos h1, decide_eq_false (by omega : ¬ w + 1 = i), decide_eq_false (by omega : ¬ w = i)]
    · rw [if_neg h1, if_neg h1]
      by_cases h2 : i = at_
      · rw [if_pos h2, if_pos h2, decide_eq_false (by omega : ¬ w + 1 = i), Bool.xor_false]
      · rw [if_neg h2, if_neg h2]
        have : decide (w + 1 = i) = decide (w = i - 1) := decide_eq_decide.mpr ⟨fun _ => by omega, fun _ => by omega⟩
        rw [this]
  · rw [if_neg h, Nat.add_zero]
    by_cases h1 : i < at_
    · rw [if_pos h1, if_pos h1]
    · rw [if_neg h1, if_neg h1, decide_eq_false (by omega : ¬ w = i)]
      by_cases h2 : i = at_
      · rw [if_pos h2, if_pos h2, Bool.xor_false]
      · rw [if_neg h2, if_neg h2, decide_eq_false (by omega : ¬ w = i - 1)]
def widS (at_ : Nat) (s : Step) : Step := ⟨widW at_ s.wire, s.up, s.takes, s.fills⟩
def widG (g : Graph) (at_ : Nat) (x : List Nat × List Nat) (u : Bool) : Graph := ⟨g.wires.take at_ ++ [x] ++ g.wires.drop at_, g.steps.map (widS at_), g.marks, widC g.code at_ u⟩
theorem wid_len (g : Graph) {at_ : Nat} (h : at_ ≤ g.wires.length) (x : List Nat × List Nat) (u : Bool) : (widG g at_ x u).wires.length = g.wires.length + 1 := by
  unfold widG
  simp
  omega
theorem wid_made (g : Graph) {at_ : Nat} (h : at_ ≤ g.wires.length) (x : List Nat × List Nat) (u : Bool) (w : Nat) : madeW (widG g at_ x u) (widW at_ w) = madeW g w := by
  unfold madeW widG widW
  dsimp only
  have hl : (g.wires.take at_).length = at_ := by rw [List.length_take]; omega
  by_cases z : at_ ≤ w
  · rw [if_pos z, List.getElem?_append_right (by rw [List.length_append, hl, List.length_singleton]; omega), List.length_append, hl, List.length_singleton, List.getElem?_drop, show at_ + (w + 1 - (at_ + 1)) = w by omega]
  · rw [if_neg z, Nat.add_zero, List.getElem?_append_left (by rw [List.length_append, hl]; omega), List.getElem?_append_left (by omega), List.getElem?_take, if_pos (by omega)]
theorem AnyG.wid {g : Graph} (h : AnyG g) {at_ : Nat} (ha : at_ ≤ g.wires.length) (h9 : g.wires.length ≤ 9) (x : List Nat × List Nat) (u : Bool) : AnyG (widG g at_ x u) := by
  have hl := wid_len g ha x u
  have hm : ∀ s ∈ (widG g at_ x u).steps, ∃ t ∈ g.steps, s = widS at_ t := fun s hs => by
    obtain ⟨t, ht, rfl⟩ := List.mem_map.mp hs
    exact ⟨t, ht, rfl⟩
  have hsl : (widG g at_ x u).steps.length = g.steps.length := List.length_map _
  have hw : ∀ t ∈ g.steps, widW at_ t.wire < g.wires.length + 1 := fun t ht => by
    have := h.gg.wl t ht
    unfold widW
    split <;> omega
  have hst : GraphSt (widG g at_ x u) := ⟨by have := h.gg.st.1; omega, fun s z => by
    obtain ⟨t, ht, rfl⟩ := hm s z
    have o := h.gg.st.2 t ht
    exact ⟨o.ok, by have := hw t ht; show widW at_ t.wire ≤ 1000000; omega, o.takes, o.fills, o.tl, o.fl⟩⟩
  obtain ⟨_, S, sp, hS⟩ := h.net
  refine ⟨⟨hst, S.map fun y => (y.1, widC y.2 at_ u), ⟨List.mem_map.mpr ⟨_, sp.beg, rfl⟩, fun y hy i s hi hc => ?_⟩, by rw [List.length_map]; exact hS⟩, ⟨h.low.1, fun s z => ?_⟩, ⟨hst, by omega, by rw [hsl]; exact h.gg.s1, by rw [hsl]; exact h.gg.s24, fun s z => ?_, fun s z => ?_⟩, by omega, by omega, ?_, ?_, fun s z => by
    obtain ⟨t, ht, rfl⟩ := hm s z
    exact h.tk30 t ht⟩
  · obtain ⟨y, hyS, rfl⟩ := List.mem_map.mp hy
    unfold widG at hi
    rw [List.getElem?_map] at hi
    obtain ⟨t, ht, rfl⟩ := Option.map_eq_some_iff.mp hi
    obtain ⟨b1, b2, b3⟩ := sp.go y hyS i t ht hc
    refine ⟨?_, b2, List.mem_map.mpr ⟨_, b3, ?_⟩⟩
    · unfold brokeN at b1 ⊢
      show ((widC y.2 at_ u).testBit (widW at_ t.wire) == t.up) = false
      rw [widC_at]
      exact b1
    · show (_, _) = (_, _)
      refine Prod.ext rfl ?_
      show widC (y.2 ^^^ 2 ^ t.wire) at_ u = widC y.2 at_ u ^^^ 2 ^ widW at_ t.wire
      rw [widC_x]
  · obtain ⟨t, ht, rfl⟩ := hm s z
    exact h.low.2 t ht
  · obtain ⟨t, ht, rfl⟩ := hm s z
    rw [hl]
    exact hw t ht
  · obtain ⟨t, ht, rfl⟩ := hm s z
    exact h.gg.tk t ht
  · refine Nat.lt_pow_two_of_testBit _ fun i hi => ?_
    show (widC g.code at_ u).testBit i = false
    rw [hl] at hi
    rw [widC_bit, if_neg (by omega), if_neg (by omega)]
    exact Nat.testBit_lt_two_pow (Nat.lt_of_lt_of_le h.cd (Nat.pow_le_pow_right (by decide) (by omega)))
  · refine List.pairwise_map.mpr (h.ap.imp fun {s t} z o => z ?_)
    have e1 : madeW (widG g at_ x u) (widS at_ s).wire = madeW g s.wire := wid_made g ha x u s.wire
    have e2 : madeW (widG g at_ x u) (widS at_ t).wire = madeW g t.wire := wid_made g ha x u t.wire
    rw [e1, e2] at o
    exact o
theorem v_l_wider {g : Graph} (h : AnyG g) {at_ : Nat} (ha : at_ ≤ g.wires.length) (z kd : List Nat) (u : Bool) : f_l_wider [graphD g, nD at_, sD kd, .bl u, sD z] = .ok (graphD (widG g at_ (z, kd) u)) := by
  have hw := h.w10
  have hs := h.gg.s24
  have hd : D.tup [.tup ((g.wires.take at_ ++ [(z, kd)] ++ g.wires.drop at_).map wireD), .tup ((g.steps.map (widS at_)).map stepD), nD g.marks, nD (widC g.code at_ u)] = graphD (widG g at_ (z, kd) u) := rfl
  have hc : compL [11, 12, 13, 14] (gT 4) cYes e1_l_wider [some (graphD g), some (nD at_), some (sD kd), some (.bl u), some (sD z), some (nD (g.code % 2 ^ at_)), some (nD (widC g.code at_ u)), none, some (wiresD g.wires), some (stepsD g.steps), some (nD g.marks), none, none, none, none] (g.steps.map stepD) = .ok ((g.steps.map (widS at_)).map stepD) := by
    rw [List.map_map]
    exact compL_map (is := [11, 12, 13, 14]) (asg := gT 4) stepD (fun s => [nD s.wire, .bl s.up, natsT s.takes, natsT s.fills]) gT_stepD (fun s => stepD (widS at_ s)) g.steps fun s _ => by
      have : D.tup [nD (s.wire + if at_ ≤ s.wire then 1 else 0), .bl s.up, natsT s.takes, natsT s.fills] = stepD (widS at_ s) := rfl
      rw [← this]
      generalize natsT s.takes = t1
      generalize natsT s.fills = t2
      simp [e1_l_wider]
  rw [← hd]
  have hwd : wiresD g.wires = .tup (g.wires.map wireD) := rfl
  have hsd : stepsD g.steps = .tup (g.steps.map stepD) := rfl
  rw [hwd, hsd] at hc
  have hle : at_ ≤ 1000000 := by omega
  have s1 : oSl none (some (nI at_)) (wiresD g.wires) = .ok (wiresD (g.wires.take at_)) := by
    show Out.ok (D.tup (cutL (g.wires.map wireD) none (some (nI at_)))) = _
    rw [cut_to, ← List.map_take]
    rfl
  have s2 : oSl (some (nI at_)) none (wiresD g.wires) = .ok (wiresD (g.wires.drop at_)) := by
    show Out.ok (D.tup (cutL (g.wires.map wireD) (some (nI at_)) none)) = _
    rw [cut_from, ← List.map_drop]
    rfl
  have hl1 : ((g.wires.take at_).map wireD).length ≤ 10 := by rw [List.length_map, List.length_take]; omega
  have hl2 : ((g.wires.drop at_).map wireD).length ≤ 10 := by rw [List.length_map, List.length_drop]; omega
  have a1 : oAdd (wiresD (g.wires.take at_)) (.tup [.tup [sD z, sD kd]]) = .ok (wiresD (g.wires.take at_ ++ [(z, kd)])) := by
    have e : wiresD (g.wires.take at_ ++ [(z, kd)]) = .tup ((g.wires.take at_).map wireD ++ [.tup [sD z, sD kd]]) := by
      unfold wiresD
      rw [List.map_append]
      rfl
    rw [e]
    unfold wiresD
    generalize (g.wires.take at_).map wireD = xs at hl1 ⊢
    have := le_line (show xs.length + 1 ≤ 1000000 by omega)
    simp [this]
  have a2 : oAdd (wiresD (g.wires.take at_ ++ [(z, kd)])) (wiresD (g.wires.drop at_)) = .ok (.tup ((g.wires.take at_ ++ [(z, kd)] ++ g.wires.drop at_).map wireD)) := by
    have hl3 : ((g.wires.take at_ ++ [(z, kd)]).map wireD).length ≤ 11 := by rw [List.length_map, List.length_append, List.length_take, List.length_singleton]; omega
    rw [List.map_append]
    unfold wiresD
    generalize (g.wires.take at_ ++ [(z, kd)]).map wireD = xs at hl3 ⊢
    generalize (g.wires.drop at_).map wireD = ys at hl2 ⊢
    have := le_line (show xs.length + ys.length ≤ 1000000 by omega)
    simp [this]
  have hsl : iSeq (stepsD g.steps) = .ok (g.steps.map stepD) := rfl
  have hgt : gT 4 (graphD g) = some [wiresD g.wires, stepsD g.steps, nD g.marks, nD g.code] := rfl
  have hl4 : (g.steps.map stepD).length ≤ sizeLine := le_line (by rw [List.length_map]; omega)
  have hu : (if u = true then 1 else 0) < 18446744073709551616 := by split <;> decide
  have hcd : g.code / 2 ^ at_ < 18446744073709551616 := Nat.lt_of_le_of_lt (Nat.div_le_self _ _) (Nat.lt_of_lt_of_le h.cd (Nat.le_trans (Nat.pow_le_pow_right (by decide) hw) (by decide)))
  have hp : 1 ≤ 2 ^ at_ := Nat.one_le_two_pow
  unfold widC at hc ⊢
  rw [← hwd, ← hsd] at hc
  have hle1 : at_ + 1 ≤ 1000000 := by omega
  clear hwd hsd hd hl1 hl2 h hw hs
  generalize graphD g = gd at *
  generalize wiresD g.wires = wd at *
  generalize stepsD g.steps = sd at *
  generalize D.tup ((g.wires.take at_ ++ [(z, kd)] ++ g.wires.drop at_).map wireD) = x3 at *
  generalize wiresD (g.wires.take at_ ++ [(z, kd)]) = x2 at *
  generalize wiresD (g.wires.take at_) = x1 at *
  generalize wiresD (g.wires.drop at_) = x4 at *
  generalize g.steps.map stepD = y1 at *
  generalize (g.steps.map (widS at_)).map stepD = y2 at *
  simp [f_l_wider, d_l_wider, hc, hle, hgt, hsl, s1, s2, a1, a2, hl4, hp, hu, hcd, hle1]
theorem letter_at {k : Nat} (hk : k < 10) : ∃ z, oIx (sD (toL "abcdefghij")) (nD k) = .ok (sD z) := by
  have hl : (toL "abcdefghij").length = 10 := rfl
  refine ⟨[(toL "abcdefghij")[k]], ?_⟩
  rw [ix_s (by omega), List.getElem?_eq_getElem (by omega)]
  rfl
end CW
namespace CW
open PySem PySem.Spec PyProof.Rows L2
structure Fit (g : Graph) : Prop where
  net : NetOk g
  gw : GraphW g
  w10 : g.wires.length ≤ 10
  w1 : 1 ≤ g.wires.length
  ap : Apart g
theorem AnyG.fit {g : Graph} (h : AnyG g) : Fit g := ⟨h.net, h.gg.gw, h.w10, h.w1, h.ap⟩
theorem Fit.sound {g : Graph} (h : Fit g) : ∃ rows, soundX g 400 = .ok rows := apart_sound h.net h.ap
theorem look_takes {s : Step} {L p : Nat} {b : Bool} : p ∈ (lookS L b s).takes ↔ p ∈ s.takes ∨ (b = true ∧ p = L) := by
  cases b with
  | false => simp [lookS]
  | true =>
    show p ∈ sortN (s.takes ++ [L]) ↔ _
    rw [sortN_mem, List.mem_append, List.mem_singleton]
    simp
theorem look_fillsM {s : Step} {L p : Nat} {b : Bool} : p ∈ (lookS L b s).fills ↔ p ∈ s.fills ∨ (b = true ∧ p = L) := by
  cases b with
  | false => simp [lookS]
  | true =>
    show p ∈ sortN (s.fills ++ [L]) ↔ _
    rw [sortN_mem, List.mem_append, List.mem_singleton]
    simp
theorem look_st2 {g : Graph} (hg : GraphSt g) {L : Nat} (hL : L < 64) (hs : ∀ s ∈ g.steps, L ∉ s.takes ∧ L ∉ s.fills) (hl : ∀ s ∈ g.steps, s.takes.length ≤ 61 ∧ s.fills.length ≤ 61) (f : Nat → Bool) : GraphSt (lookG g L f) := by
  refine ⟨by show (g.steps.zipIdx.map _).length ≤ 1000; rw [List.length_map, List.length_zipIdx]; exact hg.1, fun s' h' => ?_⟩
  obtain ⟨k, hk⟩ := List.mem_iff_getElem?.mp h'
  obtain ⟨s, hk2, rfl⟩ := lookG_at hk
  have h := List.mem_of_getElem? hk2
  obtain ⟨a1, a2⟩ := hs s h
  have hso := hg.2 s h
  obtain ⟨l1, l2⟩ := hl s h
  cases f k with
  | false => exact hso
  | true =>
    have nd : ∀ ks : List Nat, ks.Nodup → L ∉ ks → (sortN (ks ++ [L])).Nodup := fun ks h1 h2 => by
      rw [(sortN_perm _).nodup_iff, List.nodup_append]
      exact ⟨h1, by simp, fun a ha b hb e => h2 (by have : b = L := by simpa using hb
                                                    rw [← this, ← e]; exact ha)⟩
    have ln : ∀ ks : List Nat, (sortN (ks ++ [L])).length = ks.length + 1 := fun ks => by rw [(sortN_perm _).length_eq, List.length_append]; rfl
    refine ⟨⟨fun p hp => ?_, fun p hp => ?_⟩, hso.wire, nd _ hso.takes a1, nd _ hso.fills a2, ?_, ?_⟩
    · rcases List.mem_append.mp (sortN_mem.mp hp) with z | z
      · exact hso.ok.1 p z
      · rw [List.mem_singleton] at z; omega
    · rcases List.mem_append.mp (sortN_mem.mp hp) with z | z
      · exact hso.ok.2 p z
      · rw [List.mem_singleton] at z; omega
    · show (sortN (s.takes ++ [L])).length ≤ 1000000
      rw [ln]; omega
    · show (sortN (s.fills ++ [L])).length ≤ 1000000
      rw [ln]; omega
theorem Fit.look {g : Graph} (h : Fit g) {L : Nat} (hL : L < 64) (hm : g.marks.testBit L = false) (hs : ∀ s ∈ g.steps, L ∉ s.takes ∧ L ∉ s.fills) (hl : ∀ s ∈ g.steps, s.takes.length ≤ 61 ∧ s.fills.length ≤ 61) (f : Nat → Bool) : Fit (lookG g L f) := by
  have hst := look_st2 h.gw.1 hL hs hl f
  refine ⟨look_stands hm hs h.net hst, ⟨hst, h.gw.2⟩, h.w10, h.w1, List.pairwise_iff_getElem.mpr fun i j hi hj hij o p hp hq => ?_⟩
  obtain ⟨s, es, e1⟩ := lookG_at (List.getElem?_eq_getElem hi)
  obtain ⟨t, et, e2⟩ := lookG_at (List.getElem?_eq_getElem hj)
  rw [e1, e2] at o
  rw [e1] at hp
  rw [e2] at hq
  rw [e1, e2]
  rw [(look_wire (s := s) (f i)).1, (look_wire (s := t) (f j)).1] at o
  rw [look_takes] at hp hq
  rw [look_fillsM, look_fillsM]
  obtain ⟨hs1, _⟩ := hs s (List.mem_of_getElem? es)
  obtain ⟨ht1, _⟩ := hs t (List.mem_of_getElem? et)
  by_cases z : p = L
  · subst z
    have b1 := hp.resolve_left hs1
    have b2 := hq.resolve_left ht1
    exact ⟨.inr b2, .inr b1⟩
  · have p1 := hp.resolve_right fun y => z y.2
    have p2 := hq.resolve_right fun y => z y.2
    obtain ⟨a, b⟩ := h.ap.at es et (by omega) o p p1 p2
    exact ⟨.inl a, .inl b⟩
end CW
namespace CW
open PySem PySem.Spec PyProof.Rows L2
namespace Ring
variable (r : Ring)
theorem lv_out {i : Nat} (x : Nat) : ∀ n, (∀ d, d < n → r.w d ≠ i) → (r.lv x n).testBit i = r.code.testBit i
  | 0, _ => rfl
  | n + 1, h => by
    have ih := lv_out x n fun d hd => h d (by omega)
    rw [lv]
    split
    · rw [Nat.testBit_xor, ih, Nat.testBit_two_pow_of_ne (h n (by omega)), Bool.xor_false]
    · exact ih
theorem comp_bit {n x d : Nat} (h : d < n) : (x ^^^ (2 ^ n - 1)).testBit d = !x.testBit d := by
  rw [Nat.testBit_xor, ones_bit h, Bool.xor_true]
end Ring
theorem RingG.comp {g : Graph} {r : Ring} {n : Nat} (h : RingG g r n) (x : Nat) : (r.mrk (x ^^^ (2 ^ r.os.length - 1)), r.lv (x ^^^ (2 ^ r.os.length - 1)) r.os.length) = (r.mrk x, r.lv x r.os.length) := by
  refine Prod.ext ?_ ?_
  · show r.mrk _ = r.mrk _
    unfold Ring.mrk
    congr 1
    refine List.map_congr_left fun p hp => ?_
    obtain ⟨⟨i, j⟩, t⟩ := p
    have hm : (i, j) ∈ r.ps := by
      obtain ⟨h1, h2⟩ := List.mem_zipIdx' hp
      rw [h2]
      exact List.getElem_mem _
    obtain ⟨h1, h2⟩ := h.lt_os hm
    dsimp only
    rw [Ring.comp_bit (by omega), Ring.comp_bit h2]
    cases x.testBit i <;> cases x.testBit j <;> rfl
  · show r.lv _ _ = r.lv _ _
    refine Nat.eq_of_testBit_eq fun i => ?_
    by_cases hi : ∀ d, d < r.os.length → r.w d ≠ i
    · rw [r.lv_out _ _ hi, r.lv_out _ _ hi]
    · obtain ⟨d, hd⟩ := Classical.not_forall.mp hi
      obtain ⟨hd, hw⟩ := Classical.not_imp.mp hd
      have hw := Classical.not_not.mp hw
      obtain ⟨a, b, hab, hdab⟩ := h.two hd
      have hwa : r.w a = i := by
        rcases hdab with rfl | rfl
        · exact hw
        · rw [hab.w]; exact hw
      have ha := hab.lt
      have hb := hab.bl
      rw [← hwa, r.lv_bit hab _ _ (Nat.le_refl _), r.lv_bit hab _ _ (Nat.le_refl _), Ring.comp_bit (by omega), Ring.comp_bit hb, decide_eq_true (by omega : a < r.os.length), decide_eq_true hb]
      cases r.code.testBit (r.w a) <;> cases x.testBit a <;> cases x.testBit b <;> rfl
theorem RingG.space2 {g : Graph} {r : Ring} {n : Nat} (h : RingG g r n) : ∃ S, Space g S ∧ S.length = 2 ^ (r.os.length - 1) := by
  have hl : 1 ≤ r.os.length := by have := h.len; have := h.n1; have := h.ord.len; omega
  have sp := h.space
  refine ⟨(List.range (2 ^ (r.os.length - 1))).map fun x => (r.mrk x, r.lv x r.os.length), ?_, by rw [List.length_map, List.length_range]⟩
  have sub : ∀ y ∈ (List.range (2 ^ r.os.length)).map (fun x => (r.mrk x, r.lv x r.os.length)), y ∈ (List.range (2 ^ (r.os.length - 1))).map fun x => (r.mrk x, r.lv x r.os.length) := fun y hy => by
    obtain ⟨x, hx, rfl⟩ := List.mem_map.mp hy
    have hx := List.mem_range.mp hx
    by_cases hs : x < 2 ^ (r.os.length - 1)
    · exact List.mem_map.mpr ⟨x, List.mem_range.mpr hs, rfl⟩
    · refine List.mem_map.mpr ⟨x ^^^ (2 ^ r.os.length - 1), List.mem_range.mpr (Nat.lt_pow_two_of_testBit _ fun i hi => ?_), h.comp x⟩
      by_cases e : i = r.os.length - 1
      · subst e
        rw [Ring.comp_bit (by omega)]
        have hp : 2 ^ r.os.length = 2 ^ (r.os.length - 1) * 2 := by rw [← Nat.pow_succ]; congr 1; omega
        have : x / 2 ^ (r.os.length - 1) = 1 := Nat.div_eq_of_lt_le (by omega) (by omega)
        rw [Nat.testBit_eq_decide_div_mod_eq, this]
        rfl
      · rw [Nat.testBit_xor, Nat.testBit_lt_two_pow (Nat.lt_of_lt_of_le hx (Nat.pow_le_pow_right (by decide) (by omega))), Nat.testBit_two_pow_sub_one, decide_eq_false (by omega)]
        rfl
  have sup : ∀ y ∈ (List.range (2 ^ (r.os.length - 1))).map (fun x => (r.mrk x, r.lv x r.os.length)), y ∈ (List.range (2 ^ r.os.length)).map fun x => (r.mrk x, r.lv x r.os.length) := fun y hy => by
    obtain ⟨x, hx, rfl⟩ := List.mem_map.mp hy
    have hx := List.mem_range.mp hx
    exact List.mem_map.mpr ⟨x, List.mem_range.mpr (Nat.lt_of_lt_of_le hx (Nat.pow_le_pow_right (by decide) (by omega))), rfl⟩
  exact ⟨sub _ sp.beg, fun x hx k s hk hc => by
    obtain ⟨b1, b2, b3⟩ := sp.go x (sup x hx) k s hk hc
    exact ⟨b1, b2, sub _ b3⟩⟩
theorem apart_space {g : Graph} {S : List (Nat × Nat)} {most : Nat} (sp : Space g S) (hS : S.length ≤ most) (ha : Apart g) : ∃ rows, soundX g most = .ok rows := by
  have : offAt g (rowsB g most) = none := offAt_none.mpr fun r _ => firstOff_none.mpr fun b hb a ha' => by
    obtain ⟨sa, ea, ca⟩ := cansN_mem.mp ha'
    obtain ⟨sb, eb, cb⟩ := cansN_mem.mp hb
    unfold offPair
    by_cases hab : a = b
    · subst hab; simp
    by_cases ho : ownB g a = true ∨ ownB g b = true
    · have hap := ha.at ea eb hab
      have ho2 : madeW g sa.wire = true ∨ madeW g sb.wire = true := ho.imp (fun z => by
        obtain ⟨s, hs, hm⟩ := ownB_iff.mp z
        rw [ea] at hs; cases hs
        exact (madeW_mem g _).mp hm) fun z => by
        obtain ⟨s, hs, hm⟩ := ownB_iff.mp z
        rw [eb] at hs; cases hs
        exact (madeW_mem g _).mp hm
      have hoff : offN g r.m a b = false := by
        unfold offN
        rw [ea, eb]
        dsimp only
        rw [Bool.not_eq_false']
        unfold canT
        rw [List.all_eq_true]
        intro p hp
        rw [can_eq] at ca
        have c1 : r.m.testBit p = true := List.all_eq_true.mp ca p hp
        unfold newM leftN
        rw [Nat.testBit_or, Nat.testBit_xor, bitsN_bit, bitsN_bit, c1]
        by_cases hq : p ∈ sb.takes
        · have := (hap ho2 p hp hq).1
          simp [this]
        · simp [hq]
      simp [hoff]
    · have h1 : ownB g a = false := by simpa using fun z => ho (.inl z)
      have h2 : ownB g b = false := by simpa using fun z => ho (.inr z)
      simp [h1, h2]
  refine ⟨rowsB g most, ?_⟩
  unfold soundX
  rw [standsX_space sp hS]
  dsimp only
  rw [this]
structure S64 (g : Graph) : Prop where
  mks : g.marks < 2 ^ 64
  sp : ∀ s ∈ g.steps, (∀ p ∈ s.takes, p < 64) ∧ ∀ p ∈ s.fills, p < 64
theorem S64.used {g : Graph} {p : Nat} (h : S64 g) (hu : Used g p) : p < 64 := by
  rcases hu with hu | ⟨s, hs, hu⟩
  · refine Classical.byContradiction fun hge => ?_
    rw [Nat.testBit_lt_two_pow (Nat.lt_of_lt_of_le h.mks (Nat.pow_le_pow_right (by decide) (by omega)))] at hu
    cases hu
  · rcases hu with hu | hu
    · exact (h.sp s hs).1 p hu
    · exact (h.sp s hs).2 p hu
structure QG (g : Graph) : Prop extends S64 g where
  w9 : g.wires.length ≤ 9
  s22 : g.steps.length ≤ 22
  vac : 2 ≤ (vacN g).length
theorem QG.two {g : Graph} (h : QG g) : ∃ lo hi t, vacN g = lo :: hi :: t := by
  have := h.vac
  match e : vacN g with
  | [] => rw [e] at this; simp at this
  | [_] => rw [e] at this; simp at this
  | lo :: hi :: t => exact ⟨lo, hi, t, rfl⟩
section
variable {g : Graph}
end
end CW
namespace CW
open PySem PySem.Spec PyProof.Rows L2

section
variable {g : Graph}
end
section
variable {cs : List Str} {G z a b : D}
end
end CW
namespace CW
open PySem PySem.Spec PyProof.Rows L2

structure RB (g : Graph) : Prop where
  sp : ∃ S, Space g S ∧ S.length ≤ 60
  st : GraphSt g
  dj : g.steps.Pairwise fun s t => ∀ p, p ∈ s.takes → p ∉ t.takes
  mks : g.marks < 2 ^ 53
  spt : ∀ s ∈ g.steps, (∀ p ∈ s.takes, p < 53) ∧ ∀ p ∈ s.fills, p < 53
  s6 : g.steps.length ≤ 6
  s2 : 2 ≤ g.steps.length
theorem RB.wires {g : Graph} (h : RB g) (ws : List (List Nat × List Nat)) : RB { g with wires := ws } := by
  obtain ⟨⟨S, sp, hS⟩, a, b, c, d, e, f⟩ := h
  exact ⟨⟨S, ⟨sp.beg, sp.go⟩, hS⟩, a, b, c, d, e, f⟩
theorem RB.sound {g : Graph} (h : RB g) : ∃ rows, soundX g 60 = .ok rows := by
  obtain ⟨S, sp, hS⟩ := h.sp
  exact apart_space sp hS (h.dj.imp fun z _ p a b => absurd b (z p a))
theorem used_lt {g : Graph} {B p : Nat} (mks : g.marks < 2 ^ B) (spt : ∀ s ∈ g.steps, (∀ p ∈ s.takes, p < B) ∧ ∀ p ∈ s.fills, p < B) (hu : Used g p) : p < B := by
  rcases hu with hu | ⟨s, hs, hu⟩
  · refine Classical.byContradiction fun hge => ?_
    rw [Nat.testBit_lt_two_pow (Nat.lt_of_lt_of_le mks (Nat.pow_le_pow_right (by decide) (by omega)))] at hu
    cases hu
  · rcases hu with hu | hu
    · exact (spt s hs).1 p hu
    · exact (spt s hs).2 p hu
theorem RB.vac {g : Graph} (h : RB g) : 2 ≤ (vacN g).length := nodup_sub [60, 61] (vacN g) (by decide) fun x hx => vacN_mem.mpr ⟨by simp at hx; omega, fun hu => by
  have := used_lt h.mks h.spt hu
  simp at hx
  omega⟩
theorem RB.gw {g : Graph} (h : RB g) (hw : g.wires.length ≤ 1000) : GraphW g := ⟨h.st, by omega⟩
section
variable {cs : List Str} (hcs : CsOk cs) (h5 : ("CalledOff" : Str) ∈ cs) {g : Graph} (h : QG g) (hg : GraphSt g) {z : List Nat} (h1 : f_is_name [sD z] = .ok (.bl true)) (h2 : ∀ w ∈ g.wires, w.1 ≠ z)
include hcs h5 h hg h1 h2
end
end CW
namespace CW
open PySem PySem.Spec PyProof.Rows L2
end CW
namespace CW
open PySem PySem.Spec PyProof.Rows L2
theorem ch_one3 (u v0 v1 v2 v3 v4 v5 v8 v9 v10 v11 v16 v17 v18 : Option D) (bl : List D) (hbl : bl.length ≤ 1000) (at_ last spots : Nat) (p : Nat × Bool) (acc : List Step) (hl : acc.length ≤ 1000) {fill : Nat} (hf : (if at_ = bl.length then 0 else spots) = fill) :
    b1_l_choice_3 [u, v0, v1, v2, v3, v4, v5, some (stepsL acc), some (nD spots), v8, v9, v10, v11, some (.lst bl), some (nD last), some (nD at_), some (deedD p), v16, v17, v18] =
      .nx [u, v0, v1, v2, v3, v4, v5, some (stepsL (acc ++ [⟨p.1, p.2, [last], [fill]⟩])), some (nD (spots + 1)), v8, v9, v10, v11, some (.lst bl), some (nD fill), some (nD at_), some (deedD p), some (nD fill), v17, v18] := by
  have hm : (acc.map stepD).length = acc.length := List.length_map _
  have ha := lt_line (show acc.length < 1000000 by omega)
  rw [← snocL acc _]
  unfold stepsL
  generalize acc.map stepD = al at hm ⊢
  by_cases h : at_ = bl.length
  · rw [if_pos h] at hf
    subst hf
    simp [b1_l_choice_3, h, hm, ha]
  · rw [if_neg h] at hf
    subst hf
    simp [b1_l_choice_3, h, hm, ha]
theorem ch_loop3 (u v0 v1 v2 v3 v4 v5 v8 v9 v10 v11 v17 v18 : Option D) (bl : List D) (hbl : bl.length ≤ 1000) : ∀ (ds : List (Nat × Bool)) (a last spots : Nat) (acc : List Step) (v14 v15 v16 : Option D), a + ds.length = bl.length + 1 → acc.length + ds.length ≤ 1000 →
    ∃ (last' : Nat) (w14 w15 w16 : Option D),
      forL [15, 16] (gT 2) b1_l_choice_3 ((ds.zipIdx a).map fun p => .tup [nD p.2, deedD p.1]) [u, v0, v1, v2, v3, v4, v5, some (stepsL acc), some (nD spots), v8, v9, v10, v11, some (.lst bl), some (nD last), v14, v15, v16, v17, v18] =
        .nx [u, v0, v1, v2, v3, v4, v5, some (stepsL (acc ++ chainS ds last spots)), some (nD (spots + ds.length)), v8, v9, v10, v11, some (.lst bl), some (nD last'), w14, w15, w16, v17, v18]
  | [], a, last, spots, acc, v14, v15, v16, _, _ => ⟨last, v14, v15, v16, by simp [chainS]⟩
  | [d], a, last, spots, acc, v14, v15, v16, ha, hl => by
    rw [List.length_singleton] at ha hl
    have e := ch_one3 u v0 v1 v2 v3 v4 v5 v8 v9 v10 v11 v16 v17 v18 bl hbl a last spots d acc (by omega) (fill := 0) (if_pos (by omega))
    exact ⟨0, some (nD a), some (deedD d), some (nD 0), by rw [List.zipIdx_cons, List.map_cons, forL_nx (es := [nD a, deedD d]) _ _ rfl e]; rfl⟩
  | d :: d2 :: ds, a, last, spots, acc, v14, v15, v16, ha, hl => by
    rw [List.length_cons, List.length_cons] at ha hl
    have e := ch_one3 u v0 v1 v2 v3 v4 v5 v8 v9 v10 v11 v16 v17 v18 bl hbl a last spots d acc (by omega) (fill := spots) (if_neg (by omega))
    obtain ⟨last', w14, w15, w16, ih⟩ := ch_loop3 u v0 v1 v2 v3 v4 v5 v8 v9 v10 v11 v17 v18 bl hbl (d2 :: ds) (a + 1) spots (spots + 1) (acc ++ [⟨d.1, d.2, [last], [spots]⟩]) (some (nD a)) (some (deedD d)) (some (nD spots)) (by rw [List.length_cons]; omega) (by rw [List.length_append, List.length_singleton, List.length_cons]; omega)
    refine ⟨last', w14, w15, w16, ?_⟩
    rw [List.zipIdx_cons, List.map_cons, forL_nx (es := [nD a, deedD d]) _ _ rfl e, ih, List.append_assoc, List.length_cons (a := d)]
    have : spots + 1 + (d2 :: ds).length = spots + ((d2 :: ds).length + 1) := by omega
    rw [this]
    rfl
theorem ch_turn3 (ns : List Int) (first n many own k spots : Nat) (acc : List Step) (v2 v5 v9 v10 v11 v12 v13 v14 v15 v16 : Option D) (hm0 : 0 < many) (ho : 1 ≤ own) (ho2 : own ≤ 2) (hl : acc.length ≤ 500) :
    ∃ (w9 w10 w11 w12 w13 w14 w15 w16 : Option D),
      b2_l_choice_3 [some (.scr ns), some (nD first), v2, some (nD n), some (nD own), some (nD many), v5, some (stepsL acc), some (nD spots), some (nD k), v9, v10, v11, v12, v13, v14, v15, v16, none, none] =
        .nx [some (.scr ns), some (nD first), v2, some (nD n), some (nD own), some (nD many), v5, some (stepsL (acc ++ chainS (deedsN many own (mixN ns (first + 1 + k)) (k % many)) 0 spots)), some (nD (spots + (2 * own + 2))), some (nD k), w9, w10, w11, w12, w13, w14, w15, w16, none, none] := by
  have em := v_l_mix_2 ns (first + 1 + k)
  generalize mixN ns (first + 1 + k) = c at em ⊢
  have hdl := deeds_len many own c (k % many)
  have hbl := both_len many own c
  have hp : c / 4 % (2 * own + 1) < 2 * own + 1 := Nat.mod_lt _ (by omega)
  have c1 := compL_map (is := [18]) (asg := gN) (ev := e3_l_choice_3) (ρ := [some (.scr ns), some (nD first), v2, some (nD n), some (nD own), some (nD many), v5, none, some (nD spots), some (nD k), some (nD c), v10, v11, v12, v13, v14, v15, v16, none, none]) nD (fun k => [nD k]) (fun _ => rfl) (fun j => nD (many + (c + j) % own)) (List.range own) (fun j _ => by simp [e3_l_choice_3, show 0 < own by omega])
  have c2 := compL_map (is := [18]) (asg := gN) (ev := e4_l_choice_3) (ρ := [some (.scr ns), some (nD first), v2, some (nD n), some (nD own), some (nD many), v5, none, some (nD spots), some (nD k), some (nD c), some (natsD (chN many own c)), v11, v12, v13, v14, v15, v16, none, none]) nD (fun k => [nD k]) (fun _ => rfl) (fun j => nD (many + (c / 2 + j) % own)) (List.range own) (fun j _ => by simp [e4_l_choice_3, show 0 < own by omega])
  have c3 := compL_map (is := [19]) (asg := gN) (ev := e5_l_choice_3) (ρ := [some (.scr ns), some (nD first), v2, some (nD n), some (nD own), some (nD many), v5, none, some (nD spots), some (nD k), some (nD c), some (natsD (chN many own c)), some (natsD (chN many own (c / 2))), v12, v13, v14, v15, v16, none, none]) nD (fun k => [nD k]) (fun _ => rfl) (fun w => deedD (w, true)) (chN many own c) (fun j _ => by simp [e5_l_choice_3, deedD])
  have c4 := compL_map (is := [19]) (asg := gN) (ev := e6_l_choice_3) (ρ := [some (.scr ns), some (nD first), v2, some (nD n), some (nD own), some (nD many), v5, none, some (nD spots), some (nD k), some (nD c), some (natsD (chN many own c)), some (natsD (chN many own (c / 2))), v12, v13, v14, v15, v16, none, none]) nD (fun k => [nD k]) (fun _ => rfl) (fun w => deedD (w, false)) (chN many own (c / 2)) (fun j _ => by simp [e6_l_choice_3, deedD])
  have h1 : D.lst ((List.range own).map fun j => nD (many + (c + j) % own)) = natsD (chN many own c) := by
    unfold natsD chN
    rw [List.map_map]
    rfl
  have h2 : D.lst ((List.range own).map fun j => nD (many + (c / 2 + j) % own)) = natsD (chN many own (c / 2)) := by
    unfold natsD chN
    rw [List.map_map]
    rfl
  have h3 : ((chN many own c).map fun w => deedD (w, true)) ++ ((chN many own (c / 2)).map fun w => deedD (w, false)) = (bothN many own c).map deedD := by
    unfold bothN
    rw [List.map_append, List.map_map, List.map_map]
    rfl
  have h4 : .lst (deedD (k % many, true) :: (((bothN many own c).map deedD).take (c / 4 % (2 * own + 1)) ++ [deedD (k % many, false)] ++ ((bothN many own c).map deedD).drop (c / 4 % (2 * own + 1)))) = D.lst ((deedsN many own c (k % many)).map deedD) := by
    unfold deedsN
    rw [List.map_cons, List.map_append, List.map_append, List.map_take, List.map_drop]
    rfl
  have hbl2 : ((bothN many own c).map deedD).length = 2 * own := by rw [List.length_map, hbl]
  obtain ⟨last', w14, w15, w16, eL⟩ := ch_loop3 (some (.scr ns)) (some (nD first)) v2 (some (nD n)) (some (nD own)) (some (nD many)) v5 (some (nD k)) (some (nD c)) (some (natsD (chN many own c))) (some (natsD (chN many own (c / 2)))) none none (((bothN many own c).map deedD).take (c / 4 % (2 * own + 1)) ++ [deedD (k % many, false)] ++ ((bothN many own c).map deedD).drop (c / 4 % (2 * own + 1))) (by rw [List.length_append, List.length_append, List.length_take, List.length_drop, hbl2, List.length_singleton]; omega) (deedsN many own c (k % many)) 0 0 spots acc v14 v15 v16 (by rw [hdl, List.length_append, List.length_append, List.length_take, List.length_drop, hbl2, List.length_singleton]; omega) (by rw [hdl]; omega)
  rw [hdl] at eL
  refine ⟨some (nD c), some (natsD (chN many own c)), some (natsD (chN many own (c / 2))), some (.lst (((bothN many own c).map deedD).take (c / 4 % (2 * own + 1)) ++ [deedD (k % many, false)] ++ ((bothN many own c).map deedD).drop (c / 4 % (2 * own + 1)))), some (nD last'), w14, w15, w16, ?_⟩
  have hen : enumL ((deedsN many own c (k % many)).map deedD) = ((deedsN many own c (k % many)).zipIdx 0).map fun p => .tup [nD p.2, deedD p.1] := by
    rw [enumL_eq, List.zipIdx_map, List.map_map]
    rfl
  have hel : ((deedsN many own c (k % many)).map deedD).length ≤ sizeLine := le_line (by rw [List.length_map, hdl]; omega)
  rw [← hen] at eL
  have hcl : ∀ d, (chN many own d).length = own := fun d => by unfold chN; simp
  have q1 : own ≤ sizeLine := le_line (by omega)
  have q2 : own + own ≤ sizeLine := le_line (by omega)
  have q3 : 2 * own < sizeLine := lt_line (by omega)
  have q4 : c / 4 % (2 * own + 1) < 4611686018427387904 := by omega
  have d1 : D.tup [nD (k % many), .bl false] = deedD (k % many, false) := rfl
  have d2 : D.tup [nD (k % many), .bl true] = deedD (k % many, true) := rfl
  have lfd : lf (deedD (k % many, false)) = true := by simp [deedD]
  generalize hch : chainS (deedsN many own c (k % many)) 0 spots = cl at eL ⊢
  generalize (deedsN many own c (k % many)).map deedD = dl at h4 hel eL
  generalize (bothN many own c).map deedD = bl at h3 h4 hbl2 eL ⊢
  have q0 : own < 4611686018427387904 := by omega
  generalize hc1 : chN many own c = k1 at c1 c3 h1 h3 eL ⊢
  have hk1 : k1.length = own := hc1 ▸ hcl c
  generalize hc2 : chN many own (c / 2) = k2 at c2 c3 c4 h2 h3 eL ⊢
  have hk2 : k2.length = own := hc2 ▸ hcl (c / 2)
  rw [hc1] at c2 c4
  rw [List.append_assoc, List.singleton_append] at eL h4
  have q5 : 1 + (min (c / 4 % (2 * own + 1)) (2 * own) + (2 * own - c / 4 % (2 * own + 1) + 1)) ≤ sizeLine := le_line (by omega)
  simp [b2_l_choice_3, em, hm0, q0, q1, c1, h1, c2, h2, hk1, hk2, c3, c4, q2, h3, hbl2, q4, d1, d2, lfd, q3, q5, h4, eL]
end CW
namespace CW
open PySem PySem.Spec PyProof.Rows L2

theorem all_chk3 : ([1, 2, 3].all fun many => [1, 2].all fun own => (List.range own).all fun a => (List.range own).all fun b => (List.range (2 * own + 1)).all fun p => (List.range many).all fun k => chkX (deedsQ many own a b p k)) = true := by decide +kernel
theorem chk_ok3 {many own c k : Nat} (hm1 : 1 ≤ many) (hm : many ≤ 3) (ho1 : 1 ≤ own) (ho : own ≤ 2) (hk : k < many) : chkX (deedsN many own c k) = true := by
  rw [deedsN_eq]
  have h := all_chk3
  rw [List.all_eq_true] at h
  have h := h many (by simp; omega)
  rw [List.all_eq_true] at h
  have h := h own (by simp; omega)
  rw [List.all_eq_true] at h
  have h := h (c % own) (List.mem_range.mpr (Nat.mod_lt _ (by omega)))
  rw [List.all_eq_true] at h
  have h := h (c / 2 % own) (List.mem_range.mpr (Nat.mod_lt _ (by omega)))
  rw [List.all_eq_true] at h
  have h := h (c / 4 % (2 * own + 1)) (List.mem_range.mpr (Nat.mod_lt _ (by omega)))
  rw [List.all_eq_true] at h
  exact h k (List.mem_range.mpr hk)
variable (many own : Nat) (cell : Nat → Nat)
def dk3 (k : Nat) : List (Nat × Bool) := deedsN many own (cell k) (k % many)
def acc3 (a : Nat) : List Step := (List.range a).flatMap fun k => chainS (dk3 many own cell k) 0 (1 + k * (2 * own + 2))
theorem acc3_succ (a : Nat) : acc3 many own cell (a + 1) = acc3 many own cell a ++ chainS (dk3 many own cell a) 0 (1 + a * (2 * own + 2)) := by
  unfold acc3
  rw [List.range_succ, List.flatMap_append, List.flatMap_singleton]
theorem acc3_len : ∀ a, (acc3 many own cell a).length = a * (2 * own + 2)
  | 0 => by simp [acc3]
  | a + 1 => by
    have : (a + 1) * (2 * own + 2) = a * (2 * own + 2) + (2 * own + 2) := Nat.succ_mul a (2 * own + 2)
    rw [acc3_succ, List.length_append, acc3_len a, chainS_len, dk3, deeds_len]
    omega
def lvY (p : Nat) : Nat := if p = 0 then 0 else preX (dk3 many own cell ((p - 1) / (2 * own + 2))) ((p - 1) % (2 * own + 2) + 1)
theorem lvY_at {k i : Nat} (hi : i < 2 * own + 2) : lvY many own cell (1 + k * (2 * own + 2) + i) = preX (dk3 many own cell k) (i + 1) := by
  unfold lvY
  have e : 1 + k * (2 * own + 2) + i - 1 = i + k * (2 * own + 2) := by omega
  rw [if_neg (by omega), e, Nat.add_mul_div_right _ _ (by omega), Nat.add_mul_mod_self_right, Nat.div_eq_of_lt hi, Nat.mod_eq_of_lt hi, Nat.zero_add]
theorem acc3_mem {s : Step} {n : Nat} (hs : s ∈ acc3 many own cell n) : ∃ k i d, k < n ∧ i < 2 * own + 2 ∧ (dk3 many own cell k)[i]? = some d ∧ s = ⟨d.1, d.2, [if i = 0 then 0 else 1 + k * (2 * own + 2) + i - 1], [if i + 1 = 2 * own + 2 then 0 else 1 + k * (2 * own + 2) + i]⟩ := by
  unfold acc3 at hs
  obtain ⟨k, hk, hs⟩ := List.mem_flatMap.mp hs
  obtain ⟨i, d, h1, h2⟩ := chainS_mem _ _ _ _ hs
  have hl : (dk3 many own cell k).length = 2 * own + 2 := deeds_len _ _ _ _
  rw [hl] at h2
  exact ⟨k, i, d, List.mem_range.mp hk, by have := (List.getElem?_eq_some_iff.mp h1).1; omega, h1, h2⟩
variable {many own}
theorem ch_space3 {g : Graph} {n : Nat} (hm1 : 1 ≤ many) (hm : many ≤ 3) (ho1 : 1 ≤ own) (ho : own ≤ 2) (h1 : g.marks = 1) (h2 : g.code = 0) (hs : g.steps = acc3 many own cell n) : Space g ((List.range (1 + n * (2 * own + 2))).map fun p => (2 ^ p, lvY many own cell p)) := by
  refine one_space _ (lvY many own cell) 0 (by rw [List.mem_range]; omega) h1 h2 fun s h => ?_
  rw [hs] at h
  obtain ⟨k, i, d, hk, hi, hd, rfl⟩ := acc3_mem many own cell h
  have hc : chkX (dk3 many own cell k) = true := chk_ok3 hm1 hm ho1 ho (Nat.mod_lt _ (by omega))
  have hl : (dk3 many own cell k).length = 2 * own + 2 := deeds_len _ _ _ _
  have hkl : (k + 1) * (2 * own + 2) ≤ n * (2 * own + 2) := Nat.mul_le_mul_right _ (by omega)
  have hs1 := Nat.succ_mul k (2 * own + 2)
  rw [show (k + 1) * (2 * own + 2) = k * (2 * own + 2) + (2 * own + 2) from hs1] at hkl
  have eq : lvY many own cell (if i = 0 then 0 else 1 + k * (2 * own + 2) + i - 1) = preX (dk3 many own cell k) i := by
    by_cases h : i = 0
    · rw [if_pos h, h]; rfl
    · rw [if_neg h]
      have : 1 + k * (2 * own + 2) + i - 1 = 1 + k * (2 * own + 2) + (i - 1) := by omega
      rw [this, lvY_at many own cell (by omega), show i - 1 + 1 = i by omega]
  have er : lvY many own cell (if i + 1 = 2 * own + 2 then 0 else 1 + k * (2 * own + 2) + i) = preX (dk3 many own cell k) (i + 1) := by
    by_cases h : i + 1 = 2 * own + 2
    · rw [if_pos h]
      have := chk_end hc
      rw [hl, ← h] at this
      rw [this]; rfl
    · rw [if_neg h, lvY_at many own cell hi]
  refine ⟨_, _, rfl, rfl, ?_, fun _ => ⟨?_, ?_⟩⟩
  · rw [List.mem_range]
    split <;> omega
  · rw [eq]
    unfold brokeN
    dsimp only
    rw [chk_at hc hd]
    cases d.2 <;> rfl
  · rw [eq, er]
    exact (preX_succ hd).symm
theorem ch_apart3 {mk : Nat → Bool} {n : Nat} (hm0 : 0 < many) (hgiv : ∀ w, w < many → mk w = false) : (acc3 many own cell n).Pairwise (Ap mk) := by
  unfold acc3
  refine List.pairwise_flatMap.mpr ⟨fun k _ => ?_, ?_⟩
  · refine (chainS_pw _ 0 _ (by omega)).imp fun h _ p a b => absurd b (h p a)
  · have hl : ∀ k, (dk3 many own cell k).length = 2 * own + 2 := fun k => deeds_len _ _ _ _
    have h0 : ∀ k d, (dk3 many own cell k)[0]? = some d → d.1 = k % many := fun k d h => by
      unfold dk3 deedsN at h
      cases h
      rfl
    refine List.Pairwise.imp_of_mem ?_ (List.pairwise_lt_range (n := n))
    intro k j hk hj hkj x hx y hy hmk p hp hq
    have hk := List.mem_range.mp hk
    have hj := List.mem_range.mp hj
    obtain ⟨i, d, h1, rfl⟩ := chainS_mem _ _ _ _ hx
    obtain ⟨i', d', h1', rfl⟩ := chainS_mem _ _ _ _ hy
    have hi : i < 2 * own + 2 := by have := (List.getElem?_eq_some_iff.mp h1).1; rw [hl] at this; exact this
    have hi' : i' < 2 * own + 2 := by have := (List.getElem?_eq_some_iff.mp h1').1; rw [hl] at this; exact this
    have hp : p = if i = 0 then 0 else 1 + k * (2 * own + 2) + i - 1 := by simpa using hp
    have hq : p = if i' = 0 then 0 else 1 + j * (2 * own + 2) + i' - 1 := by simpa using hq
    have hkl : (k + 1) * (2 * own + 2) ≤ j * (2 * own + 2) := Nat.mul_le_mul_right _ (by omega)
    rw [show (k + 1) * (2 * own + 2) = k * (2 * own + 2) + (2 * own + 2) from Nat.succ_mul _ _] at hkl
    exfalso
    by_cases z : i = 0
    · subst z
      by_cases z' : i' = 0
      · subst z'
        dsimp only at hmk
        rw [h0 k d h1, h0 j d' h1', hgiv _ (Nat.mod_lt _ hm0), hgiv _ (Nat.mod_lt _ hm0)] at hmk
        simp at hmk
      · rw [if_pos rfl] at hp
        rw [if_neg z'] at hq
        omega
    · rw [if_neg z] at hp
      split at hq <;> omega
theorem ch_all3 {n : Nat} (ns : List Int) (first : Nat) (v2 v5 : Option D) (hm0 : 0 < many) (ho : 1 ≤ own) (ho2 : own ≤ 2) (hm : n ≤ 3) : ∀ (m a : Nat) (v8 v9 v10 v11 v12 v13 v14 v15 v16 : Option D), a + m = n →
    ∃ (w8 w9 w10 w11 w12 w13 w14 w15 w16 : Option D),
      forL [9] gN b2_l_choice_3 ((List.range' a m).map nD) [some (.scr ns), some (nD first), v2, some (nD n), some (nD own), some (nD many), v5, some (stepsL (acc3 many own (fun k => mixN ns (first + 1 + k)) a)), some (nD (1 + a * (2 * own + 2))), v8, v9, v10, v11, v12, v13, v14, v15, v16, none, none] =
        .nx [some (.scr ns), some (nD first), v2, some (nD n), some (nD own), some (nD many), v5, some (stepsL (acc3 many own (fun k => mixN ns (first + 1 + k)) n)), some (nD (1 + n * (2 * own + 2))), w8, w9, w10, w11, w12, w13, w14, w15, w16, none, none]
  | 0, a, v8, v9, v10, v11, v12, v13, v14, v15, v16, ha => by
    have : a = n := by omega
    subst this
    exact ⟨v8, v9, v10, v11, v12, v13, v14, v15, v16, rfl⟩
  | m + 1, a, v8, v9, v10, v11, v12, v13, v14, v15, v16, ha => by
    have hal : (acc3 many own (fun k => mixN ns (first + 1 + k)) a).length ≤ 500 := by
      rw [acc3_len]
      have : a * (2 * own + 2) ≤ 3 * (2 * own + 2) := Nat.mul_le_mul_right _ (by omega)
      omega
    obtain ⟨w9, w10, w11, w12, w13, w14, w15, w16, e⟩ := ch_turn3 ns first n many own a (1 + a * (2 * own + 2)) _ v2 v5 v9 v10 v11 v12 v13 v14 v15 v16 hm0 ho ho2 hal
    have hsum : (a + 1) * (2 * own + 2) = a * (2 * own + 2) + (2 * own + 2) := Nat.succ_mul _ _
    obtain ⟨x8, x9, x10, x11, x12, x13, x14, x15, x16, r2⟩ := ch_all3 ns first v2 v5 hm0 ho ho2 hm m (a + 1) (some (nD a)) w9 w10 w11 w12 w13 w14 w15 w16 (by omega)
    refine ⟨x8, x9, x10, x11, x12, x13, x14, x15, x16, ?_⟩
    rw [List.range'_succ, List.map_cons, forL_nx (es := [nD a]) _ _ rfl e]
    have : 1 + a * (2 * own + 2) + (2 * own + 2) = 1 + (a + 1) * (2 * own + 2) := by omega
    rw [this, ← r2, acc3_succ]
    rfl
def SpB (g : Graph) : Prop := ∃ S, Space g S ∧ S.length ≤ 63
theorem choice_any3 (ns : List Int) (first : Nat) : ∃ g, f_l_choice_3 [.scr ns, nD first] = .ok (graphD g) ∧ AnyG g ∧ 2 ≤ g.steps.length ∧ g.wires.length ≤ 5 ∧ SpB g ∧ TkB g := by
  have em := v_l_mix_2 ns first
  generalize mixN ns first = c at em
  have hn3 : 2 + c % 2 ≤ 3 := by omega
  have hn2 : 2 ≤ 2 + c % 2 := by omega
  have hown1 : 1 ≤ 1 + c / 2 % 2 := by omega
  have hown2 : 1 + c / 2 % 2 ≤ 2 := by omega
  generalize hM : 2 + c % 2 = n at hn3 hn2
  generalize hO : 1 + c / 2 % 2 = own at hown1 hown2
  obtain ⟨many, hmany2, hmany, hle⟩ : ∃ many : Nat, 1 ≤ many ∧ many ≤ 3 ∧ oIx (.lst [nD n, nD 1]) (nD (c / 4 % 2)) = .ok (nD many) := by
    rcases Nat.mod_two_eq_zero_or_one (c / 4) with h | h <;> rw [h]
    · exact ⟨n, by omega, hn3, rfl⟩
    · exact ⟨1, by omega, by omega, rfl⟩
  obtain ⟨ws1, wl1, wk1, e1⟩ := words_comp2 (ev := e1_l_choice_3) (i := 9) (ρ := [some (.scr ns), some (nD first), some (nD c), some (nD n), some (nD own), some (nD many), none, none, none, none, none, none, none, none, none, none, none, none, none, none]) many (toL "given") (fun w => by
    obtain ⟨z, _, hz⟩ := v_l_word (c / 8) w
    exact ⟨z, by simp [e1_l_choice_3, hz, wireD]⟩)
  obtain ⟨ws2, wl2, wk2, e2⟩ := words_comp2 (ev := e2_l_choice_3) (i := 9) (ρ := [some (.scr ns), some (nD first), some (nD c), some (nD n), some (nD own), some (nD many), some (.lst (ws1.map wireD)), none, none, none, none, none, none, none, none, none, none, none, none, none]) own (toL "made") (fun w => by
    obtain ⟨z, _, hz⟩ := v_l_word (c / 8) (many + w)
    exact ⟨z, by simp [e2_l_choice_3, hz, wireD]⟩)
  obtain ⟨w8, w9, w10, w11, w12, w13, w14, w15, w16, e3⟩ := ch_all3 ns first (many := many) (own := own) (some (nD c)) (some (.lst ((ws1 ++ ws2).map wireD))) (by omega) hown1 hown2 hn3 n 0 none none none none none none none none none (by omega)
  generalize hcell : (fun k => mixN ns (first + 1 + k)) = cell at e3
  have hz0 : acc3 many own cell 0 = [] := rfl
  rw [hz0] at e3
  have hmul : n * (2 * own + 2) ≤ 3 * 6 := Nat.mul_le_mul hn3 (by omega)
  have hmul2 : 2 * 4 ≤ n * (2 * own + 2) := Nat.mul_le_mul hn2 (by omega)
  have hal := acc3_len many own cell n
  have hwl : (ws1 ++ ws2).length = many + own := by rw [List.length_append, wl1, wl2]
  have hbd : ∀ s ∈ acc3 many own cell n, ∃ p q, s.takes = [p] ∧ s.fills = [q] ∧ p < 60 ∧ q < 60 ∧ s.wire < many + own := fun s hs => by
    obtain ⟨k, i, d, hk, hi, hd, rfl⟩ := acc3_mem many own cell hs
    have hkl : (k + 1) * (2 * own + 2) ≤ n * (2 * own + 2) := Nat.mul_le_mul_right _ (by omega)
    rw [show (k + 1) * (2 * own + 2) = k * (2 * own + 2) + (2 * own + 2) from Nat.succ_mul _ _] at hkl
    refine ⟨_, _, rfl, rfl, ?_, ?_, ?_⟩
    · split <;> omega
    · split <;> omega
    · exact deeds_lt many own (cell k) (k % many) (Nat.mod_lt _ (by omega)) (by omega) _ (List.mem_map.mpr ⟨d, List.mem_of_getElem? hd, rfl⟩)
  have hst : GraphSt ⟨ws1 ++ ws2, acc3 many own cell n, 1, 0⟩ := by
    refine ⟨by show (acc3 many own cell n).length ≤ 1000; omega, fun s hs => ?_⟩
    obtain ⟨p, q, h1, h2, h3, h4, h5⟩ := hbd s hs
    refine ⟨⟨fun k hk => ?_, fun k hk => ?_⟩, by omega, by rw [h1]; simp, by rw [h2]; simp, by rw [h1]; simp, by rw [h2]; simp⟩
    · rw [h1, List.mem_singleton] at hk; omega
    · rw [h2, List.mem_singleton] at hk; omega
  refine ⟨⟨ws1 ++ ws2, acc3 many own cell n, 1, 0⟩, ?_, ⟨⟨hst, _, ch_space3 cell hmany2 hmany hown1 hown2 rfl rfl rfl, ?_⟩, ⟨by show 1 < 2 ^ 61; decide, fun s hs => ?_⟩, ⟨hst, by show (ws1 ++ ws2).length ≤ 1000; omega, by show 1 ≤ (acc3 many own cell n).length; omega, by show (acc3 many own cell n).length ≤ 24; omega, fun s hs => ?_, fun s hs => ?_⟩, by show (ws1 ++ ws2).length ≤ 10; omega, by show 1 ≤ (ws1 ++ ws2).length; omega, by show 0 < 2 ^ (ws1 ++ ws2).length; exact Nat.two_pow_pos _, ?_, fun s hs => by obtain ⟨p, q, h1, _⟩ := hbd s hs; rw [h1]; exact (by decide : (1 : Nat) ≤ 30)⟩, by show 2 ≤ (acc3 many own cell n).length; omega, by show (ws1 ++ ws2).length ≤ 5; omega, ⟨_, ch_space3 cell hmany2 hmany hown1 hown2 rfl rfl rfl, by rw [List.length_map, List.length_range]; omega⟩, fun s hs => by obtain ⟨p, q, h1, _⟩ := hbd s hs; rw [h1]; exact (by decide : (1 : Nat) ≤ 30)⟩
  · have q0 : n < 4611686018427387904 := by omega
    have q1 : many < 4611686018427387904 := by omega
    have q2 : own < 4611686018427387904 := by omega
    have q6 : n ≤ sizeLine := le_line (by omega)
    have q3 : many ≤ sizeLine := le_line (by omega)
    have q4 : own ≤ sizeLine := le_line (by omega)
    have q5 : (ws1.map wireD).length + (ws2.map wireD).length ≤ sizeLine := le_line (by rw [List.length_map, List.length_map]; omega)
    have h0 : D.lst [] = stepsL [] := rfl
    have hwa : ws1.map wireD ++ ws2.map wireD = (ws1 ++ ws2).map wireD := List.map_append.symm
    have hr : List.range' 0 n = List.range n := (List.range_eq_range').symm
    rw [hr] at e3
    have hres : D.tup [.tup ((ws1 ++ ws2).map wireD), .tup ((acc3 many own cell n).map stepD), nD 1, nD 0] = graphD ⟨ws1 ++ ws2, acc3 many own cell n, 1, 0⟩ := rfl
    have ht : bTuple [stepsL (acc3 many own cell n)] = .ok (.tup ((acc3 many own cell n).map stepD)) := rfl
    have hz : 1 + 0 * (2 * own + 2) = 1 := by omega
    rw [hz] at e3
    rw [← hres]
    generalize (ws1 ++ ws2).map wireD = wa at hwa e3 ⊢
    generalize acc3 many own cell n = acc at ht e3 ⊢
    generalize acc.map stepD = al at ht ⊢
    generalize ws1.map wireD = wd1 at e1 e2 hwa q5
    generalize ws2.map wireD = wd2 at e2 hwa q5
    generalize stepsL acc = fl at e3 ht
    simp [f_l_choice_3, d_l_choice_3, em, hM, hO, hle, -ix_lst, q0, q6, q1, q2, q3, q4, e1, e2, q5, hwa, h0, e3, ht]
  · rw [List.length_map, List.length_range]; omega
  · obtain ⟨p, q, h1, h2, h3, h4, h5⟩ := hbd s hs
    refine ⟨fun k hk => ?_, fun k hk => ?_⟩
    · rw [h1, List.mem_singleton] at hk; omega
    · rw [h2, List.mem_singleton] at hk; omega
  · obtain ⟨p, q, h1, h2, h3, h4, h5⟩ := hbd s hs
    show s.wire < (ws1 ++ ws2).length
    omega
  · obtain ⟨p, q, h1, h2, h3, h4, h5⟩ := hbd s hs
    rw [h1]; simp
  · refine ch_apart3 cell (by omega) fun w hw => ?_
    unfold madeW
    dsimp only
    rw [List.getElem?_append_left (by omega), List.getElem?_eq_getElem (by omega)]
    have := wk1 _ (List.getElem_mem (l := ws1) (n := w) (by omega))
    simp only [Option.map_some, this, Option.getD_some]
    decide
theorem ring_any3 (ns : List Int) (first n many : Nat) (h1 : 1 ≤ n) (h4 : n ≤ 3) (hm : many ≤ 6) : ∃ g, f_l_graph_3 [.scr ns, nD first, nD n, nD many] = .ok (graphD g) ∧ AnyG g ∧ 2 ≤ g.steps.length ∧ g.wires.length ≤ 5 ∧ SpB g ∧ TkB g := by
  obtain ⟨g, e, a, b, c⟩ := ring_any ns first n many h1 (by omega) hm
  obtain ⟨g1, r, hr, e1⟩ := v_l_graph_3 ns first n many h1 (by omega) hm
  obtain rfl := graphD_uniq e e1
  obtain ⟨S, sp, hS⟩ := hr.space2
  have hl := hr.len
  have hol := hr.ord.len
  refine ⟨g, e, a, b, c, ⟨S, sp, ?_⟩, ring_tkB hr⟩
  rw [hS]
  exact Nat.le_trans (Nat.pow_le_pow_right (by decide) (show r.os.length - 1 ≤ 5 by omega)) (by decide)
theorem SpB.cut {g : Graph} (h : SpB g) (k : Nat) : SpB (cutG g k) := by
  obtain ⟨S, sp, hS⟩ := h
  refine ⟨S, ⟨sp.beg, fun x hx i s hi hc => ?_⟩, hS⟩
  obtain ⟨j, hj⟩ := List.getElem?_of_mem ((cut_sub g k).subset (List.mem_of_getElem? hi))
  exact sp.go x hx j s hj hc
theorem SpB.wid {g : Graph} (h : SpB g) (at_ : Nat) (x : List Nat × List Nat) (u : Bool) : SpB (widG g at_ x u) := by
  obtain ⟨S, sp, hS⟩ := h
  refine ⟨S.map fun y => (y.1, widC y.2 at_ u), ⟨List.mem_map.mpr ⟨_, sp.beg, rfl⟩, fun y hy i s hi hc => ?_⟩, by rw [List.length_map]; exact hS⟩
  obtain ⟨y, hyS, rfl⟩ := List.mem_map.mp hy
  unfold widG at hi
  rw [List.getElem?_map] at hi
  obtain ⟨t, ht, rfl⟩ := Option.map_eq_some_iff.mp hi
  obtain ⟨b1, b2, b3⟩ := sp.go y hyS i t ht hc
  refine ⟨?_, b2, List.mem_map.mpr ⟨_, b3, ?_⟩⟩
  · unfold brokeN at b1 ⊢
    show ((widC y.2 at_ u).testBit (widW at_ t.wire) == t.up) = false
    rw [widC_at]
    exact b1
  · refine Prod.ext rfl ?_
    show widC (y.2 ^^^ 2 ^ t.wire) at_ u = widC y.2 at_ u ^^^ 2 ^ widW at_ t.wire
    rw [widC_x]
theorem SpB.look {g : Graph} (h : SpB g) {L : Nat} {f : Nat → Bool} (hm : g.marks.testBit L = false) (hs : ∀ s ∈ g.steps, L ∉ s.takes ∧ L ∉ s.fills) : SpB (lookG g L f) := by
  obtain ⟨S, sp, hS⟩ := h
  refine ⟨_, look_space sp hm hs, ?_⟩
  rw [List.length_map]
  exact Nat.le_trans (List.length_filter_le _ _) hS
theorem TkB.cut {g : Graph} (h : TkB g) (k : Nat) : TkB (cutG g k) := fun s hs => h s ((cut_sub g k).subset hs)
theorem TkB.wid {g : Graph} (h : TkB g) (at_ : Nat) (x : List Nat × List Nat) (u : Bool) : TkB (widG g at_ x u) := fun s hs => by
  unfold widG at hs
  obtain ⟨t, ht, rfl⟩ := List.mem_map.mp hs
  exact h t ht
structure AnyB (g : Graph) : Prop extends AnyG g where
  sb : SpB g
  tb : TkB g
theorem AnyB.cut {g : Graph} (h : AnyB g) {k : Nat} (hk : k < g.steps.length) (h2 : 2 ≤ g.steps.length) : AnyB (cutG g k) := ⟨h.toAnyG.cut hk h2, h.sb.cut k, h.tb.cut k⟩
theorem AnyB.wid {g : Graph} (h : AnyB g) {at_ : Nat} (ha : at_ ≤ g.wires.length) (h9 : g.wires.length ≤ 9) (x : List Nat × List Nat) (u : Bool) : AnyB (widG g at_ x u) := ⟨h.toAnyG.wid ha h9 x u, h.sb.wid at_ x u, h.tb.wid at_ x u⟩
structure Fit5 (g : Graph) : Prop extends Fit g where
  sb : SpB g
  cd : g.code < 2 ^ g.wires.length
  wl : ∀ s ∈ g.steps, s.wire < g.wires.length
  tb : ∀ s ∈ g.steps, s.takes.length ≤ 31
  s1 : 1 ≤ g.steps.length
theorem AnyB.fit {g : Graph} (h : AnyB g) : Fit5 g := ⟨h.toAnyG.fit, h.sb, h.cd, h.gg.wl, fun s hs => Nat.le_succ_of_le (h.tb s hs), h.gg.s1⟩
end CW
namespace CW
open PySem PySem.Spec PyProof.Rows L2

theorem l4_in (a0 a1 v4 v5 v6 v7 v8 v9 v10 v11 : Option D) : ∀ (ps : List Nat) (h : ∀ p ∈ ps, p ≤ 1000000) (n : Nat) (v3 : Option D), ∃ w3, forL [3] gN b1_l_lookers_4 (ps.map nD) [a0, a1, some (nD n), v3, v4, v5, v6, v7, v8, v9, v10, v11] = .nx [a0, a1, some (nD (ps.foldl (fun n k => n ||| 2 ^ k) n)), w3, v4, v5, v6, v7, v8, v9, v10, v11]
  | [], _, n, v3 => ⟨v3, rfl⟩
  | p :: ps, h, n, v3 => by
    obtain ⟨w3, ih⟩ := l4_in a0 a1 v4 v5 v6 v7 v8 v9 v10 v11 ps (fun q hq => h q (List.mem_cons_of_mem _ hq)) (n ||| 2 ^ p) (some (nD p))
    have hp := h p List.mem_cons_self
    refine ⟨w3, ?_⟩
    rw [List.map_cons, forL_nx (es := [nD p]) (r := [a0, a1, some (nD (n ||| 2 ^ p)), some (nD p), v4, v5, v6, v7, v8, v9, v10, v11]) _ _ rfl (by simp [b1_l_lookers_4, hp]), ih]
    rfl
theorem there4 : ∀ (ss : List Step) (m : Nat), (∀ s ∈ ss, (∀ p ∈ s.takes, p ≤ 1000000) ∧ ∀ p ∈ s.fills, p ≤ 1000000) → (∀ s ∈ ss, s.takes.length + s.fills.length ≤ 1000000) → ∀ (v0 v1 v3 v4 v5 v6 v7 v8 v9 v10 v11 : Option D), ∃ w3 w5 w6 w7 w8,
    forL [5, 6, 7, 8] (gT 4) b2_l_lookers_4 (ss.map stepD) [v0, v1, some (nD m), v3, v4, v5, v6, v7, v8, v9, v10, v11] = .nx [v0, v1, some (nD (thereN ss m)), w3, v4, w5, w6, w7, w8, v9, v10, v11]
  | [], m, _, _, v0, v1, v3, v4, v5, v6, v7, v8, v9, v10, v11 => ⟨v3, v5, v6, v7, v8, rfl⟩
  | s :: ss, m, h, hl, v0, v1, v3, v4, v5, v6, v7, v8, v9, v10, v11 => by
    obtain ⟨h1, h2⟩ := h s List.mem_cons_self
    have hl1 := hl s List.mem_cons_self
    obtain ⟨u3, e1⟩ := l4_in v0 v1 v4 (some (nD s.wire)) (some (.bl s.up)) (some (natsT s.takes)) (some (natsT s.fills)) v9 v10 v11 (s.takes ++ s.fills) (fun p hp => (List.mem_append.mp hp).elim (h1 p) (h2 p)) m v3
    obtain ⟨w3, w5, w6, w7, w8, ih⟩ := there4 ss ((s.takes ++ s.fills).foldl (fun n k => n ||| 2 ^ k) m) (fun s hs => h s (List.mem_cons_of_mem _ hs)) (fun s hs => hl s (List.mem_cons_of_mem _ hs)) v0 v1 u3 v4 (some (nD s.wire)) (some (.bl s.up)) (some (natsT s.takes)) (some (natsT s.fills)) v9 v10 v11
    have ha := add_natsT _ _ hl1
    have hq : iSeq (natsT (s.takes ++ s.fills)) = .ok ((s.takes ++ s.fills).map nD) := rfl
    refine ⟨w3, w5, w6, w7, w8, ?_⟩
    rw [List.map_cons, forL_nx (es := [nD s.wire, .bl s.up, natsT s.takes, natsT s.fills]) (r := [v0, v1, some (nD ((s.takes ++ s.fills).foldl (fun n k => n ||| 2 ^ k) m)), u3, v4, some (nD s.wire), some (.bl s.up), some (natsT s.takes), some (natsT s.fills), v9, v10, v11]) _ _ (gT_stepD s) (by
      generalize natsT (s.takes ++ s.fills) = t3 at *
      generalize natsT s.takes = t1 at *
      generalize natsT s.fills = t2 at *
      generalize (s.takes ++ s.fills).map nD = tl at *
      generalize (s.takes ++ s.fills).foldl (fun n k => n ||| 2 ^ k) m = m2 at *
      simp [b2_l_lookers_4, ha, hq, e1]), ih]
    rfl
theorem look4_last (a0 : Option D) (c L : Nat) (hL : L < 64) : ∀ (ss : List Step) (k : Nat) (done : List Step), done.length + ss.length ≤ 1000 → (∀ s ∈ ss, s.takes.length ≤ 1000 ∧ s.fills.length ≤ 1000) → ∀ (y2 v5 v6 v7 v8 v9 v10 v11 : Option D), ∃ w5 w6 w7 w8 w9 w10,
    forL [9, 10] (gT 2) b3_l_lookers_4 ((ss.zipIdx k).map fun p => .tup [nD p.2, stepD p.1]) [a0, some (nD c), y2, some (nD L), some (.lst (done.map stepD)), v5, v6, v7, v8, v9, v10, v11] =
      .nx [a0, some (nD c), y2, some (nD L), some (.lst ((done ++ (ss.zipIdx k).map fun p => lookS L ((c / 3).testBit p.2) p.1).map stepD)), w5, w6, w7, w8, w9, w10, v11]
  | [], k, done, _, _, y2, v5, v6, v7, v8, v9, v10, v11 => ⟨v5, v6, v7, v8, v9, v10, by simp⟩
  | s :: ss, k, done, hl, hs, y2, v5, v6, v7, v8, v9, v10, v11 => by
    obtain ⟨h1, h2⟩ := hs s List.mem_cons_self
    rw [List.length_cons] at hl
    have hb := bit_dm (c / 3) k
    have hd := lt_line (show done.length < 1000000 by omega)
    have hgt : gT 4 (stepD s) = some [nD s.wire, .bl s.up, .tup (s.takes.map nD), .tup (s.fills.map nD)] := gT_step s
    have key : ∃ w7 w8, b3_l_lookers_4 [a0, some (nD c), y2, some (nD L), some (.lst (done.map stepD)), v5, v6, v7, v8, some (nD k), some (stepD s), v11] =
        .nx [a0, some (nD c), y2, some (nD L), some (.lst ((done ++ [lookS L ((c / 3).testBit k) s]).map stepD)), some (nD s.wire), some (.bl s.up), w7, w8, some (nD k), some (stepD s), v11] := by
      cases hbit : (c / 3).testBit k with
      | false =>
        rw [hbit] at hb
        have hb2 : (c / 3 / 2 ^ k % 2 == 1) = false := hb.symm
        refine ⟨some (.tup (s.takes.map nD)), some (.tup (s.fills.map nD)), ?_⟩
        have hr : D.tup [nD s.wire, .bl s.up, .tup (s.takes.map nD), .tup (s.fills.map nD)] = stepD (lookS L false s) := rfl
        rw [List.map_append, List.map_cons, List.map_nil, ← hr]
        generalize stepD s = sd at hgt ⊢
        have hdl : (done.map stepD).length = done.length := List.length_map _
        generalize done.map stepD = dl at hdl ⊢
        simp [b3_l_lookers_4, hb2, hd, hgt, hdl]
      | true =>
        rw [hbit] at hb
        have hb2 : (c / 3 / 2 ^ k % 2 == 1) = true := hb.symm
        have e1 := v_sortT (s.takes ++ [L])
        have e2 := v_sortT (s.fills ++ [L])
        have e1' : bSortT [natsT (s.takes ++ [L])] = .ok ((sortN (s.takes ++ [L])).map nD) := e1
        have e2' : bSortT [natsT (s.fills ++ [L])] = .ok ((sortN (s.fills ++ [L])).map nD) := e2
        have a1 : oAdd (natsT s.takes) (natsT [L]) = .ok (natsT (s.takes ++ [L])) := by
          rw [natsT, natsT, oAdd_tup, List.length_map, List.length_map, if_pos (le_line (by rw [List.length_singleton]; omega)), ← List.map_append]
          rfl
        have a2 : oAdd (natsT s.fills) (natsT [L]) = .ok (natsT (s.fills ++ [L])) := by
          rw [natsT, natsT, oAdd_tup, List.length_map, List.length_map, if_pos (le_line (by rw [List.length_singleton]; omega)), ← List.map_append]
          rfl
        clear e1 e2
        refine ⟨some (.tup ((sortN (s.takes ++ [L])).map nD)), some (.tup ((sortN (s.fills ++ [L])).map nD)), ?_⟩
        have hr : D.tup [nD s.wire, .bl s.up, .tup ((sortN (s.takes ++ [L])).map nD), .tup ((sortN (s.fills ++ [L])).map nD)] = stepD (lookS L true s) := rfl
        rw [List.map_append (l₁ := done), List.map_cons (f := stepD), List.map_nil, ← hr]
        generalize stepD s = sd at hgt ⊢
        have hdl : (done.map stepD).length = done.length := List.length_map _
        generalize done.map stepD = dl at hdl ⊢
        simp [b3_l_lookers_4, hb2, hd, hgt, hdl, e1', e2', a1, a2]
    obtain ⟨u7, u8, e⟩ := key
    obtain ⟨w5, w6, w7, w8, w9, w10, e2⟩ := look4_last a0 c L hL ss (k + 1) (done ++ [lookS L ((c / 3).testBit k) s]) (by simp; omega) (fun q hq => hs q (List.mem_cons_of_mem _ hq)) y2 (some (nD s.wire)) (some (.bl s.up)) u7 u8 (some (nD k)) (some (stepD s)) v11
    refine ⟨w5, w6, w7, w8, w9, w10, ?_⟩
    rw [List.zipIdx_cons, List.map_cons, forL_nx (es := [nD k, stepD s]) _ _ rfl e, e2]
    simp
theorem v_l_lookers_4 {g : Graph} (h : AnyB g) (c : Nat) : ∃ g', f_l_lookers_4 [graphD g, nD c] = .ok (graphD g') ∧ Fit5 g' ∧ g'.wires = g.wires := by
  obtain ⟨hlen, hst⟩ := h.gg.st
  have hl := h.low
  have tl : ∀ s ∈ g.steps, s.takes.length ≤ 61 ∧ s.fills.length ≤ 61 := fun s h => ⟨nodup_lt (hst s h).takes (hl.2 s h).1, nodup_lt (hst s h).fills (hl.2 s h).2⟩
  have hbit := fun p => usedN_bit g p
  have hub : usedN g = thereN g.steps g.marks := Nat.eq_of_testBit_eq fun i => by
    rw [Bool.eq_iff_iff, usedN_bit, there_bit, Bool.or_eq_true, List.any_eq_true]
    unfold Used
    simp
  -- three spots are free
  have hfree : ∀ p, 61 ≤ p → p < 64 → p ∈ freeN (usedN g) := fun p h1 h2 => by
    refine List.mem_filter.mpr ⟨List.mem_range.mpr h2, ?_⟩
    rw [Bool.not_eq_true', ← Bool.not_eq_true, hbit p]
    rintro (e | ⟨s, hs, e⟩)
    · rw [Nat.testBit_lt_two_pow (Nat.lt_of_lt_of_le hl.1 (Nat.pow_le_pow_right (by decide) h1))] at e
      cases e
    · rcases e with e | e
      · have := (hl.2 s hs).1 p e; omega
      · have := (hl.2 s hs).2 p e; omega
  have h3 : 3 ≤ (freeN (usedN g)).length := nodup_sub [61, 62, 63] (freeN (usedN g)) (by decide) fun x hx => by
    simp only [List.mem_cons, List.not_mem_nil, or_false] at hx
    rcases hx with rfl | rfl | rfl <;> exact hfree _ (by decide) (by decide)
  have hc3 : c % 3 < (freeN (usedN g)).length := by omega
  obtain ⟨L, hL⟩ : ∃ L, (freeN (usedN g))[c % 3]? = some L := ⟨_, List.getElem?_eq_getElem hc3⟩
  obtain ⟨L1, L2⟩ := List.mem_filter.mp (List.mem_of_getElem? hL)
  have L64 := List.mem_range.mp L1
  rw [Bool.not_eq_true', ← Bool.not_eq_true, hbit L] at L2
  have hm : g.marks.testBit L = false := by
    rw [← Bool.not_eq_true]
    exact fun e => L2 (.inl e)
  have hs : ∀ s ∈ g.steps, L ∉ s.takes ∧ L ∉ s.fills := fun s hs => ⟨fun e => L2 (.inr ⟨s, hs, .inl e⟩), fun e => L2 (.inr ⟨s, hs, .inr e⟩)⟩
  refine ⟨lookG g L fun k => (c / 3).testBit k, ?_, ⟨h.toAnyG.fit.look L64 hm hs tl _, h.sb.look hm hs, h.cd, fun s' hs' => by
    obtain ⟨k, hk⟩ := List.mem_iff_getElem?.mp hs'
    obtain ⟨s, hk2, rfl⟩ := lookG_at hk
    rw [(look_wire (s := s) _).1]
    exact h.gg.wl s (List.mem_of_getElem? hk2), fun s' hs' => by
    obtain ⟨k, hk⟩ := List.mem_iff_getElem?.mp hs'
    obtain ⟨s, hk2, rfl⟩ := lookG_at hk
    have h1 := h.tb s (List.mem_of_getElem? hk2)
    cases (c / 3).testBit k with
    | false => exact Nat.le_succ_of_le h1
    | true =>
      show (sortN (s.takes ++ [L])).length ≤ 31
      rw [sortN_length, List.length_append, List.length_singleton]
      omega, by
    show 1 ≤ (g.steps.zipIdx.map _).length
    rw [List.length_map, List.length_zipIdx]
    exact h.gg.s1⟩, rfl⟩
  obtain ⟨v3, v5, v6, v7, v8, e1⟩ := there4 g.steps g.marks (fun s h => (hst s h).ok) (fun s h => by have := tl s h; omega) (some (graphD g)) (some (nD c)) none none none none none none none none none
  rw [← hub] at e1
  obtain ⟨w5, w6, w7, w8, w9, w10, e3⟩ := look4_last (some (graphD g)) c L L64 g.steps 0 [] (by simp; omega) (fun s h => by have := tl s h; omega) (some (nD (usedN g))) v5 v6 v7 v8 none none none
  generalize usedN g = th at e1 e3 hL hc3
  have e2 : compL [11] gN c1_l_lookers_4 (eV 11) [some (graphD g), some (nD c), some (nD th), v3, none, v5, v6, v7, v8, none, none, none] ((List.range 64).map nD) = .ok ((freeN th).map nD) :=
    compL_filter (is := [11]) (asg := gN) nD (fun k => [nD k]) (fun _ => rfl) (fun p => !th.testBit p) nD (List.range 64) (fun p _ => by
      have : (th / 2 ^ p % 2 == 0) = !th.testBit p := by rw [← up_eq, Nat.and_one_is_mod]
      simp [c1_l_lookers_4, this]) fun p _ _ => by simp
  have ee := enum_steps g.steps
  have hfl : (freeN th).length ≤ 64 := by
    unfold freeN
    have := List.length_filter_le (fun p => !th.testBit p) (List.range 64)
    rwa [List.length_range] at this
  simp only [List.map_nil, List.nil_append] at e3
  have hL2 : ((freeN th).map nD)[c % 3]? = some (nD L) := by rw [List.getElem?_map, hL]; rfl
  have hLl : L ≤ 1000000 := by omega
  show _ = Out.ok (D.tup [.tup (g.wires.map wireD), .tup ((g.steps.zipIdx.map fun p => lookS L ((c / 3).testBit p.2) p.1).map stepD), nD (g.marks ||| 2 ^ L), nD g.code])
  generalize (g.steps.zipIdx.map fun p => lookS L ((c / 3).testBit p.2) p.1).map stepD = nl at e3 ⊢
  generalize (freeN th).map nD = fl at e2 hL2
  have he : (g.steps.zipIdx.map fun p => D.tup [nD p.2, stepD p.1]) = stepsE g.steps := rfl
  rw [he] at e3
  have r64 := rg1_nD (a := 64) (by decide)
  have i1 : oIx (graphD g) (nD 1) = .ok (.tup (g.steps.map stepD)) := rfl
  have i0 : oIx (graphD g) (nD 0) = .ok (.tup (g.wires.map wireD)) := rfl
  have i2 : oIx (graphD g) (nD 2) = .ok (nD g.marks) := rfl
  have i3 : oIx (graphD g) (nD 3) = .ok (nD g.code) := rfl
  generalize graphD g = gd at *
  simp [f_l_lookers_4, d_l_lookers_4, e1, r64, e2, hL2, ee, e3, hLl, i0, i1, i2, i3]
theorem any_one2 {g : Graph} (h : AnyB g) (more k : Nat) (hk : k < 10) (h9 : g.wires.length ≤ 9) (v0 v1 v2 v3 v4 v6 v9 v10 v11 : Option D) : ∃ at_ z kd u w10 w11, at_ ≤ g.wires.length ∧
    b1_l_any_graph_2 [v0, v1, v2, v3, v4, some (nD more), v6, some (nD k), some (graphD g), v9, v10, v11] = .nx [v0, v1, v2, v3, v4, some (nD more), v6, some (nD k), some (graphD (widG g at_ (z, kd) u)), v9, w10, w11] := by
  obtain ⟨z, hz⟩ := letter_at hk
  obtain ⟨kd, _, hkd⟩ := kind_at ((more / 10000 + k) % 2) (Nat.mod_lt _ (by decide))
  have hat : (more / 800 + 7 * k) % (g.wires.length + 1) ≤ g.wires.length := by
    have := Nat.mod_lt (more / 800 + 7 * k) (show 0 < g.wires.length + 1 by omega)
    omega
  have e := v_l_wider h.toAnyG hat z kd ((more / 20000 + k / 2) % 2 == 1)
  refine ⟨(more / 800 + 7 * k) % (g.wires.length + 1), z, kd, (more / 20000 + k / 2) % 2 == 1, some (nD ((more / 800 + 7 * k) % (g.wires.length + 1))), some (sD kd), hat, ?_⟩
  have i0 : oIx (graphD g) (nD 0) = .ok (wiresD g.wires) := ix_graph0 g
  have hl : bLen [wiresD g.wires] = .ok (nD g.wires.length) := len_wiresD _
  have hkd2 : oIx (.lst [sD (toL "given"), sD (toL "made")]) (nD ((more / 10000 + k) % 2)) = .ok (sD kd) := by rw [ix_lst, hkd]; rfl
  generalize graphD (widG g _ (z, kd) _) = gd2 at e ⊢
  generalize graphD g = gd at e i0 ⊢
  generalize wiresD g.wires = wd at i0 hl
  simp [-ix_lst, -ix_s', b1_l_any_graph_2, e, i0, hl, hkd2, hz, show 0 < g.wires.length + 1 by omega]
theorem any_wider2 (more : Nat) (v0 v1 v2 v3 v4 v6 v9 : Option D) : ∀ (m k : Nat) (g : Graph) (v7 v10 v11 : Option D), AnyB g → g.wires.length + m ≤ 10 → k + m ≤ 10 → ∃ g' w7 w10 w11, AnyB g' ∧
    forL [7] gN b1_l_any_graph_2 ((List.range' k m).map nD) [v0, v1, v2, v3, v4, some (nD more), v6, v7, some (graphD g), v9, v10, v11] = .nx [v0, v1, v2, v3, v4, some (nD more), v6, w7, some (graphD g'), v9, w10, w11]
  | 0, k, g, v7, v10, v11, h, _, _ => ⟨g, v7, v10, v11, h, rfl⟩
  | m + 1, k, g, v7, v10, v11, h, hw, hk => by
    obtain ⟨at_, z, kd, u, w10, w11, ha, e⟩ := any_one2 h more k (by omega) (by omega) v0 v1 v2 v3 v4 v6 v9 v10 v11
    have h2 := h.wid ha (by omega) (z, kd) u
    have hl := wid_len g ha (z, kd) u
    obtain ⟨g', x7, x10, x11, hg, r⟩ := any_wider2 more v0 v1 v2 v3 v4 v6 v9 m (k + 1) _ (some (nD k)) w10 w11 h2 (by omega) (by omega)
    refine ⟨g', x7, x10, x11, hg, ?_⟩
    rw [List.range'_succ, List.map_cons, forL_nx (es := [nD k]) _ _ rfl e]
    exact r
theorem v_l_any_graph_2 (ns : List Int) (first most arrows : Nat) (m1 : 1 ≤ most) (m4 : most ≤ 3) (ha : arrows ≤ 6) : ∃ g, f_l_any_graph_2 [.scr ns, nD first, nD most, nD arrows] = .ok (graphD g) ∧ Fit5 g := by
  have em := v_l_mix_2 ns first
  generalize mixN ns first = c at em
  obtain ⟨gc, ec, pc, lc, wc, bc, tc⟩ := choice_any3 ns (first + 1)
  have hmod : c / 3 % most < most := Nat.mod_lt _ (by omega)
  have hmod2 : c / 30 % (arrows + 1) < arrows + 1 := Nat.mod_lt _ (by omega)
  obtain ⟨gr, er, pr, lr, wr, br, tr⟩ := ring_any3 ns (first + 1) (1 + c / 3 % most) (c / 30 % (arrows + 1)) (by omega) (by omega) (by omega)
  obtain ⟨g1, k1, p1, l1, w1⟩ : ∃ g1, ((c % 3 = 0 ∧ g1 = gc) ∨ (c % 3 ≠ 0 ∧ g1 = gr)) ∧ AnyB g1 ∧ 2 ≤ g1.steps.length ∧ g1.wires.length ≤ 5 := by
    by_cases h : c % 3 = 0
    · exact ⟨gc, .inl ⟨h, rfl⟩, ⟨pc, bc, tc⟩, lc, wc⟩
    · exact ⟨gr, .inr ⟨h, rfl⟩, ⟨pr, br, tr⟩, lr, wr⟩
  have hgone : c / 1000 / 4 % g1.steps.length < g1.steps.length := Nat.mod_lt _ (by omega)
  obtain ⟨g2, v9, p2, w2, e2⟩ : ∃ g2 v9, AnyB g2 ∧ g2.wires = g1.wires ∧ i1_l_any_graph_2 [some (.scr ns), some (nD first), some (nD most), some (nD arrows), some (nD c), some (nD (c / 1000)), none, none, some (graphD g1), none, none, none] = .nx [some (.scr ns), some (nD first), some (nD most), some (nD arrows), some (nD c), some (nD (c / 1000)), none, none, some (graphD g2), v9, none, none] := by
    by_cases h : c / 1000 % 4 = 0
    · refine ⟨cutG g1 (c / 1000 / 4 % g1.steps.length), some (nD (c / 1000 / 4 % g1.steps.length)), p1.cut hgone l1, rfl, ?_⟩
      have i0 : oIx (graphD g1) (nD 0) = .ok (wiresD g1.wires) := ix_graph0 g1
      have i1 : oIx (graphD g1) (nD 1) = .ok (stepsD g1.steps) := ix_graph1 g1
      have i2 : oIx (graphD g1) (nD 2) = .ok (nD g1.marks) := rfl
      have i3 : oIx (graphD g1) (nD 3) = .ok (nD g1.code) := rfl
      have hl : bLen [stepsD g1.steps] = .ok (nD g1.steps.length) := by
        rw [stepsD, bLen_tupn, List.length_map]
      have hr : D.tup [wiresD g1.wires, stepsD (g1.steps.take (c / 1000 / 4 % g1.steps.length) ++ g1.steps.drop (c / 1000 / 4 % g1.steps.length + 1)), nD g1.marks, nD g1.code] = graphD (cutG g1 (c / 1000 / 4 % g1.steps.length)) := rfl
      have s24 := p1.gg.s24
      rw [← hr]
      generalize hk : c / 1000 / 4 % g1.steps.length = k at hgone ⊢
      have s1 : oSl none (some (nI k)) (stepsD g1.steps) = .ok (stepsD (g1.steps.take k)) := by rw [sl_stepsD, cut_to]
      have s2 : oSl (some (nI (k + 1))) none (stepsD g1.steps) = .ok (stepsD (g1.steps.drop (k + 1))) := by rw [sl_stepsD, cut_from]
      have s3 : oAdd (stepsD (g1.steps.take k)) (stepsD (g1.steps.drop (k + 1))) = .ok (stepsD (g1.steps.take k ++ g1.steps.drop (k + 1))) := by
        rw [stepsD, stepsD, oAdd_tup, List.length_map, List.length_map, if_pos (le_line (by rw [List.length_take, List.length_drop]; omega)), ← List.map_append]
        rfl
      generalize stepsD (g1.steps.take k ++ g1.steps.drop (k + 1)) = x3 at s3 ⊢
      generalize stepsD (g1.steps.take k) = x1 at s1 s3
      generalize stepsD (g1.steps.drop (k + 1)) = x2 at s2 s3
      generalize stepsD g1.steps = sd at s1 s2 i1 hl
      generalize wiresD g1.wires = wd at i0 ⊢
      generalize graphD g1 = gd at i0 i1 i2 i3 ⊢
      simp [i1_l_any_graph_2, h, i0, i1, i2, i3, hl, hk, s1, s2, s3, show 0 < g1.steps.length by omega]
    · refine ⟨g1, none, p1, rfl, ?_⟩
      generalize graphD g1 = gd
      simp [i1_l_any_graph_2, h]
  have hw2 : g2.wires.length ≤ 5 := by rw [w2]; exact w1
  obtain ⟨many, hm1, hm2⟩ : ∃ many, g2.wires.length + many ≤ 10 ∧ oIx (.lst [nD 0, nD 0, nD 0, nD 0, nD 1, nD 1, nD 2, nD (10 - g2.wires.length)]) (nD (c / 1000 / 100 % 8)) = .ok (nD many) := by
    have h8 : c / 1000 / 100 % 8 < 8 := Nat.mod_lt _ (by decide)
    generalize c / 1000 / 100 % 8 = j at h8
    rcases (by omega : j = 0 ∨ j = 1 ∨ j = 2 ∨ j = 3 ∨ j = 4 ∨ j = 5 ∨ j = 6 ∨ j = 7) with h | h | h | h | h | h | h | h <;> subst h
    · exact ⟨0, by omega, rfl⟩
    · exact ⟨0, by omega, rfl⟩
    · exact ⟨0, by omega, rfl⟩
    · exact ⟨0, by omega, rfl⟩
    · exact ⟨1, by omega, rfl⟩
    · exact ⟨1, by omega, rfl⟩
    · exact ⟨2, by omega, rfl⟩
    · exact ⟨10 - g2.wires.length, by omega, rfl⟩
  obtain ⟨g', w7, w10, w11, hg', e3⟩ := any_wider2 (c / 1000) (some (.scr ns)) (some (nD first)) (some (nD most)) (some (nD arrows)) (some (nD c)) (some (nD many)) v9 many 0 g2 none none none p2 hm1 (by have := p2.w1; omega)
  obtain ⟨gk, ek, fk, _⟩ := v_l_lookers_4 hg' (c / 17)
  obtain ⟨g5, k5, f5⟩ : ∃ g5, ((c / 1000 / 30 % 3 = 0 ∧ g5 = gk) ∨ (c / 1000 / 30 % 3 ≠ 0 ∧ g5 = g')) ∧ Fit5 g5 := by
    by_cases h : c / 1000 / 30 % 3 = 0
    · exact ⟨gk, .inl ⟨h, rfl⟩, fk⟩
    · exact ⟨g', .inr ⟨h, rfl⟩, hg'.fit⟩
  refine ⟨g5, ?_, f5⟩
  obtain ⟨d5, hd5, k5⟩ : ∃ d5, d5 = graphD g5 ∧ ((c / 1000 / 30 % 3 = 0 ∧ d5 = graphD gk) ∨ (c / 1000 / 30 % 3 ≠ 0 ∧ d5 = graphD g')) := ⟨_, rfl, k5.imp (fun h => ⟨h.1, by rw [h.2]⟩) fun h => ⟨h.1, by rw [h.2]⟩⟩
  rw [← hd5]
  have j0 : oIx (graphD g2) (nD 0) = .ok (wiresD g2.wires) := ix_graph0 g2
  have jl : bLen [wiresD g2.wires] = .ok (nD g2.wires.length) := len_wiresD _
  have hr : List.range' 0 many = List.range many := (List.range_eq_range').symm
  have hml : many ≤ sizeLine := le_line (by omega)
  have hm62 : many < 4611686018427387904 := by omega
  rw [hr] at e3
  have hw10 : g2.wires.length ≤ 10 := by omega
  obtain ⟨d1, hd1, k1⟩ : ∃ d1, d1 = graphD g1 ∧ ((c % 3 = 0 ∧ d1 = graphD gc) ∨ (c % 3 ≠ 0 ∧ d1 = graphD gr)) := ⟨_, rfl, k1.imp (fun h => ⟨h.1, by rw [h.2]⟩) fun h => ⟨h.1, by rw [h.2]⟩⟩
  rw [← hd1] at e2
  clear hd1 hd5 p1 p2 pc pr hg' w2 fk f5
  generalize graphD gr = dr at *
  generalize graphD gc = dc at *
  generalize graphD g2 = d2 at *
  generalize graphD g' = d3 at *
  generalize wiresD g2.wires = wd at *
  generalize graphD gk = d6 at *
  have hm0 : 0 < most := by omega
  rcases k1 with ⟨k1, rfl⟩ | ⟨k1, rfl⟩ <;> rcases k5 with ⟨k5, rfl⟩ | ⟨k5, rfl⟩
  · simp [f_l_any_graph_2, d_l_any_graph_2, em, k1, ec, e2, -ix_lst, j0, jl, hm2, hml, hm62, e3, hw10, k5, ek]
  · simp [f_l_any_graph_2, d_l_any_graph_2, em, k1, ec, e2, -ix_lst, j0, jl, hm2, hml, hm62, e3, hw10, k5]
  · simp [f_l_any_graph_2, d_l_any_graph_2, em, k1, er, e2, -ix_lst, j0, jl, hm2, hml, hm62, e3, hw10, hm0, k5, ek]
  · simp [f_l_any_graph_2, d_l_any_graph_2, em, k1, er, e2, -ix_lst, j0, jl, hm2, hml, hm62, e3, hw10, hm0, k5]
end CW
namespace CW
open PySem PySem.Spec PyProof.Rows L2
variable {g : Graph}
theorem filter_all {α : Type} (q : α → Bool) : ∀ xs : List α, ((xs.filter q).length == xs.length) = xs.all q
  | [] => rfl
  | x :: xs => by
    have ih := filter_all q xs
    have hl := List.length_filter_le q xs
    rw [List.filter_cons, List.all_cons]
    cases h : q x with
    | true => simpa using ih
    | false =>
      simp
      omega
theorem v_l_can_3 {k : Nat} {s : Step} (h : g.steps[k]? = some s) (hs : StepOk2 s) {m : Nat} {st : D} (h0 : oIx st (nD 0) = .ok (nD m)) : f_l_can_3 [graphD g, st, nD k] = .ok (.bl (canN s m)) := by
  have ix1 : oIx (graphD g) (nD 1) = .ok (stepsD g.steps) := ix_graph1 g
  have ixk : oIx (stepsD g.steps) (nD k) = .ok (stepD s) := by
    show oIx (.tup (g.steps.map stepD)) _ = _
    rw [ix_tup, List.getElem?_map, h]
    rfl
  have c1 : compL [4] gN c1_l_can_3 (eV 4) [some (graphD g), some st, some (nD k), some (natsT s.takes), none] (s.takes.map nD) = .ok ((s.takes.filter fun p => m.testBit p).map nD) :=
    compL_filter (is := [4]) (asg := gN) nD (fun k => [nD k]) (fun _ => rfl) (fun p => m.testBit p) nD s.takes (fun p _ => by
      have hb : (m / 2 ^ p % 2 == 1) = m.testBit p := (bit_dm _ _).symm
      simp [c1_l_can_3, h0, hb]) fun p _ _ => by simp
  have hf := filter_all (fun p => m.testBit p) s.takes
  have hc : canN s m = s.takes.all fun p => m.testBit p := by rw [can_eq]; rfl
  have hl := List.length_filter_le (fun p => m.testBit p) s.takes
  have htl := hs.tl
  have hsz : (s.takes.map nD).length ≤ sizeLine := le_line (by rw [List.length_map]; omega)
  have b1 : bLen [.lst ((s.takes.filter fun p => m.testBit p).map nD)] = .ok (nD (s.takes.filter fun p => m.testBit p).length) := by rw [bLen_lstn, List.length_map]
  have b2 : bLen [natsT s.takes] = .ok (nD s.takes.length) := len_natsT _
  have hq : iSeq (natsT s.takes) = .ok (s.takes.map nD) := rfl
  have z2 : oIx (stepD s) (nD 2) = .ok (natsT s.takes) := rfl
  rw [hc, ← hf]
  generalize (s.takes.filter fun p => m.testBit p).length = n1 at *
  generalize (s.takes.filter fun p => m.testBit p).map nD = l1 at *
  generalize s.takes.length = n2 at *
  generalize s.takes.map nD = l2 at *
  generalize natsT s.takes = td at *
  generalize stepD s = sd at *
  generalize stepsD g.steps = ssd at *
  generalize graphD g = gd at *
  simp [f_l_can_3, d_l_can_3, ix1, ixk, z2, hq, hsz, c1, b1, b2, -bLen_lstn]
theorem xor_loop (v0 v1 v2 v5 v6 v7 v8 : Option D) : ∀ (ps : List Nat), (∀ p ∈ ps, p ≤ 1000000) → ∀ (n : Nat) (v4 : Option D), ∃ w4, forL [4] gN b1_l_behind_2 (ps.map nD) [v0, v1, v2, some (nD n), v4, v5, v6, v7, v8] = .nx [v0, v1, v2, some (nD (ps.foldl (fun n p => n ^^^ 2 ^ p) n)), w4, v5, v6, v7, v8]
  | [], _, n, v4 => ⟨v4, rfl⟩
  | p :: ps, h, n, v4 => by
    obtain ⟨w4, ih⟩ := xor_loop v0 v1 v2 v5 v6 v7 v8 ps (fun q hq => h q (List.mem_cons_of_mem _ hq)) (n ^^^ 2 ^ p) (some (nD p))
    have hp := h p List.mem_cons_self
    exact ⟨w4, by rw [List.map_cons, forL_nx (es := [nD p]) (r := [v0, v1, v2, some (nD (n ^^^ 2 ^ p)), some (nD p), v5, v6, v7, v8]) _ _ rfl (by simp [b1_l_behind_2, hp]), ih]; rfl⟩
theorem or_loop (v0 v1 v2 v5 v6 v7 v8 : Option D) : ∀ (ps : List Nat), (∀ p ∈ ps, p ≤ 1000000) → ∀ (n : Nat) (v4 : Option D), ∃ w4, forL [4] gN b2_l_behind_2 (ps.map nD) [v0, v1, v2, some (nD n), v4, v5, v6, v7, v8] = .nx [v0, v1, v2, some (nD (ps.foldl (fun n p => n ||| 2 ^ p) n)), w4, v5, v6, v7, v8]
  | [], _, n, v4 => ⟨v4, rfl⟩
  | p :: ps, h, n, v4 => by
    obtain ⟨w4, ih⟩ := or_loop v0 v1 v2 v5 v6 v7 v8 ps (fun q hq => h q (List.mem_cons_of_mem _ hq)) (n ||| 2 ^ p) (some (nD p))
    have hp := h p List.mem_cons_self
    exact ⟨w4, by rw [List.map_cons, forL_nx (es := [nD p]) (r := [v0, v1, v2, some (nD (n ||| 2 ^ p)), some (nD p), v5, v6, v7, v8]) _ _ rfl (by simp [b2_l_behind_2, hp]), ih]; rfl⟩
theorem xor_fold : ∀ (ps : List Nat), ps.Nodup → ∀ (n i : Nat), (ps.foldl (fun n p => n ^^^ 2 ^ p) n).testBit i = (n.testBit i ^^ decide (i ∈ ps))
  | [], _, n, i => by simp
  | p :: ps, h, n, i => by
    obtain ⟨h1, h2⟩ := List.nodup_cons.mp h
    rw [List.foldl_cons, xor_fold ps h2, Nat.testBit_xor, Nat.testBit_two_pow]
    by_cases e : i = p
    · subst e
      simp [h1]
    · have e2 : ¬ p = i := fun z => e z.symm
      simp [e, e2]
theorem or_fold : ∀ (ps : List Nat) (n i : Nat), (ps.foldl (fun n p => n ||| 2 ^ p) n).testBit i = (n.testBit i || decide (i ∈ ps))
  | [], n, i => by simp
  | p :: ps, n, i => by
    rw [List.foldl_cons, or_fold ps, Nat.testBit_or, Nat.testBit_two_pow]
    by_cases e : i = p
    · subst e
      simp
    · have e2 : ¬ p = i := fun z => e z.symm
      simp [e, e2]
theorem v_l_behind_2 {k : Nat} {s : Step} (h : g.steps[k]? = some s) (hs : StepOk2 s) (x : Nat × Nat) : f_l_behind_2 [graphD g, keyT x, nD k] = .ok (keyT (nextB s x)) := by
  have ix1 : oIx (graphD g) (nD 1) = .ok (stepsD g.steps) := ix_graph1 g
  have ixk : oIx (stepsD g.steps) (nD k) = .ok (stepD s) := by
    show oIx (.tup (g.steps.map stepD)) _ = _
    rw [ix_tup, List.getElem?_map, h]
    rfl
  have hgt : gT 4 (stepD s) = some [nD s.wire, .bl s.up, natsT s.takes, natsT s.fills] := gT_stepD s
  obtain ⟨w4, e1⟩ := xor_loop (some (graphD g)) (some (keyT x)) (some (nD k)) (some (nD s.wire)) (some (.bl s.up)) (some (natsT s.takes)) (some (natsT s.fills)) s.takes hs.ok.1 x.1 none
  obtain ⟨w4', e2⟩ := or_loop (some (graphD g)) (some (keyT x)) (some (nD k)) (some (nD s.wire)) (some (.bl s.up)) (some (natsT s.takes)) (some (natsT s.fills)) s.fills hs.ok.2 (s.takes.foldl (fun n p => n ^^^ 2 ^ p) x.1) w4
  have hm : s.fills.foldl (fun n p => n ||| 2 ^ p) (s.takes.foldl (fun n p => n ^^^ 2 ^ p) x.1) = newM s x.1 := Nat.eq_of_testBit_eq fun i => by
    rw [or_fold, xor_fold _ hs.takes]
    unfold newM leftN
    rw [Nat.testBit_or, Nat.testBit_xor, bitsN_bit, bitsN_bit]
  rw [hm] at e2
  have q1 : iSeq (natsT s.takes) = .ok (s.takes.map nD) := rfl
  have q2 : iSeq (natsT s.fills) = .ok (s.fills.map nD) := rfl
  have hw := hs.wire
  have k0 := ix_keyT0 x
  have k1 := ix_keyT1 x
  have hr : keyT (nextB s x) = .tup [nD (newM s x.1), nD (x.2 ^^^ 2 ^ s.wire)] := rfl
  rw [hr]
  generalize newM s x.1 = m2 at *
  generalize s.takes.foldl (fun n p => n ^^^ 2 ^ p) x.1 = m1 at *
  generalize s.takes.map nD = l1 at *
  generalize s.fills.map nD = l2 at *
  generalize natsT s.takes = t1 at *
  generalize natsT s.fills = t2 at *
  generalize stepD s = sd at *
  generalize stepsD g.steps = ssd at *
  generalize keyT x = kx at *
  generalize graphD g = gd at *
  simp [f_l_behind_2, d_l_behind_2, ix1, ixk, hgt, k0, k1, q1, q2, e1, e2, hw]
theorem want_loop (hg : GraphSt g) {m : Nat} {st : D} (h0 : oIx st (nD 0) = .ok (nD m)) (w : Nat) : ∀ (post pre : List Step), g.steps = pre ++ post → ∀ (v3 : Option D),
    (∃ v, forL [3] gN b1_l_want ((List.range' pre.length post.length).map nD) [some (graphD g), some st, some (nD w), v3] = .nx [some (graphD g), some st, some (nD w), v] ∧ (post.filter fun s => s.wire == w && canT s m) = []) ∨
    ∃ s t, (post.filter fun s => s.wire == w && canT s m) = s :: t ∧ forL [3] gN b1_l_want ((List.range' pre.length post.length).map nD) [some (graphD g), some st, some (nD w), v3] = .ret (.int (if s.up then 1 else -1))
  | [], pre, _, v3 => .inl ⟨v3, rfl, rfl⟩
  | s :: post, pre, e, v3 => by
    have hk : g.steps[pre.length]? = some s := by rw [e, List.getElem?_append_right (Nat.le_refl _), Nat.sub_self]; rfl
    have hs := hg.2 s (List.mem_of_getElem? hk)
    have hc := v_l_can_3 hk hs h0
    rw [can_eq] at hc
    have ix1 : oIx (graphD g) (nD 1) = .ok (stepsD g.steps) := ix_graph1 g
    have ixk : oIx (stepsD g.steps) (nD pre.length) = .ok (stepD s) := by
      show oIx (.tup (g.steps.map stepD)) _ = _
      rw [ix_tup, List.getElem?_map, hk]
      rfl
    have z0 : oIx (stepD s) (nD 0) = .ok (nD s.wire) := rfl
    have z1 : oIx (stepD s) (nD 1) = .ok (.bl s.up) := rfl
    have ng : oNeg (nD 1) = .ok (.int (-1)) := rfl
    have pk : oIx (.lst [.int (-1), nD 1]) (nD (if s.up = true then 1 else 0)) = .ok (.int (if s.up then 1 else -1)) := by
      cases s.up <;> rfl
    rw [List.length_cons, List.range'_succ, List.map_cons]
    cases hq : (s.wire == w && canT s m) with
    | true =>
      refine .inr ⟨s, _, by rw [List.filter_cons, hq]; rfl, ?_⟩
      rw [Bool.and_eq_true] at hq
      obtain ⟨hw, hcan⟩ := hq
      rw [hcan] at hc
      refine forL_ret (es := [nD pre.length]) (x := .int (if s.up then 1 else -1)) _ _ rfl ?_
      show b1_l_want [some (graphD g), some st, some (nD w), some (nD pre.length)] = _
      have hw2 : s.wire = w := by simpa using hw
      generalize (if s.up then (1 : Int) else -1) = r at *
      generalize hun : (if s.up = true then 1 else 0) = un at *
      generalize stepD s = sd at *
      generalize stepsD g.steps = ssd at *
      generalize graphD g = gd at *
      simp [b1_l_want, ix1, ixk, z0, z1, hc, hw2, hun, ng, pk, -ix_lst]
    | false =>
      have hstep : b1_l_want [some (graphD g), some st, some (nD w), some (nD pre.length)] = .nx [some (graphD g), some st, some (nD w), some (nD pre.length)] := by
        generalize stepD s = sd at *
        generalize stepsD g.steps = ssd at *
        generalize graphD g = gd at *
        cases hw : s.wire == w with
        | false =>
          have hw2 : ¬ s.wire = w := by simpa using hw
          simp [b1_l_want, ix1, ixk, z0, hw2]
        | true =>
          rw [hw, Bool.true_and] at hq
          rw [hq] at hc
          have hw2 : s.wire = w := by simpa using hw
          simp [b1_l_want, ix1, ixk, z0, hw2, hc]
      have ih := want_loop hg h0 w post (pre ++ [s]) (by rw [e]; simp) (some (nD pre.length))
      rw [List.length_append, List.length_singleton] at ih
      rw [forL_nx (es := [nD pre.length]) _ _ rfl hstep, List.filter_cons, hq]
      exact ih
theorem v_l_want (hg : GraphSt g) {m : Nat} {st : D} (h0 : oIx st (nD 0) = .ok (nD m)) (w : Nat) : f_l_want [graphD g, st, nD w] = .ok (.int (lwN g.steps m w)) := by
  have ix1 : oIx (graphD g) (nD 1) = .ok (stepsD g.steps) := ix_graph1 g
  have bl : bLen [stepsD g.steps] = .ok (nD g.steps.length) := len_stepsD _
  have h1 := hg.1
  have rg : rg1 [nD g.steps.length] = .ok ((List.range g.steps.length).map nD) := rg1_nD (by omega)
  have hl := want_loop hg h0 w g.steps [] rfl none
  rw [List.length_nil, ← List.range_eq_range'] at hl
  have hw : lwN g.steps m w = match g.steps.filter fun s => s.wire == w && canT s m with
    | [] => 0
    | s :: _ => if s.up then 1 else -1 := rfl
  rw [hw]
  generalize stepsD g.steps = ssd at *
  generalize (List.range g.steps.length).map nD = rl at *
  generalize graphD g = gd at *
  rcases hl with ⟨v, e1, e2⟩ | ⟨s, t, e2, e1⟩
  · rw [e2]
    simp [f_l_want, d_l_want, ix1, bl, rg, e1]
  · rw [e2]
    simp [f_l_want, d_l_want, ix1, bl, rg, e1]
section
variable {S : List (Nat × Nat)} {rows : List Row}
end
end CW
namespace CW
open PySem PySem.Spec PyProof.Rows L2
variable {g : Graph} {S : List (Nat × Nat)}
def seenD (xs : List (Nat × Nat)) : D := .dic false true (xs.map keyT) (xs.map fun _ => .bl true)
def lsE (g : Graph) (xs : List (Nat × Nat)) (at_ : Nat) (v4 v5 : Option D) : Env := [some (graphD g), some (.lst (xs.map keyT)), some (seenD xs), some (nD at_), v4, v5]
def Upto (g : Graph) (xs : List (Nat × Nat)) (x : Nat × Nat) (k : Nat) : Prop := ∀ j s, j < k → g.steps[j]? = some s → canN s x.1 = true → nextB s x ∈ xs
structure LsI (g : Graph) (S xs : List (Nat × Nat)) (at_ : Nat) : Prop where
  nd : xs.Nodup
  sub : ∀ x ∈ xs, x ∈ S
  beg : (g.marks, g.code) ∈ xs
  done : ∀ i x, i < at_ → xs[i]? = some x → Upto g xs x g.steps.length
theorem Upto.mono {xs ys : List (Nat × Nat)} {x : Nat × Nat} {k : Nat} (h : Upto g xs x k) (hs : ∀ y ∈ xs, y ∈ ys) : Upto g ys x k := fun j s hj hk hc => hs _ (h j s hj hk hc)
theorem ls_len (hI : LsI g S xs at_) : xs.length ≤ S.length := nodup_sub xs S hI.nd hI.sub
theorem ls_in (hg : GraphSt g) (sp : Space g S) (hS : S.length ≤ 1000) {at_ : Nat} {x : Nat × Nat} : ∀ (m k : Nat) (xs : List (Nat × Nat)) (v4 v5 : Option D), k + m = g.steps.length → LsI g S xs at_ → xs[at_]? = some x → Upto g xs x k →
    ∃ ys w4 w5, forL [4] gN b1_l_stands ((List.range' k m).map nD) (lsE g xs at_ v4 v5) = .nx (lsE g ys at_ w4 w5) ∧ LsI g S ys at_ ∧ (∃ t, ys = xs ++ t) ∧ Upto g ys x g.steps.length
  | 0, k, xs, v4, v5, hk, hI, hx, hu => ⟨xs, v4, v5, rfl, hI, ⟨[], by simp⟩, by rw [← hk]; exact hu⟩
  | m + 1, k, xs, v4, v5, hk, hI, hx, hu => by
    have hkl : k < g.steps.length := by omega
    have hks : g.steps[k]? = some g.steps[k] := List.getElem?_eq_getElem hkl
    generalize g.steps[k] = s at hks
    have hs := hg.2 s (List.mem_of_getElem? hks)
    have e0 := v_l_can_3 hks hs (st := keyT x) (m := x.1) (ix_keyT0 x)
    have e1 := v_l_behind_2 hks hs x
    have hix : (xs.map keyT)[at_]? = some (keyT x) := by rw [List.getElem?_map, hx]; rfl
    have hxS := hI.sub x (List.mem_of_getElem? hx)
    have hlen := ls_len hI
    have hlm : (xs.map keyT).length = xs.length := List.length_map _
    have hls := lt_line (show xs.length < 1000000 by omega)
    rw [List.range'_succ, List.map_cons]
    -- nothing new
    have same : b1_l_stands (lsE g xs at_ (some (nD k)) v5) = .nx (lsE g xs at_ (some (nD k)) v5) ∨ (∃ w5, b1_l_stands (lsE g xs at_ (some (nD k)) v5) = .nx (lsE g xs at_ (some (nD k)) w5)) → Upto g xs x (k + 1) → ∃ ys w4 w5, forL [4] gN b1_l_stands (nD k :: (List.range' (k + 1) m).map nD) (lsE g xs at_ v4 v5) = .nx (lsE g ys at_ w4 w5) ∧ LsI g S ys at_ ∧ (∃ t, ys = xs ++ t) ∧ Upto g ys x g.steps.length := fun h hu2 => by
      obtain ⟨w5, e⟩ : ∃ w5, b1_l_stands (lsE g xs at_ (some (nD k)) v5) = .nx (lsE g xs at_ (some (nD k)) w5) := h.elim (fun e => ⟨v5, e⟩) id
      obtain ⟨ys, u4, u5, r1, r2, r3, r4⟩ := ls_in hg sp hS m (k + 1) xs (some (nD k)) w5 (by omega) hI hx hu2
      refine ⟨ys, u4, u5, ?_, r2, r3, r4⟩
      rw [forL_nx (es := [nD k]) (r := lsE g xs at_ (some (nD k)) w5) _ _ rfl e]
      exact r1
    cases hc : canN s x.1 with
    | false =>
      rw [hc] at e0
      refine same (.inl ?_) fun j s' hj hs' hc' => ?_
      · unfold lsE
        generalize xs.map keyT = xl at *
        generalize keyT x = xd at *
        generalize graphD g = gd at *
        simp [b1_l_stands, hix, e0]
      · by_cases hjk : j = k
        · subst hjk
          rw [hks] at hs'
          cases hs'
          rw [hc] at hc'
          cases hc'
        · exact hu j s' (by omega) hs' hc'
    | true =>
      rw [hc] at e0
      have upk : ∀ ys : List (Nat × Nat), (∀ y ∈ xs, y ∈ ys) → nextB s x ∈ ys → Upto g ys x (k + 1) := fun ys hy hn j s' hj hs' hc' => by
        by_cases hjk : j = k
        · subst hjk
          rw [hks] at hs'
          cases hs'
          exact hn
        · exact hy _ (hu j s' (by omega) hs' hc')
      have hlf : lf (keyT (nextB s x)) = true := lf_keyT _
      have hk0 : kOk true (keyT (nextB s x)) = true := kOk_keyT _
      have hh := dHas_keyT (nextB s x) xs
      by_cases hn : nextB s x ∈ xs
      · refine same (.inr ⟨some (keyT (nextB s x)), ?_⟩) (upk xs (fun _ h => h) hn)
        rw [decide_eq_true hn] at hh
        have ed : inDic true (keyT (nextB s x)) true (xs.map keyT) = .ok (.bl false) := by
          unfold inDic
          rw [hk0, hh]
          rfl
        unfold lsE seenD
        generalize xs.map keyT = xl at *
        generalize (xs.map fun _ => D.bl true) = vl at *
        generalize keyT (nextB s x) = y at *
        generalize keyT x = xd at *
        generalize graphD g = gd at *
        simp [b1_l_stands, hix, e0, e1, hlf, ed]
      · rw [decide_eq_false hn] at hh
        have ed : inDic true (keyT (nextB s x)) true (xs.map keyT) = .ok (.bl true) := by
          unfold inDic
          rw [hk0, hh]
          rfl
        have hI2 : LsI g S (xs ++ [nextB s x]) at_ := ⟨by
          rw [List.nodup_append]
          exact ⟨hI.nd, by simp, fun a ha b hb e => hn (by rw [List.mem_singleton] at hb; rw [← hb, ← e]; exact ha)⟩, fun y hy => by
          rcases List.mem_append.mp hy with hy | hy
          · exact hI.sub y hy
          · rw [List.mem_singleton] at hy
            subst hy
            exact (sp.go x hxS k s hks hc).2.2, List.mem_append_left _ hI.beg, fun i y hi hy => by
          have hat := (List.getElem?_eq_some_iff.mp hx).1
          rw [List.getElem?_append_left (by omega)] at hy
          exact (hI.done i y hi hy).mono fun z hz => List.mem_append_left _ hz⟩
        have step : b1_l_stands (lsE g xs at_ (some (nD k)) v5) = .nx (lsE g (xs ++ [nextB s x]) at_ (some (nD k)) (some (keyT (nextB s x)))) := by
          have m1 : (xs ++ [nextB s x]).map keyT = xs.map keyT ++ [keyT (nextB s x)] := by rw [List.map_append]; rfl
          have m2 : ((xs ++ [nextB s x]).map fun _ => D.bl true) = (xs.map fun _ => D.bl true) ++ [.bl true] := by rw [List.map_append]; rfl
          unfold lsE seenD
          rw [m1, m2]
          generalize xs.map keyT = xl at *
          generalize (xs.map fun _ => D.bl true) = vl at *
          generalize keyT (nextB s x) = y at *
          generalize keyT x = xd at *
          generalize graphD g = gd at *
          simp [b1_l_stands, hix, e0, e1, hlf, ed, hk0, hlm, hls, dPutK, dPutV, hh]
        have hat := (List.getElem?_eq_some_iff.mp hx).1
        obtain ⟨ys, u4, u5, r1, r2, ⟨t, rt⟩, r4⟩ := ls_in hg sp hS m (k + 1) (xs ++ [nextB s x]) (some (nD k)) (some (keyT (nextB s x))) (by omega) hI2 (by rw [List.getElem?_append_left hat]; exact hx) (upk _ (fun _ h => List.mem_append_left _ h) (by simp))
        refine ⟨ys, u4, u5, ?_, r2, ⟨nextB s x :: t, by rw [rt, List.append_assoc]; rfl⟩, r4⟩
        rw [forL_nx (es := [nD k]) (r := lsE g (xs ++ [nextB s x]) at_ (some (nD k)) (some (keyT (nextB s x)))) _ _ rfl step]
        exact r1
end CW
namespace CW
open PySem PySem.Spec PyProof.Rows L2

variable {g : Graph} {S : List (Nat × Nat)}
theorem ls_test (xs : List (Nat × Nat)) (at_ : Nat) (v4 v5 : Option D) : t1_l_stands (lsE g xs at_ v4 v5) = .ok (decide (at_ < xs.length)) := by
  have hl : bLen [.lst (xs.map keyT)] = .ok (nD xs.length) := by rw [bLen_lstn, List.length_map]
  unfold lsE
  generalize D.lst (xs.map keyT) = xl at *
  generalize graphD g = gd
  generalize seenD xs = sd
  simp [t1_l_stands, hl]
theorem ls_wh (hg : GraphSt g) (sp : Space g S) (hS : S.length ≤ 1000) (f : Nat) : ∀ (xs : List (Nat × Nat)) (at_ : Nat) (v4 v5 : Option D), LsI g S xs at_ → at_ ≤ xs.length → S.length < f + at_ →
    ∃ ys at' w4 w5, wh t1_l_stands b2_l_stands (lsE g xs at_ v4 v5) = .nx (lsE g ys at' w4 w5) ∧ LsI g S ys at' ∧ ys.length ≤ at' := by
  induction f with
  | zero => exact fun xs at_ v4 v5 hI ha hf => by have := ls_len hI; omega
  | succ f ih =>
    intro xs at_ v4 v5 hI ha hf
    have ht := ls_test (g := g) xs at_ v4 v5
    by_cases hlt : at_ < xs.length
    · rw [decide_eq_true hlt] at ht
      have hx : xs[at_]? = some xs[at_] := List.getElem?_eq_getElem hlt
      generalize xs[at_] = x at hx
      obtain ⟨ys, w4, w5, e, hI2, ⟨t, et⟩, hu⟩ := ls_in hg sp hS g.steps.length 0 xs v4 v5 (by omega) hI hx (fun j s hj => by omega)
      rw [← List.range_eq_range'] at e
      have hI3 : LsI g S ys (at_ + 1) := ⟨hI2.nd, hI2.sub, hI2.beg, fun i y hi hy => by
        by_cases hia : i = at_
        · subst hia
          rw [et, List.getElem?_append_left hlt, hx] at hy
          cases hy
          exact hu
        · exact hI2.done i y (by omega) hy⟩
      have hb : b2_l_stands (lsE g xs at_ v4 v5) = .nx (lsE g ys (at_ + 1) w4 w5) := by
        have ix1 : oIx (graphD g) (nD 1) = .ok (stepsD g.steps) := ix_graph1 g
        have bl : bLen [stepsD g.steps] = .ok (nD g.steps.length) := len_stepsD _
        have h1 := hg.1
        have rg : rg1 [nD g.steps.length] = .ok ((List.range g.steps.length).map nD) := rg1_nD (by omega)
        unfold lsE seenD at *
        generalize (List.range g.steps.length).map nD = rl at *
        generalize stepsD g.steps = ssd at *
        generalize graphD g = gd at *
        simp [b2_l_stands, ix1, bl, rg, e]
      obtain ⟨zs, at', u4, u5, r1, r2, r3⟩ := ih ys (at_ + 1) w4 w5 hI3 (by rw [et, List.length_append]; omega) (by omega)
      exact ⟨zs, at', u4, u5, (wh_nx ht hb).trans r1, r2, r3⟩
    · rw [decide_eq_false hlt] at ht
      exact ⟨xs, at_, v4, v5, wh_f ht, hI, by omega⟩
theorem v_l_stands (hg : GraphSt g) (sp : Space g S) (hS : S.length ≤ 1000) : ∃ ys : List (Nat × Nat), f_l_stands [graphD g] = .ok (ys.map keyT) ∧ ys.Nodup ∧ (∀ x ∈ ys, x ∈ S) ∧ (g.marks, g.code) ∈ ys ∧ ∀ x ∈ ys, ∀ (k : Nat) (s : Step), g.steps[k]? = some s → canN s x.1 = true → nextB s x ∈ ys := by
  have hI : LsI g S [(g.marks, g.code)] 0 := ⟨by simp, fun x hx => by rw [List.mem_singleton] at hx; subst hx; exact sp.beg, by simp, fun i x hi => by omega⟩
  obtain ⟨ys, at', w4, w5, e, hI2, hl⟩ := ls_wh hg sp hS (S.length + 1) _ 0 none none hI (by simp) (by omega)
  refine ⟨ys, ?_, hI2.nd, hI2.sub, hI2.beg, fun x hx k s hk hc => ?_⟩
  · have et : D.tup [nD g.marks, nD g.code] = keyT (g.marks, g.code) := rfl
    have i2 : oIx (graphD g) (nD 2) = .ok (nD g.marks) := rfl
    have i3 : oIx (graphD g) (nD 3) = .ok (nD g.code) := rfl
    have hk := kOk_keyT (g.marks, g.code)
    have hlf := lf_keyT (g.marks, g.code)
    have e0 : lsE g [(g.marks, g.code)] 0 none none = [some (graphD g), some (.lst [keyT (g.marks, g.code)]), some (.dic false true [keyT (g.marks, g.code)] [.bl true]), some (nD 0), none, none] := rfl
    rw [e0] at e
    have ey : lsE g ys at' w4 w5 = [some (graphD g), some (.lst (ys.map keyT)), some (seenD ys), some (nD at'), w4, w5] := rfl
    rw [ey] at e
    generalize seenD ys = sd at *
    generalize ys.map keyT = yl at *
    generalize keyT (g.marks, g.code) = k0 at *
    generalize graphD g = gd at *
    simp [f_l_stands, d_l_stands, i2, i3, et, hk, e]
  · obtain ⟨i, hi⟩ := List.getElem?_of_mem hx
    have hil := (List.getElem?_eq_some_iff.mp hi).1
    exact hI2.done i x (by omega) hi k s (List.getElem?_eq_some_iff.mp hk).1 hk hc
end CW
namespace CW
open PySem PySem.Spec PyProof.Rows L2
variable {g : Graph}
def wantK (g : Graph) (x : Nat × Nat) : List Int := (madeN g).map fun w => lwN g.steps x.1 w
def ConsK (g : Graph) (xs : List (Nat × Nat)) : Prop := ∀ r ∈ xs, ∀ q ∈ xs, r.2 = q.2 → wantK g r = wantK g q
structure PkI (g : Graph) (pre : List (Nat × Nat)) (codes : List Nat) (F : Nat → List Int) : Prop where
  sub : ∀ c ∈ codes, ∃ r ∈ pre, r.2 = c
  all : ∀ r ∈ pre, r.2 ∈ codes ∧ F r.2 = wantK g r
  len : codes.length ≤ pre.length
theorem PkI.cons {pre : List (Nat × Nat)} {codes : List Nat} {F : Nat → List Int} (h : PkI g pre codes F) : ConsK g pre := fun r hr q hq e => by rw [← (h.all r hr).2, ← (h.all q hq).2, e]
end CW
namespace CW
open PySem PySem.Spec PyProof.Rows L2

variable {g : Graph} {rows : List Row}
end CW
namespace CW
open PySem PySem.Spec PyProof.Rows L2
variable {g : Graph} {rows : List Row} {cs : List Str}
structure CsOk5 (cs : List Str) : Prop where
  ok : CsOk cs
  off : ("CalledOff" : Str) ∈ cs
  cl : ("Clash" : Str) ∈ cs
end CW
namespace CW
open PySem PySem.Spec PyProof.Rows L2
variable {g : Graph} {cs : List Str}
end CW
namespace CW
open PySem PySem.Spec PyProof.Rows L2
end CW
namespace CW
open PySem PySem.Spec PyProof.Rows L2
theorem v_l_is_up (rs : List (Nat × Nat)) (hl : rs.length ≤ 1000) (c : Nat) : f_l_is_up [gateT rs, nD c] = .ok (.bl (upR rs c)) := by
  have c1 : compL [2] gN c1_l_is_up (eV 2) [some (gateT rs), some (nD c), none] (rs.map keyT) = .ok ((rs.filter fun r => c &&& r.1 == r.2).map keyT) :=
    compL_filter (is := [2]) (asg := gN) keyT (fun k => [keyT k]) (fun _ => rfl) (fun r => c &&& r.1 == r.2) keyT rs (fun r _ => by
      have k0 := ix_keyT0 r
      have k1 := ix_keyT1 r
      generalize keyT r = kd at *
      simp [c1_l_is_up, k0, k1]) fun r _ _ => by
      generalize keyT r = kd
      simp
  have hq : iSeq (gateT rs) = .ok (rs.map keyT) := rfl
  have hz : (rs.map keyT).length ≤ sizeLine := le_line (by rw [List.length_map]; omega)
  have hb : bLen [.lst ((rs.filter fun r => c &&& r.1 == r.2).map keyT)] = .ok (nD (rs.filter fun r => c &&& r.1 == r.2).length) := by rw [bLen_lstn, List.length_map]
  have hu : upR rs c = decide (0 < (rs.filter fun r => c &&& r.1 == r.2).length) := by
    rw [Bool.eq_iff_iff, decide_eq_true_eq, List.length_pos_iff_exists_mem]
    unfold upR
    rw [List.any_eq_true]
    constructor
    · rintro ⟨r, hr, h⟩
      exact ⟨r, List.mem_filter.mpr ⟨hr, h⟩⟩
    · rintro ⟨r, hr⟩
      exact ⟨r, (List.mem_filter.mp hr).1, (List.mem_filter.mp hr).2⟩
  rw [hu]
  generalize (rs.filter fun r => c &&& r.1 == r.2).length = n at *
  generalize (rs.filter fun r => c &&& r.1 == r.2).map keyT = fl at *
  generalize rs.map keyT = rl at *
  generalize gateT rs = gd at *
  simp [f_l_is_up, d_l_is_up, hq, hz, c1, hb, -bLen_lstn]
end CW
namespace CW
open PySem PySem.Spec PyProof.Rows L2
variable {g : Graph}
end CW
namespace CW
open PySem PySem.Spec PyProof.Rows L2
variable {g : Graph}
end CW
namespace CW
open PySem PySem.Spec PyProof.Rows L2
variable {g : Graph} {ks : List (Nat × Nat)} {rs : List (Nat × Nat)}
end CW
namespace CW
open PySem PySem.Spec PyProof.Rows L2
variable {g : Graph} {rows : List Row} {cs : List Str}
end CW
namespace CW
open PySem PySem.Spec PyProof.Rows L2
abbrev Gte : Type := List (Nat × Nat)
abbrev NetM : Type := Nat × List Gte × List Gte
def gtsT (gs : List Gte) : D := .tup (gs.map gateT)
def netM (p : NetM) : D := .tup [nD p.1, gtsT p.2.1, gtsT p.2.2]
def netMD (net : List NetM) : D := .tup (net.map netM)
abbrev Gt : Type := Nat × Bool × Gte
def gtD (x : Gt) : D := .tup [nD x.1, .bl x.2.1, gateT x.2.2]
def sgI (b : Bool) : Int := if b then 1 else -1
def gtL (x : Gt) : D := .tup [nD x.1, .int (sgI x.2.1), gateT x.2.2]
def gtsOf (p : NetM) : List Gt := p.2.1.map (fun r => (p.1, true, r)) ++ p.2.2.map fun r => (p.1, false, r)
def gtsN (net : List NetM) : List Gt := net.flatMap gtsOf
structure NetW (net : List NetM) : Prop where
  n : net.length ≤ 1000
  g : (gtsN net).length ≤ 1000
  r : ∀ x ∈ gtsN net, x.2.2.length ≤ 1000
  w : ∀ p ∈ net, p.1 ≤ 1000
variable {net : List NetM}
theorem th_lt {n : Nat} (h : n < 2000) : n < sizeLine := lt_line (by omega)
theorem app_loop {b : Env → Fl} {i : Nat} {mk : Env → D → D} (nd : Option D) (v2 v3 v4 : Option D) (f : Gte → D) (hb : ∀ (acc : List D) (r : Gte), acc.length < 2000 → b [nd, some (.lst acc), v2, v3, v4, some (gateT r)] = .nx [nd, some (.lst (acc ++ [f r])), v2, v3, v4, some (gateT r)]) :
    ∀ (rs : List Gte) (acc : List D) (v5 : Option D), acc.length + rs.length ≤ 2000 → ∃ w5, forL [5] gN b (rs.map gateT) [nd, some (.lst acc), v2, v3, v4, v5] = .nx [nd, some (.lst (acc ++ rs.map f)), v2, v3, v4, w5]
  | [], acc, v5, _ => ⟨v5, by rw [List.map_nil, List.map_nil, List.append_nil]; rfl⟩
  | r :: rs, acc, v5, hl => by
    rw [List.length_cons] at hl
    obtain ⟨w5, e⟩ := app_loop (i := i) (mk := mk) nd v2 v3 v4 f hb rs (acc ++ [f r]) (some (gateT r)) (by rw [List.length_append, List.length_singleton]; omega)
    refine ⟨w5, ?_⟩
    rw [List.map_cons, forL_nx (es := [gateT r]) _ _ rfl (hb acc r (by omega)), e, List.map_cons, List.append_assoc]
    rfl
theorem v_gates_of (h : (gtsN net).length ≤ 1000) : f_gates_of [netMD net] = .ok ((gtsN net).map gtD) := by
  have h3s : (3 : Nat) ≤ sizeLine := le_line (by decide)
  have one : ∀ (acc : List Gt) (p : NetM) (v5 : Option D), acc.length + (gtsOf p).length ≤ 1000 → ∃ w5, b3_gates_of [some (netMD net), some (.lst (acc.map gtD)), some (nD p.1), some (gtsT p.2.1), some (gtsT p.2.2), v5] = .nx [some (netMD net), some (.lst ((acc ++ gtsOf p).map gtD)), some (nD p.1), some (gtsT p.2.1), some (gtsT p.2.2), w5] := fun acc p v5 hl => by
    have hl2 : (gtsOf p).length = p.2.1.length + p.2.2.length := by unfold gtsOf; rw [List.length_append, List.length_map, List.length_map]
    have hb1 : ∀ (acc : List D) (r : Gte), acc.length < 2000 → b1_gates_of [some (netMD net), some (.lst acc), some (nD p.1), some (gtsT p.2.1), some (gtsT p.2.2), some (gateT r)] = .nx [some (netMD net), some (.lst (acc ++ [gtD (p.1, true, r)])), some (nD p.1), some (gtsT p.2.1), some (gtsT p.2.2), some (gateT r)] := fun acc r hz => by
      have := th_lt hz
      unfold gtD
      generalize netMD net = nd
      generalize gtsT p.2.1 = t1
      generalize gtsT p.2.2 = t2
      generalize gateT r = gd
      simp [b1_gates_of, h3s, this]
    have hb2 : ∀ (acc : List D) (r : Gte), acc.length < 2000 → b2_gates_of [some (netMD net), some (.lst acc), some (nD p.1), some (gtsT p.2.1), some (gtsT p.2.2), some (gateT r)] = .nx [some (netMD net), some (.lst (acc ++ [gtD (p.1, false, r)])), some (nD p.1), some (gtsT p.2.1), some (gtsT p.2.2), some (gateT r)] := fun acc r hz => by
      have := th_lt hz
      unfold gtD
      generalize netMD net = nd
      generalize gtsT p.2.1 = t1
      generalize gtsT p.2.2 = t2
      generalize gateT r = gd
      simp [b2_gates_of, h3s, this]
    obtain ⟨w5, e1⟩ := app_loop (i := 0) (mk := fun _ d => d) (some (netMD net)) (some (nD p.1)) (some (gtsT p.2.1)) (some (gtsT p.2.2)) (fun r => gtD (p.1, true, r)) hb1 p.2.1 (acc.map gtD) v5 (by rw [List.length_map]; omega)
    obtain ⟨x5, e2⟩ := app_loop (i := 0) (mk := fun _ d => d) (some (netMD net)) (some (nD p.1)) (some (gtsT p.2.1)) (some (gtsT p.2.2)) (fun r => gtD (p.1, false, r)) hb2 p.2.2 (acc.map gtD ++ p.2.1.map fun r => gtD (p.1, true, r)) w5 (by rw [List.length_append, List.length_map, List.length_map]; omega)
    refine ⟨x5, ?_⟩
    have hres : (acc ++ gtsOf p).map gtD = acc.map gtD ++ (p.2.1.map fun r => gtD (p.1, true, r)) ++ p.2.2.map fun r => gtD (p.1, false, r) := by
      unfold gtsOf
      rw [List.map_append, List.map_append, List.map_map, List.map_map, List.append_assoc]
      rfl
    rw [hres]
    have q1 : iSeq (gtsT p.2.1) = .ok (p.2.1.map gateT) := rfl
    have q2 : iSeq (gtsT p.2.2) = .ok (p.2.2.map gateT) := rfl
    generalize netMD net = nd at *
    generalize gtsT p.2.1 = t1 at *
    generalize gtsT p.2.2 = t2 at *
    generalize p.2.1.map gateT = l1 at *
    generalize p.2.2.map gateT = l2 at *
    simp [b3_gates_of, q1, q2, e1, e2]
  obtain ⟨ρ', h1, w2, w3, w4, w5, h2⟩ := forL_flat (is := [2, 3, 4]) (asg := gT 3) (b := b3_gates_of) netM (fun p => [nD p.1, gtsT p.2.1, gtsT p.2.2]) (fun _ => rfl)
    (fun (a : List Gt) ρ => ∃ w2 w3 w4 w5, ρ = [some (netMD net), some (.lst (a.map gtD)), w2, w3, w4, w5]) gtsOf 1000 net [] [some (netMD net), some (.lst []), none, none, none, none] ⟨_, _, _, _, rfl⟩ (by rw [List.length_nil, Nat.zero_add]; exact h) fun a p ρ _ ⟨w2, w3, w4, w5, e⟩ hb => by
      subst e
      obtain ⟨x5, e⟩ := one a p w5 hb
      exact ⟨_, e, _, _, _, _, rfl⟩
  subst h2
  have sq : iSeq (netMD net) = .ok (net.map netM) := rfl
  have hg : [] ++ net.flatMap gtsOf = gtsN net := rfl
  rw [hg] at h1
  generalize (gtsN net).map gtD = res at *
  generalize netMD net = nd at *
  generalize net.map netM = nl at *
  simp [f_gates_of, d_gates_of, sq, h1]
theorem v_l_gates (h : (gtsN net).length ≤ 1000) : f_l_gates [netMD net] = .ok (.lst ((gtsN net).map gtL)) := by
  have h3s : (3 : Nat) ≤ sizeLine := le_line (by decide)
  have one : ∀ (acc : List Gt) (p : NetM) (v5 : Option D), acc.length + (gtsOf p).length ≤ 1000 → b1_l_gates [some (netMD net), some (.lst (acc.map gtL)), some (nD p.1), some (gtsT p.2.1), some (gtsT p.2.2), v5] = .nx [some (netMD net), some (.lst ((acc ++ gtsOf p).map gtL)), some (nD p.1), some (gtsT p.2.1), some (gtsT p.2.2), v5] := fun acc p v5 hl => by
    have hl2 : (gtsOf p).length = p.2.1.length + p.2.2.length := by unfold gtsOf; rw [List.length_append, List.length_map, List.length_map]
    have c1 := compL_map (is := [5]) (asg := gN) (ev := e1_l_gates) (ρ := [some (netMD net), some (.lst (acc.map gtL)), some (nD p.1), some (gtsT p.2.1), some (gtsT p.2.2), none]) gateT (fun r => [gateT r]) (fun _ => rfl) (fun r => gtL (p.1, true, r)) p.2.1 (fun r _ => by
      unfold gtL sgI
      generalize gateT r = gd
      show e1_l_gates [_, _, some (nD p.1), _, _, some gd] = _
      simp [e1_l_gates, h3s])
    have c2 := compL_map (is := [5]) (asg := gN) (ev := e2_l_gates) (ρ := [some (netMD net), some (.lst (acc.map gtL)), some (nD p.1), some (gtsT p.2.1), some (gtsT p.2.2), none]) gateT (fun r => [gateT r]) (fun _ => rfl) (fun r => gtL (p.1, false, r)) p.2.2 (fun r _ => by
      unfold gtL sgI
      generalize gateT r = gd
      show e2_l_gates [_, _, some (nD p.1), _, _, some gd] = _
      have hn : oNeg (nD 1) = .ok (.int (-1)) := rfl
      simp [e2_l_gates, h3s, hn])
    have hres : (acc ++ gtsOf p).map gtL = acc.map gtL ++ (p.2.1.map fun r => gtL (p.1, true, r)) ++ p.2.2.map fun r => gtL (p.1, false, r) := by
      unfold gtsOf
      rw [List.map_append, List.map_append, List.map_map, List.map_map, List.append_assoc]
      rfl
    rw [hres]
    have q1 : iSeq (gtsT p.2.1) = .ok (p.2.1.map gateT) := rfl
    have q2 : iSeq (gtsT p.2.2) = .ok (p.2.2.map gateT) := rfl
    have l1 : (p.2.1.map gateT).length ≤ sizeLine := by rw [List.length_map]; exact le_line (by omega)
    have l2 : (p.2.2.map gateT).length ≤ sizeLine := by rw [List.length_map]; exact le_line (by omega)
    have s1 : (acc.map gtL).length + (p.2.1.map fun r => gtL (p.1, true, r)).length ≤ sizeLine := by rw [List.length_map, List.length_map]; exact le_line (by omega)
    have s2 : (acc.map gtL ++ p.2.1.map fun r => gtL (p.1, true, r)).length + (p.2.2.map fun r => gtL (p.1, false, r)).length ≤ sizeLine := by rw [List.length_append, List.length_map, List.length_map, List.length_map]; exact le_line (by omega)
    generalize netMD net = nd at *
    generalize gtsT p.2.1 = t1 at *
    generalize gtsT p.2.2 = t2 at *
    generalize p.2.1.map gateT = m1 at *
    generalize p.2.2.map gateT = m2 at *
    generalize (p.2.1.map fun r => gtL (p.1, true, r)) = r1 at *
    generalize (p.2.2.map fun r => gtL (p.1, false, r)) = r2 at *
    generalize acc.map gtL = al at *
    have a1 : oAdd (.lst al) (.lst r1) = .ok (.lst (al ++ r1)) := by rw [oAdd_lst, if_pos s1]
    have a2 : oAdd (.lst (al ++ r1)) (.lst r2) = .ok (.lst (al ++ r1 ++ r2)) := by rw [oAdd_lst, if_pos s2]
    simp [b1_l_gates, q1, q2, l1, l2, c1, c2, a1, a2, -oAdd_lst]
  obtain ⟨ρ', h1, w2, w3, w4, w5, h2⟩ := forL_flat (is := [2, 3, 4]) (asg := gT 3) (b := b1_l_gates) netM (fun p => [nD p.1, gtsT p.2.1, gtsT p.2.2]) (fun _ => rfl)
    (fun (a : List Gt) ρ => ∃ w2 w3 w4 w5, ρ = [some (netMD net), some (.lst (a.map gtL)), w2, w3, w4, w5]) gtsOf 1000 net [] [some (netMD net), some (.lst []), none, none, none, none] ⟨_, _, _, _, rfl⟩ (by rw [List.length_nil, Nat.zero_add]; exact h) fun a p ρ _ ⟨w2, w3, w4, w5, e⟩ hb => by
      subst e
      exact ⟨_, one a p w5 hb, _, _, _, _, rfl⟩
  subst h2
  have sq : iSeq (netMD net) = .ok (net.map netM) := rfl
  have hg : [] ++ net.flatMap gtsOf = gtsN net := rfl
  rw [hg] at h1
  have h0s : (0 : Nat) ≤ sizeLine := Nat.zero_le _
  generalize (gtsN net).map gtL = res at *
  generalize netMD net = nd at *
  generalize net.map netM = nl at *
  simp [f_l_gates, d_l_gates, sq, h1]
end CW
namespace CW
open PySem PySem.Spec PyProof.Rows L2
variable {net : List NetM}
def gateC (gts : List Gt) (ls : List Bool) (code i : Nat) : Bool := ls.getD i false != upR (gts.getD i (0, true, [])).2.2 code
def hitG (w : Nat) (b : Bool) (p : Gt × Bool) : Bool := p.1.1 == w && p.2 && (p.1.2.1 == b)
def hasG (gts : List Gt) (ls : List Bool) (w : Nat) (b : Bool) : Bool := (gts.zip ls).any (hitG w b)
def wireC (gts : List Gt) (ls : List Bool) (code w : Nat) : Bool := if code.testBit w then hasG gts ls w false && !hasG gts ls w true else hasG gts ls w true && !hasG gts ls w false
def mvGt (i : Nat) : D := .tup [sD (toL "gate"), nD i]
def mvWr (i : Nat) : D := .tup [sD (toL "wire"), nD i]
def mvSt (i : Nat) : D := .tup [sD (toL "step"), nD i]
def calG (net : List NetM) (code : Nat) (ls : List Bool) : List D := (List.range (gtsN net).length).flatMap fun i => if gateC (gtsN net) ls code i then [mvGt i] else []
def calW (net : List NetM) (code : Nat) (ls : List Bool) : List D := net.flatMap fun p => if wireC (gtsN net) ls code p.1 then [mvWr p.1] else []
def calledD (net : List NetM) (code : Nat) (ls : List Bool) : List D := calG net code ls ++ calW net code ls
theorem calG_len (code : Nat) (ls : List Bool) : (calG net code ls).length ≤ (gtsN net).length := by
  have := flat_len (fun i => if gateC (gtsN net) ls code i then [mvGt i] else []) 1 (List.range (gtsN net).length) fun i _ => by
    split <;> simp
  rw [List.length_range] at this
  unfold calG
  omega
theorem calW_len (code : Nat) (ls : List Bool) : (calW net code ls).length ≤ net.length := by
  have := flat_len (fun p : NetM => if wireC (gtsN net) ls code p.1 then [mvWr p.1] else []) 1 net fun i _ => by
    split <;> simp
  unfold calW
  omega
theorem flat_if {α β : Type} (c : α → Bool) (f : α → β) : ∀ xs : List α, (xs.flatMap fun i => if c i then [f i] else []) = (xs.filter c).map f
  | [] => rfl
  | x :: xs => by
    rw [List.flatMap_cons, flat_if c f xs, List.filter_cons]
    cases c x <;> simp
theorem zip_gts (f : Gt → D) : ∀ (gts : List Gt) (ls : List Bool), zipL (gts.map f) (ls.map D.bl) = (gts.zip ls).map fun p => .tup [f p.1, .bl p.2]
  | [], _ => rfl
  | _ :: _, [] => rfl
  | g :: gts, l :: ls => by
    rw [List.map_cons, List.map_cons, List.zip_cons_cons, List.map_cons, ← zip_gts f gts ls]
    rfl
theorem wc_loop (gd ld cd : Option D) (w : Nat) : ∀ (xs : List (Gt × Bool)) (r f : Bool) (v6 v7 : Option D), ∃ w6 w7, forL [6, 7] (gT 2) b1_wire_called (xs.map fun p => .tup [gtD p.1, .bl p.2]) [gd, ld, cd, some (nD w), some (.bl r), some (.bl f), v6, v7] =
    .nx [gd, ld, cd, some (nD w), some (.bl (r || xs.any (hitG w true))), some (.bl (f || xs.any (hitG w false))), w6, w7]
  | [], r, f, v6, v7 => ⟨v6, v7, by rw [List.any_nil, List.any_nil, Bool.or_false, Bool.or_false]; rfl⟩
  | x :: xs, r, f, v6, v7 => by
    obtain ⟨w6, w7, ih⟩ := wc_loop gd ld cd w xs (r || hitG w true x) (f || hitG w false x) (some (gtD x.1)) (some (.bl x.2))
    refine ⟨w6, w7, ?_⟩
    rw [List.map_cons, forL_nx (es := [gtD x.1, .bl x.2]) (r := [gd, ld, cd, some (nD w), some (.bl (r || hitG w true x)), some (.bl (f || hitG w false x)), some (gtD x.1), some (.bl x.2)]) _ _ rfl ?_, ih, List.any_cons, List.any_cons, Bool.or_assoc, Bool.or_assoc]
    have i0 : oIx (gtD x.1) (nD 0) = .ok (nD x.1.1) := rfl
    have i1 : oIx (gtD x.1) (nD 1) = .ok (.bl x.1.2.1) := rfl
    show b1_wire_called [gd, ld, cd, some (nD w), some (.bl r), some (.bl f), some (gtD x.1), some (.bl x.2)] = _
    unfold hitG
    generalize gtD x.1 = xd at *
    cases h1 : x.1.1 == w <;> cases h2 : x.2 <;> cases h3 : x.1.2.1 <;> rw [h3] at i1 <;> cases r <;> cases f <;> simp [b1_wire_called, i0, i1, h1]
theorem v_wire_called (gts : List Gt) (ls : List Bool) (code w : Nat) (hw : w ≤ 1000000) : f_wire_called [.lst (gts.map gtD), .lst (ls.map .bl), nD code, nD w] = .ok (.bl (wireC gts ls code w)) := by
  obtain ⟨w6, w7, e⟩ := wc_loop (some (.lst (gts.map gtD))) (some (.lst (ls.map .bl))) (some (nD code)) w (gts.zip ls) false false none none
  have hz := zip_gts gtD gts ls
  rw [Bool.false_or, Bool.false_or] at e
  have ht : (gts.zip ls).any (hitG w true) = hasG gts ls w true := rfl
  have hf : (gts.zip ls).any (hitG w false) = hasG gts ls w false := rfl
  rw [ht, hf, ← hz] at e
  unfold wireC
  have hb : (code / 2 ^ w % 2 == 0) = !code.testBit w := by
    rw [Bool.eq_iff_iff, beq_iff_eq, Bool.not_eq_true', Nat.testBit_eq_decide_div_mod_eq, decide_eq_false_iff_not]
    omega
  generalize gts.map gtD = gl at *
  generalize ls.map D.bl = ll at *
  generalize hasG gts ls w true = ht' at *
  generalize hasG gts ls w false = hf' at *
  cases hc : code.testBit w <;> rw [hc] at hb <;> cases ht' <;> cases hf' <;> simp [f_wire_called, d_wire_called, e, hb, hw]
def plyD (gd : D) (net : List NetM) (x : Nat × Nat) (ls : List Bool) : D := .obj [gd, netMD net, keyT x, .lst (ls.map .bl)]
theorem v_Play_called (gd : D) (hn : NetW net) (x : Nat × Nat) (ls : List Bool) (hl : ls.length = (gtsN net).length) : f_Play_called [plyD gd net x ls] = .ok (calledD net x.2 ls) := by
  have eg := v_gates_of hn.g
  have p1 : plyF 1 (plyD gd net x ls) = .ok (netMD net) := rfl
  have p2 : plyF 2 (plyD gd net x ls) = .ok (keyT x) := rfl
  have p3 : plyF 3 (plyD gd net x ls) = .ok (.lst (ls.map .bl)) := rfl
  have k1 := ix_keyT1 x
  have h2s : (2 : Nat) ≤ sizeLine := le_line (by decide)
  have hgl : ((gtsN net).map gtD).length = (gtsN net).length := List.length_map _
  -- the gates
  obtain ⟨ρ1, h1, w4, h2⟩ := forL_flat (is := [4]) (asg := gN) (b := b1_Play_called) nD (fun k => [nD k]) (fun _ => rfl)
    (fun (a : List D) ρ => ∃ w4, ρ = [some (plyD gd net x ls), some (.lst ((gtsN net).map gtD)), some (nD x.2), some (.lst a), w4, none, none, none]) (fun i => if gateC (gtsN net) ls x.2 i then [mvGt i] else []) 1000 (List.range (gtsN net).length) []
    [some (plyD gd net x ls), some (.lst ((gtsN net).map gtD)), some (nD x.2), some (.lst []), none, none, none, none] ⟨_, rfl⟩ (by
      have := calG_len (net := net) x.2 ls
      have h := hn.g
      rw [List.length_nil, Nat.zero_add]
      exact Nat.le_trans this h) fun a i ρ hi ⟨w4, e⟩ hb => by
      subst e
      have hi := List.mem_range.mp hi
      refine ⟨_, ?_, some (nD i), rfl⟩
      have hg : (gtsN net)[i]? = some ((gtsN net).getD i (0, true, [])) := by rw [List.getD_eq_getElem?_getD, List.getElem?_eq_getElem hi]; rfl
      have hls : ls[i]? = some (ls.getD i false) := by rw [List.getD_eq_getElem?_getD, List.getElem?_eq_getElem (by omega)]; rfl
      have xg : oIx (.lst ((gtsN net).map gtD)) (nD i) = .ok (gtD ((gtsN net).getD i (0, true, []))) := by rw [ix_lst, List.getElem?_map, hg]; rfl
      have xl : oIx (.lst (ls.map D.bl)) (nD i) = .ok (.bl (ls.getD i false)) := by rw [ix_lst, List.getElem?_map, hls]; rfl
      have g2 : oIx (gtD ((gtsN net).getD i (0, true, []))) (nD 2) = .ok (gateT ((gtsN net).getD i (0, true, [])).2.2) := rfl
      have up := v_is_upT ((gtsN net).getD i (0, true, [])).2.2 x.2
      have hal : a.length < sizeLine := th_lt (by omega)
      show b1_Play_called [some (plyD gd net x ls), some (.lst ((gtsN net).map gtD)), some (nD x.2), some (.lst a), some (nD i), none, none, none] = _
      unfold gateC mvGt
      generalize upR ((gtsN net).getD i (0, true, [])).2.2 x.2 = u at *
      generalize ls.getD i false = l at *
      generalize gateT ((gtsN net).getD i (0, true, [])).2.2 = gt at *
      generalize gtD ((gtsN net).getD i (0, true, [])) = gtd at *
      generalize plyD gd net x ls = pd at *
      generalize (gtsN net).map gtD = gl at *
      generalize ls.map D.bl = ll at *
      cases l <;> cases u <;> simp [b1_Play_called, p3, xg, xl, g2, up, hal, h2s, -ix_lst]
  subst h2
  have hcG : [] ++ ((List.range (gtsN net).length).flatMap fun i => if gateC (gtsN net) ls x.2 i then [mvGt i] else []) = calG net x.2 ls := rfl
  rw [hcG] at h1
  -- the wires
  have hcl := calG_len (net := net) x.2 ls
  obtain ⟨ρ2, h3, x5, x6, x7, h4⟩ := forL_flat (is := [5, 6, 7]) (asg := gT 3) (b := b2_Play_called) netM (fun p => [nD p.1, gtsT p.2.1, gtsT p.2.2]) (fun _ => rfl)
    (fun (a : List D) ρ => ∃ w5 w6 w7, ρ = [some (plyD gd net x ls), some (.lst ((gtsN net).map gtD)), some (nD x.2), some (.lst a), w4, w5, w6, w7]) (fun p => if wireC (gtsN net) ls x.2 p.1 then [mvWr p.1] else []) 2000 net (calG net x.2 ls)
    [some (plyD gd net x ls), some (.lst ((gtsN net).map gtD)), some (nD x.2), some (.lst (calG net x.2 ls)), w4, none, none, none] ⟨_, _, _, rfl⟩ (by
      have := calW_len (net := net) x.2 ls
      have h := hn.g
      have h' := hn.n
      show _ + (calW net x.2 ls).length ≤ _
      omega) fun a p ρ hp ⟨w5, w6, w7, e⟩ hb => by
      subst e
      refine ⟨_, ?_, some (nD p.1), some (gtsT p.2.1), some (gtsT p.2.2), rfl⟩
      have ew := v_wire_called (gtsN net) ls x.2 p.1 (by have := hn.w p hp; omega)
      show b2_Play_called [some (plyD gd net x ls), some (.lst ((gtsN net).map gtD)), some (nD x.2), some (.lst a), w4, some (nD p.1), some (gtsT p.2.1), some (gtsT p.2.2)] = _
      have hal : wireC (gtsN net) ls x.2 p.1 = true → a.length < sizeLine := fun h => by
        rw [if_pos h, List.length_singleton] at hb
        exact th_lt (by omega)
      unfold mvWr
      generalize gtsT p.2.1 = t1
      generalize gtsT p.2.2 = t2
      generalize plyD gd net x ls = pd at *
      generalize (gtsN net).map gtD = gl at *
      generalize ls.map D.bl = ll at *
      cases hw : wireC (gtsN net) ls x.2 p.1 with
      | false =>
        rw [hw] at ew
        simp [b2_Play_called, p3, ew]
      | true =>
        have := hal hw
        rw [hw] at ew
        simp [b2_Play_called, p3, ew, this, h2s]
  subst h4
  have hcW : calG net x.2 ls ++ (net.flatMap fun p => if wireC (gtsN net) ls x.2 p.1 then [mvWr p.1] else []) = calledD net x.2 ls := rfl
  rw [hcW] at h3
  have sq : iSeq (netMD net) = .ok (net.map netM) := rfl
  have hz1 : (gtsN net).length < 4611686018427387904 := by have := hn.g; omega
  have hz2 : (gtsN net).length ≤ sizeLine := le_line (by have := hn.g; omega)
  generalize calG net x.2 ls = cg at *
  generalize calledD net x.2 ls = cd at *
  generalize plyD gd net x ls = pd at *
  generalize (gtsN net).map gtD = gl at *
  generalize (gtsN net).length = n at *
  generalize keyT x = kx at *
  generalize netMD net = nd at *
  generalize net.map netM = nl at *
  have bl : bLen [.lst gl] = .ok (nD n) := by rw [bLen_lstn, hgl]
  simp [f_Play_called, d_Play_called, p1, p2, eg, k1, bl, hz1, hz2, h1, h3, sq, -bLen_lstn]
end CW
namespace CW
open PySem PySem.Spec PyProof.Rows L2
variable {net : List NetM} {g : Graph}
theorem in_ints (neg : Bool) (m : Int) (zs : List Int) : oIn neg (.int m) (.lst (zs.map D.int)) = .ok (.bl (neg != decide (m ∈ zs))) := by
  have h2 : (zs.map D.int).all flatD = true := by
    rw [List.all_map, List.all_eq_true]
    exact fun _ _ => rfl
  rw [oIn_lst neg rfl h2]
  congr 3
  rw [Bool.eq_iff_iff, decide_eq_true_eq]
  unfold inD
  rw [List.any_map, List.any_eq_true]
  constructor
  · rintro ⟨z, hz, e⟩
    have e : (z == m) = true := e
    rw [beq_iff_eq] at e
    exact e ▸ hz
  · intro h
    exact ⟨m, h, by show (m == m) = true; exact beq_self_eq_true m⟩
def waysZ (gts : List Gt) (ls : List Bool) (w : Nat) : List Int := ((gts.zip ls).filter fun p => p.2 && p.1.1 == w).map fun p => sgI p.1.2.1
theorem sgI_inj {a b : Bool} : sgI a = sgI b ↔ a = b := by cases a <;> cases b <;> decide
theorem ways_has (gts : List Gt) (ls : List Bool) (w : Nat) (b : Bool) : decide (sgI b ∈ waysZ gts ls w) = hasG gts ls w b := by
  rw [Bool.eq_iff_iff, decide_eq_true_eq]
  unfold waysZ hasG hitG
  rw [List.mem_map, List.any_eq_true]
  constructor
  · rintro ⟨p, hp, e⟩
    obtain ⟨h1, h2⟩ := List.mem_filter.mp hp
    rw [Bool.and_eq_true] at h2
    refine ⟨p, h1, ?_⟩
    rw [Bool.and_eq_true, Bool.and_eq_true]
    exact ⟨⟨h2.2, h2.1⟩, beq_iff_eq.mpr (sgI_inj.mp e)⟩
  · rintro ⟨p, hp, e⟩
    rw [Bool.and_eq_true, Bool.and_eq_true] at e
    exact ⟨p, List.mem_filter.mpr ⟨hp, by rw [Bool.and_eq_true]; exact ⟨e.1.2, e.1.1⟩⟩, by rw [beq_iff_eq.mp e.2]⟩
theorem v_l_called (hn : NetW net) (code : Nat) (ls : List Bool) (hl : ls.length = (gtsN net).length) : f_l_called [netMD net, nD code, .tup (ls.map .bl)] = .ok (calledD net code ls) := by
  have eg := v_l_gates hn.g
  have h2s : (2 : Nat) ≤ sizeLine := le_line (by decide)
  have hgl : ((gtsN net).map gtL).length = (gtsN net).length := List.length_map _
  have hz := zip_gts gtL (gtsN net) ls
  have hng := hn.g
  -- the gates
  have c1 := compL_filter (is := [10]) (asg := gN) (c := c1_l_called) (ev := e1_l_called) (ρ := [some (netMD net), some (nD code), some (.tup (ls.map .bl)), some (.lst ((gtsN net).map gtL)), none, none, none, none, none, none, none, none, none]) nD (fun k => [nD k]) (fun _ => rfl) (gateC (gtsN net) ls code) mvGt (List.range (gtsN net).length) (fun i hi => by
    have hi := List.mem_range.mp hi
    have hg : (gtsN net)[i]? = some ((gtsN net).getD i (0, true, [])) := by rw [List.getD_eq_getElem?_getD, List.getElem?_eq_getElem hi]; rfl
    have hls : ls[i]? = some (ls.getD i false) := by rw [List.getD_eq_getElem?_getD, List.getElem?_eq_getElem (by omega)]; rfl
    have xg : oIx (.lst ((gtsN net).map gtL)) (nD i) = .ok (gtL ((gtsN net).getD i (0, true, []))) := by rw [ix_lst, List.getElem?_map, hg]; rfl
    have xl : oIx (.tup (ls.map D.bl)) (nD i) = .ok (.bl (ls.getD i false)) := by rw [ix_tup, List.getElem?_map, hls]; rfl
    have g2 : oIx (gtL ((gtsN net).getD i (0, true, []))) (nD 2) = .ok (gateT ((gtsN net).getD i (0, true, [])).2.2) := rfl
    have up := v_l_is_up ((gtsN net).getD i (0, true, [])).2.2 (hn.r _ (List.mem_of_getElem? hg)) code
    unfold gateC
    generalize upR ((gtsN net).getD i (0, true, [])).2.2 code = u at *
    generalize ls.getD i false = l at *
    generalize gateT ((gtsN net).getD i (0, true, [])).2.2 = gt at *
    generalize gtL ((gtsN net).getD i (0, true, [])) = gtd at *
    generalize (gtsN net).map gtL = gl at *
    generalize ls.map D.bl = ll at *
    show c1_l_called [_, some (nD code), some (.tup ll), some (.lst gl), none, none, none, none, none, none, some (nD i), none, none] = _
    cases l <;> cases u <;> simp [c1_l_called, xg, xl, g2, up, -ix_lst, -ix_tup]) fun i _ _ => by
      unfold mvGt
      show e1_l_called [_, _, _, _, none, none, none, none, none, none, some (nD i), none, none] = _
      simp [e1_l_called, h2s]
  have hcg : ((List.range (gtsN net).length).filter (gateC (gtsN net) ls code)).map mvGt = calG net code ls := by
    unfold calG
    rw [flat_if]
  rw [hcg] at c1
  have hcl := calG_len (net := net) code ls
  -- the wires
  obtain ⟨ρ2, h3, x5, x6, x7, x8, x9, h4⟩ := forL_flat (is := [5, 6, 7]) (asg := gT 3) (b := b1_l_called) netM (fun p => [nD p.1, gtsT p.2.1, gtsT p.2.2]) (fun _ => rfl)
    (fun (a : List D) ρ => ∃ w5 w6 w7 w8 w9, ρ = [some (netMD net), some (nD code), some (.tup (ls.map .bl)), some (.lst ((gtsN net).map gtL)), some (.lst a), w5, w6, w7, w8, w9, none, none, none]) (fun p => if wireC (gtsN net) ls code p.1 then [mvWr p.1] else []) 2000 net (calG net code ls)
    [some (netMD net), some (nD code), some (.tup (ls.map .bl)), some (.lst ((gtsN net).map gtL)), some (.lst (calG net code ls)), none, none, none, none, none, none, none, none] ⟨_, _, _, _, _, rfl⟩ (by
      have := calW_len (net := net) code ls
      have h' := hn.n
      show _ + (calW net code ls).length ≤ _
      omega) fun a p ρ hp ⟨w5, w6, w7, w8, w9, e⟩ hb => by
      subst e
      have c2 := compL_filter (is := [11, 12]) (asg := gT 2) (c := c2_l_called) (ev := e2_l_called) (ρ := [some (netMD net), some (nD code), some (.tup (ls.map .bl)), some (.lst ((gtsN net).map gtL)), none, some (nD p.1), some (gtsT p.2.1), some (gtsT p.2.2), w8, w9, none, none, none]) (fun q : Gt × Bool => .tup [gtL q.1, .bl q.2]) (fun q => [gtL q.1, .bl q.2]) (fun _ => rfl) (fun q => q.2 && q.1.1 == p.1) (fun q => .int (sgI q.1.2.1)) ((gtsN net).zip ls) (fun q _ => by
        have i0 : oIx (gtL q.1) (nD 0) = .ok (nD q.1.1) := rfl
        generalize gtL q.1 = gq at *
        show c2_l_called [_, _, _, _, none, some (nD p.1), _, _, _, _, none, some gq, some (.bl q.2)] = _
        cases h2 : q.2 <;> simp [c2_l_called, i0]) fun q _ _ => by
          have i1 : oIx (gtL q.1) (nD 1) = .ok (.int (sgI q.1.2.1)) := rfl
          generalize gtL q.1 = gq at *
          show e2_l_called [_, _, _, _, none, some (nD p.1), _, _, _, _, none, some gq, some (.bl q.2)] = _
          simp [e2_l_called, i1]
      have hwz : (((gtsN net).zip ls).filter fun q => q.2 && q.1.1 == p.1).map (fun q => D.int (sgI q.1.2.1)) = (waysZ (gtsN net) ls p.1).map D.int := by
        unfold waysZ
        rw [List.map_map]
        rfl
      rw [hwz, ← hz] at c2
      have hmode : oIx (.lst [nD 1, .int (-1)]) (nD (code / 2 ^ p.1 % 2)) = .ok (.int (sgI (!code.testBit p.1))) := by
        have hb : code.testBit p.1 = decide (code / 2 ^ p.1 % 2 = 1) := Nat.testBit_eq_decide_div_mod_eq
        rcases Nat.mod_two_eq_zero_or_one (code / 2 ^ p.1) with h | h
        · rw [h] at hb ⊢; rw [hb]; rfl
        · rw [h] at hb ⊢; rw [hb]; rfl
      have hneg : oNeg (nD 1) = .ok (.int (-1)) := rfl
      have hsub : ∀ b : Bool, oSub (nD 0) (.int (sgI b)) = .ok (.int (sgI (!b))) := fun b => by cases b <;> rfl
      have hin := fun (neg : Bool) (b : Bool) => in_ints neg (sgI b) (waysZ (gtsN net) ls p.1)
      simp only [ways_has] at hin
      have hpw := hn.w p hp
      refine ⟨_, ?_, some (nD p.1), some (gtsT p.2.1), some (gtsT p.2.2), some (.lst ((waysZ (gtsN net) ls p.1).map D.int)), some (.int (sgI (!code.testBit p.1))), rfl⟩
      show b1_l_called [some (netMD net), some (nD code), some (.tup (ls.map .bl)), some (.lst ((gtsN net).map gtL)), some (.lst a), some (nD p.1), some (gtsT p.2.1), some (gtsT p.2.2), w8, w9, none, none, none] = _
      have hal : wireC (gtsN net) ls code p.1 = true → a.length < sizeLine := fun h => by
        rw [if_pos h, List.length_singleton] at hb
        exact th_lt (by omega)
      have hzl : (zipL ((gtsN net).map gtL) (ls.map D.bl)).length ≤ sizeLine := by
        rw [zipL_len, List.length_map, List.length_map, hl, Nat.min_self]
        exact le_line (by omega)
      unfold mvWr
      unfold wireC at hal ⊢
      have hzz : zpM [.lst ((gtsN net).map gtL), .tup (ls.map D.bl)] = .ok (zipL ((gtsN net).map gtL) (ls.map D.bl)) := rfl
      have hi1 := hin false (!code.testBit p.1)
      have hi2 := hin true (!(!code.testBit p.1))
      generalize gtsT p.2.1 = t1 at *
      generalize gtsT p.2.2 = t2 at *
      generalize netMD net = nd at *
      generalize (waysZ (gtsN net) ls p.1).map D.int = wz at *
      generalize zipL ((gtsN net).map gtL) (ls.map D.bl) = zz at *
      generalize (gtsN net).map gtL = gl at *
      generalize ls.map D.bl = ll at *
      clear hin c1 hcg hz
      have hs := hsub (!code.testBit p.1)
      generalize code.testBit p.1 = bt at *
      have fin : ∀ (ht hf : Bool) (d1 d2 : D) (r : Bool), hasG (gtsN net) ls p.1 (!bt) = ht → hasG (gtsN net) ls p.1 (!!bt) = hf → (if bt then hf && !ht else ht && !hf) = r → (r = true → a.length < sizeLine) → True := fun _ _ _ _ _ _ _ _ _ => trivial
      clear fin
      generalize D.int (sgI (!bt)) = d1 at *
      generalize D.int (sgI (!!bt)) = d2 at *
      have hr : (if bt = true then hasG (gtsN net) ls p.1 false && !hasG (gtsN net) ls p.1 true else hasG (gtsN net) ls p.1 true && !hasG (gtsN net) ls p.1 false) = (hasG (gtsN net) ls p.1 (!bt) && !hasG (gtsN net) ls p.1 (!!bt)) := by
        cases bt <;> rfl
      rw [hr] at hal ⊢
      generalize hasG (gtsN net) ls p.1 (!bt) = h1 at *
      generalize hasG (gtsN net) ls p.1 (!!bt) = h2 at *
      cases h1 <;> cases h2 <;> simp at hal hi1 hi2 <;> simp [b1_l_called, hzz, c2, hzl, hneg, hmode, hs, hi1, hi2, hal, hpw, h2s, show p.1 ≤ 1000000 by omega, -ix_lst]
  subst h4
  have hcW : calG net code ls ++ (net.flatMap fun p => if wireC (gtsN net) ls code p.1 then [mvWr p.1] else []) = calledD net code ls := rfl
  rw [hcW] at h3
  have sq : iSeq (netMD net) = .ok (net.map netM) := rfl
  have hz1 : (gtsN net).length < 4611686018427387904 := by omega
  have hz2 : (gtsN net).length ≤ sizeLine := le_line (by omega)
  generalize calG net code ls = cg at *
  generalize calledD net code ls = cd at *
  generalize (gtsN net).map gtL = gl at *
  generalize (gtsN net).length = n at *
  generalize netMD net = nd at *
  generalize net.map netM = nl at *
  have bl : bLen [.lst gl] = .ok (nD n) := by rw [bLen_lstn, hgl]
  simp [f_l_called, d_l_called, eg, bl, hz1, hz2, c1, h3, sq, -bLen_lstn]
end CW
namespace CW
open PySem PySem.Spec PyProof.Rows L2

variable {net : List NetM} {g : Graph}
def givK (g : Graph) (s : Step) : Bool := (g.wires[s.wire]?.map fun x => x.2 == toL "given").getD false
def stpM (g : Graph) (m k : Nat) : List D := match g.steps[k]? with
  | some s => if givK g s && canN s m then [mvSt k] else []
  | none => []
def stpsM (g : Graph) (m : Nat) : List D := (List.range g.steps.length).flatMap (stpM g m)
theorem stpM_len (m k : Nat) : (stpM g m k).length ≤ 1 := by
  unfold stpM
  split
  · split <;> simp
  · simp
theorem stpsM_len (m : Nat) : (stpsM g m).length ≤ g.steps.length := by
  have := flat_len (stpM g m) 1 (List.range g.steps.length) fun k _ => stpM_len m k
  rw [List.length_range] at this
  unfold stpsM
  omega
structure Gs61 (g : Graph) : Prop where
  st : GraphSt g
  wl : ∀ s ∈ g.steps, s.wire < g.wires.length
def movD (g : Graph) (net : List NetM) (x : Nat × Nat) (ls : List Bool) : List D := stpsM g x.1 ++ calledD net x.2 ls
theorem called_len (code : Nat) (ls : List Bool) (hn : NetW net) : (calledD net code ls).length ≤ 2000 := by
  have h1 := calG_len (net := net) code ls
  have h2 := calW_len (net := net) code ls
  have h3 := hn.g
  have h4 := hn.n
  unfold calledD
  rw [List.length_append]
  omega
theorem v_Play_moves (hg : Gs61 g) (hn : NetW net) (x : Nat × Nat) (ls : List Bool) (hl : ls.length = (gtsN net).length) : f_Play_moves [plyD (graphD g) net x ls] = .ok (movD g net x ls) := by
  have ec := v_Play_called (graphD g) hn x ls hl
  have p0 : plyF 0 (plyD (graphD g) net x ls) = .ok (graphD g) := rfl
  have p2 : plyF 2 (plyD (graphD g) net x ls) = .ok (keyT x) := rfl
  have hgl := hg.st.1
  have h2s : (2 : Nat) ≤ sizeLine := le_line (by decide)
  have i0 : oIx (graphD g) (nD 0) = .ok (wiresD g.wires) := ix_graph0 g
  have i1 : oIx (graphD g) (nD 1) = .ok (stepsD g.steps) := ix_graph1 g
  obtain ⟨ρ1, h1, w2, h2⟩ := forL_flat (is := [2]) (asg := gN) (b := b1_Play_moves) nD (fun k => [nD k]) (fun _ => rfl)
    (fun (a : List D) ρ => ∃ w2, ρ = [some (plyD (graphD g) net x ls), some (.lst a), w2]) (stpM g x.1) 1000 (List.range g.steps.length) [] [some (plyD (graphD g) net x ls), some (.lst []), none] ⟨_, rfl⟩ (by
      have := stpsM_len (g := g) x.1
      rw [List.length_nil, Nat.zero_add]
      exact Nat.le_trans this hgl) fun a k ρ hk ⟨w2, e⟩ hb => by
      subst e
      have hk := List.mem_range.mp hk
      obtain ⟨s, hs⟩ : ∃ s, g.steps[k]? = some s := ⟨_, List.getElem?_eq_getElem hk⟩
      have hm := List.mem_of_getElem? hs
      obtain ⟨wd, hw⟩ : ∃ wd, g.wires[s.wire]? = some wd := ⟨_, List.getElem?_eq_getElem (hg.wl s hm)⟩
      have xs : oIx (stepsD g.steps) (nD k) = .ok (stepD s) := by rw [ix_stepsD, hs]; rfl
      have s0 : oIx (stepD s) (nD 0) = .ok (nD s.wire) := rfl
      have xw : oIx (wiresD g.wires) (nD s.wire) = .ok (wireD wd) := by rw [ix_wiresD, hw]; rfl
      have w1 : oIx (wireD wd) (nD 1) = .ok (sD wd.2) := rfl
      have hc : f_can [graphD g, keyT x, nD k] = .ok (.bl (canN s x.1)) := v_can hs (hg.st.2 s hm).ok x.1 (nD x.2)
      have hgk : givK g s = (wd.2 == toL "given") := by unfold givK; rw [hw]; rfl
      refine ⟨_, ?_, some (nD k), rfl⟩
      show b1_Play_moves [some (plyD (graphD g) net x ls), some (.lst a), some (nD k)] = _
      have hst : stpM g x.1 k = if givK g s && canN s x.1 then [mvSt k] else [] := by unfold stpM; rw [hs]
      rw [hst, hgk] at hb ⊢
      unfold mvSt at hb ⊢
      have hal : a.length < sizeLine ∨ ((wd.2 == toL "given") && canN s x.1) = false := by
        cases h : ((wd.2 == toL "given") && canN s x.1) with
        | false => exact .inr rfl
        | true => rw [h] at hb; simp at hb; exact .inl (th_lt (by omega))
      generalize stepD s = sd at *
      generalize wireD wd = wx at *
      generalize stepsD g.steps = ssd at *
      generalize wiresD g.wires = wsd at *
      generalize plyD (graphD g) net x ls = pd at *
      generalize graphD g = gd at *
      generalize keyT x = kx at *
      cases hq : wd.2 == toL "given" with
      | false => simp [b1_Play_moves, p0, p2, i0, i1, xs, s0, xw, w1, hq]
      | true =>
        cases hcn : canN s x.1 with
        | false =>
          rw [hcn] at hc
          simp [b1_Play_moves, p0, p2, i0, i1, xs, s0, xw, w1, hq, hc]
        | true =>
          rw [hcn] at hc
          rw [hq, hcn] at hal
          simp at hal
          simp [b1_Play_moves, p0, p2, i0, i1, xs, s0, xw, w1, hq, hc, hal, h2s]
  subst h2
  have hs : [] ++ (List.range g.steps.length).flatMap (stpM g x.1) = stpsM g x.1 := rfl
  rw [hs] at h1
  have bl : bLen [stepsD g.steps] = .ok (nD g.steps.length) := len_stepsD _
  have hsz : (stpsM g x.1).length + (calledD net x.2 ls).length ≤ sizeLine := le_line (by
    have := stpsM_len (g := g) x.1
    have := called_len x.2 ls hn
    omega)
  have hz1 : g.steps.length < 4611686018427387904 := by omega
  have hz2 : g.steps.length ≤ sizeLine := le_line (by omega)
  unfold movD
  have hobj : ∀ k : Out (List D), objO (plyD (graphD g) net x ls) k = k := fun _ => rfl
  generalize stpsM g x.1 = sl at *
  generalize calledD net x.2 ls = cl at *
  generalize plyD (graphD g) net x ls = pd at *
  generalize stepsD g.steps = ssd at *
  generalize graphD g = gd at *
  simp [f_Play_moves, d_Play_moves, p0, i1, bl, hz1, hz2, h1, ec, hobj, hsz]
theorem v_l_moves (hg : Gs61 g) (hn : NetW net) (x : Nat × Nat) (ls : List Bool) (hl : ls.length = (gtsN net).length) : f_l_moves [graphD g, netMD net, .tup [keyT x, .tup (ls.map .bl)]] = .ok (.lst (movD g net x ls)) := by
  have ec := v_l_called hn x.2 ls hl
  have hgl := hg.st.1
  have h2s : (2 : Nat) ≤ sizeLine := le_line (by decide)
  have i0 : oIx (graphD g) (nD 0) = .ok (wiresD g.wires) := ix_graph0 g
  have i1 : oIx (graphD g) (nD 1) = .ok (stepsD g.steps) := ix_graph1 g
  have d0 : oIx (.tup [keyT x, .tup (ls.map .bl)]) (nD 0) = .ok (keyT x) := rfl
  have d1 : oIx (.tup [keyT x, .tup (ls.map .bl)]) (nD 1) = .ok (.tup (ls.map .bl)) := rfl
  have k1 := ix_keyT1 x
  obtain ⟨ρ1, h1, w4, h2⟩ := forL_flat (is := [4]) (asg := gN) (b := b1_l_moves) nD (fun k => [nD k]) (fun _ => rfl)
    (fun (a : List D) ρ => ∃ w4, ρ = [some (graphD g), some (netMD net), some (.tup [keyT x, .tup (ls.map .bl)]), some (.lst a), w4]) (stpM g x.1) 1000 (List.range g.steps.length) [] [some (graphD g), some (netMD net), some (.tup [keyT x, .tup (ls.map .bl)]), some (.lst []), none] ⟨_, rfl⟩ (by
      have := stpsM_len (g := g) x.1
      rw [List.length_nil, Nat.zero_add]
      exact Nat.le_trans this hgl) fun a k ρ hk ⟨w4, e⟩ hb => by
      subst e
      have hk := List.mem_range.mp hk
      obtain ⟨s, hs⟩ : ∃ s, g.steps[k]? = some s := ⟨_, List.getElem?_eq_getElem hk⟩
      have hm := List.mem_of_getElem? hs
      obtain ⟨wd, hw⟩ : ∃ wd, g.wires[s.wire]? = some wd := ⟨_, List.getElem?_eq_getElem (hg.wl s hm)⟩
      have xs : oIx (stepsD g.steps) (nD k) = .ok (stepD s) := by rw [ix_stepsD, hs]; rfl
      have s0 : oIx (stepD s) (nD 0) = .ok (nD s.wire) := rfl
      have xw : oIx (wiresD g.wires) (nD s.wire) = .ok (wireD wd) := by rw [ix_wiresD, hw]; rfl
      have w1 : oIx (wireD wd) (nD 1) = .ok (sD wd.2) := rfl
      have hc := v_l_can_3 hs (hg.st.2 s hm) (st := keyT x) (m := x.1) (ix_keyT0 x)
      have hgk : givK g s = (wd.2 == toL "given") := by unfold givK; rw [hw]; rfl
      refine ⟨_, ?_, some (nD k), rfl⟩
      show b1_l_moves [some (graphD g), some (netMD net), some (.tup [keyT x, .tup (ls.map .bl)]), some (.lst a), some (nD k)] = _
      have hst : stpM g x.1 k = if givK g s && canN s x.1 then [mvSt k] else [] := by unfold stpM; rw [hs]
      rw [hst, hgk] at hb ⊢
      unfold mvSt at hb ⊢
      have hal : a.length < sizeLine ∨ ((wd.2 == toL "given") && canN s x.1) = false := by
        cases h : ((wd.2 == toL "given") && canN s x.1) with
        | false => exact .inr rfl
        | true => rw [h] at hb; simp at hb; exact .inl (th_lt (by omega))
      generalize D.tup [keyT x, .tup (ls.map .bl)] = dd at *
      generalize stepD s = sd at *
      generalize wireD wd = wx at *
      generalize stepsD g.steps = ssd at *
      generalize wiresD g.wires = wsd at *
      generalize netMD net = nd at *
      generalize graphD g = gd at *
      generalize keyT x = kx at *
      cases hq : wd.2 == toL "given" with
      | false => simp [b1_l_moves, d0, i0, i1, xs, s0, xw, w1, hq]
      | true =>
        cases hcn : canN s x.1 with
        | false =>
          rw [hcn] at hc
          simp [b1_l_moves, d0, i0, i1, xs, s0, xw, w1, hq, hc]
        | true =>
          rw [hcn] at hc
          rw [hq, hcn] at hal
          simp at hal
          simp [b1_l_moves, d0, i0, i1, xs, s0, xw, w1, hq, hc, hal, h2s]
  subst h2
  have hs : [] ++ (List.range g.steps.length).flatMap (stpM g x.1) = stpsM g x.1 := rfl
  rw [hs] at h1
  have bl : bLen [stepsD g.steps] = .ok (nD g.steps.length) := len_stepsD _
  have hsz : (stpsM g x.1).length + (calledD net x.2 ls).length ≤ sizeLine := le_line (by
    have := stpsM_len (g := g) x.1
    have := called_len x.2 ls hn
    omega)
  have hz1 : g.steps.length < 4611686018427387904 := by omega
  have hz2 : g.steps.length ≤ sizeLine := le_line (by omega)
  unfold movD
  generalize stpsM g x.1 = sl at *
  generalize calledD net x.2 ls = cl at *
  generalize D.tup [keyT x, .tup (ls.map .bl)] = dd at *
  generalize D.tup (ls.map .bl) = ld at *
  generalize stepsD g.steps = ssd at *
  generalize netMD net = nd at *
  generalize graphD g = gd at *
  generalize keyT x = kx at *
  simp [f_l_moves, d_l_moves, d0, d1, k1, i1, bl, hz1, hz2, h1, ec, hsz]
theorem okD_mov (x : Nat × Nat) (ls : List Bool) : okD 60 (.lst (movD g net x ls)) = true := by
  have a1 : okD 58 (sD (toL "gate")) = true := by decide +kernel
  have a2 : okD 58 (sD (toL "wire")) = true := by decide +kernel
  have a3 : okD 58 (sD (toL "step")) = true := by decide +kernel
  have b1 : ∀ i, okD 59 (mvGt i) = true := fun i => by unfold mvGt; rw [okD_tup, okDs_cons, okDs_cons, okDs_nil, a1, okD_nD]; rfl
  have b2 : ∀ i, okD 59 (mvWr i) = true := fun i => by unfold mvWr; rw [okD_tup, okDs_cons, okDs_cons, okDs_nil, a2, okD_nD]; rfl
  have b3 : ∀ i, okD 59 (mvSt i) = true := fun i => by unfold mvSt; rw [okD_tup, okDs_cons, okDs_cons, okDs_nil, a3, okD_nD]; rfl
  rw [okD_lst, okDs_eq, List.all_eq_true]
  intro d hd
  unfold movD calledD calG calW stpsM at hd
  rcases List.mem_append.mp hd with hd | hd
  · obtain ⟨k, _, hk⟩ := List.mem_flatMap.mp hd
    unfold stpM at hk
    split at hk
    · split at hk
      · rw [List.mem_singleton.mp hk]; exact b3 _
      · exact absurd hk List.not_mem_nil
    · exact absurd hk List.not_mem_nil
  · rcases List.mem_append.mp hd with hd | hd
    · obtain ⟨k, _, hk⟩ := List.mem_flatMap.mp hd
      split at hk
      · rw [List.mem_singleton.mp hk]; exact b1 _
      · exact absurd hk List.not_mem_nil
    · obtain ⟨k, _, hk⟩ := List.mem_flatMap.mp hd
      split at hk
      · rw [List.mem_singleton.mp hk]; exact b2 _
      · exact absurd hk List.not_mem_nil
end CW
namespace CW
open PySem PySem.Spec PyProof.Rows L2

variable {net : List NetM} {g : Graph}
def lv0 (net : List NetM) (code : Nat) : List Bool := (gtsN net).map fun x => upR x.2.2 code
theorem v_Play_init (hn : NetW net) : f_Play___init__ [graphD g, netMD net] = .ok [graphD g, netMD net, keyT (g.marks, g.code), .lst ((lv0 net g.code).map .bl)] := by
  have eg := v_gates_of hn.g
  have hng := hn.g
  have i2 : oIx (graphD g) (nD 2) = .ok (nD g.marks) := rfl
  have i3 : oIx (graphD g) (nD 3) = .ok (nD g.code) := rfl
  have h2s : (2 : Nat) ≤ sizeLine := le_line (by decide)
  have c1 := compL_map (is := [3, 4, 5]) (asg := gT 3) (ev := e1_Play___init__) (ρ := [none, some (graphD g), some (netMD net), none, none, none]) gtD (fun x => [nD x.1, .bl x.2.1, gateT x.2.2]) (fun _ => rfl) (fun x => .bl (upR x.2.2 g.code)) (gtsN net) (fun x _ => by
    have up := v_is_upT x.2.2 g.code
    generalize gateT x.2.2 = gt at *
    generalize graphD g = gd at *
    show e1_Play___init__ [none, some gd, _, some (nD x.1), some (.bl x.2.1), some gt] = _
    simp [e1_Play___init__, i3, up])
  have hl : (gtsN net).map (fun x => D.bl (upR x.2.2 g.code)) = (lv0 net g.code).map D.bl := by
    unfold lv0
    rw [List.map_map]
    rfl
  rw [hl] at c1
  have hgl : ((gtsN net).map gtD).length ≤ sizeLine := by rw [List.length_map]; exact le_line (by omega)
  have hk : keyT (g.marks, g.code) = .tup [nD g.marks, nD g.code] := rfl
  rw [hk]
  generalize (lv0 net g.code).map D.bl = ll at *
  generalize (gtsN net).map gtD = gl at *
  generalize netMD net = nd at *
  generalize graphD g = gd at *
  unfold f_Play___init__ runP
  rw [if_pos ⟨rfl, rfl⟩]
  simp [i2, i3, h2s, eg, hgl, c1, -keyT_fold]
theorem v_l_begun (hn : NetW net) : f_l_begun [graphD g, netMD net] = .ok (.tup [keyT (g.marks, g.code), .tup ((lv0 net g.code).map .bl)]) := by
  have eg := v_l_gates hn.g
  have hng := hn.g
  have i2 : oIx (graphD g) (nD 2) = .ok (nD g.marks) := rfl
  have i3 : oIx (graphD g) (nD 3) = .ok (nD g.code) := rfl
  have h2s : (2 : Nat) ≤ sizeLine := le_line (by decide)
  have c1 := compL_map (is := [2]) (asg := gN) (ev := e1_l_begun) (ρ := [some (graphD g), some (netMD net), none]) gtL (fun x => [gtL x]) (fun _ => rfl) (fun x => .bl (upR x.2.2 g.code)) (gtsN net) (fun x hx => by
    have up := v_l_is_up x.2.2 (hn.r x hx) g.code
    have g2 : oIx (gtL x) (nD 2) = .ok (gateT x.2.2) := rfl
    generalize gateT x.2.2 = gt at *
    generalize gtL x = gtd at *
    generalize graphD g = gd at *
    show e1_l_begun [some gd, _, some gtd] = _
    simp [e1_l_begun, i3, up, g2])
  have hl : (gtsN net).map (fun x => D.bl (upR x.2.2 g.code)) = (lv0 net g.code).map D.bl := by
    unfold lv0
    rw [List.map_map]
    rfl
  rw [hl] at c1
  have hgl : ((gtsN net).map gtL).length ≤ sizeLine := by rw [List.length_map]; exact le_line (by omega)
  have hk : keyT (g.marks, g.code) = .tup [nD g.marks, nD g.code] := rfl
  rw [hk]
  have ht : bTuple [.lst ((lv0 net g.code).map D.bl)] = .ok (.tup ((lv0 net g.code).map D.bl)) := rfl
  generalize (lv0 net g.code).map D.bl = ll at *
  generalize (gtsN net).map gtL = gl at *
  generalize netMD net = nd at *
  generalize graphD g = gd at *
  simp [f_l_begun, d_l_begun, i2, i3, h2s, eg, hgl, c1, ht, -keyT_fold]
theorem v_l_begins (hg : Gs61 g) (hn : NetW net) : f_l_begins [graphD g, netMD net] = .ok (.bl true) := by
  have e0 := v_Play_init (g := g) hn
  have e1 := v_l_begun (g := g) hn
  have hll : (lv0 net g.code).length = (gtsN net).length := List.length_map _
  have hng := hn.g
  have em := v_Play_moves hg hn (g.marks, g.code) (lv0 net g.code) hll
  have el := v_l_moves hg hn (g.marks, g.code) (lv0 net g.code) hll
  have hok := okD_mov (g := g) (net := net) (g.marks, g.code) (lv0 net g.code)
  have oe := oEq_self hok
  have one := oNe_self hok
  have ml : (movD g net (g.marks, g.code) (lv0 net g.code)).length < sizeLine := by
    have h1 := stpsM_len (g := g) g.marks
    have h2 := called_len (net := net) g.code (lv0 net g.code) hn
    have h3 := hg.st.1
    have : (movD g net (g.marks, g.code) (lv0 net g.code)).length = (stpsM g g.marks).length + (calledD net g.code (lv0 net g.code)).length := by
      unfold movD
      rw [List.length_append]
    exact lt_line (by omega)
  have hpl : D.obj [graphD g, netMD net, keyT (g.marks, g.code), .lst ((lv0 net g.code).map .bl)] = plyD (graphD g) net (g.marks, g.code) (lv0 net g.code) := rfl
  have hobj : ∀ {α : Type} (k : Out α), objO (plyD (graphD g) net (g.marks, g.code) (lv0 net g.code)) k = k := fun _ => rfl
  have p2 : plyF 2 (plyD (graphD g) net (g.marks, g.code) (lv0 net g.code)) = .ok (keyT (g.marks, g.code)) := rfl
  have p3 : plyF 3 (plyD (graphD g) net (g.marks, g.code) (lv0 net g.code)) = .ok (.lst ((lv0 net g.code).map .bl)) := rfl
  have est : f_Play_stand [plyD (graphD g) net (g.marks, g.code) (lv0 net g.code)] = .ok (keyT (g.marks, g.code)) := by
    generalize plyD (graphD g) net (g.marks, g.code) (lv0 net g.code) = pd at *
    generalize keyT (g.marks, g.code) = kx at *
    simp [f_Play_stand, d_Play_stand, p2]
  have d0 : oIx (.tup [keyT (g.marks, g.code), .tup ((lv0 net g.code).map .bl)]) (nD 0) = .ok (keyT (g.marks, g.code)) := rfl
  have d1 : oIx (.tup [keyT (g.marks, g.code), .tup ((lv0 net g.code).map .bl)]) (nD 1) = .ok (.tup ((lv0 net g.code).map .bl)) := rfl
  have hlb : ((lv0 net g.code).map D.bl).length = (gtsN net).length := by rw [List.length_map, hll]
  have bl1 : bLen [.tup ((lv0 net g.code).map D.bl)] = .ok (nD (gtsN net).length) := by rw [bLen_tupn, hlb]
  -- the levels
  have c1 := compL_map (is := [6]) (asg := gN) (ev := e1_l_begins) (ρ := [some (graphD g), some (netMD net), some (plyD (graphD g) net (g.marks, g.code) (lv0 net g.code)), some (.tup [keyT (g.marks, g.code), .tup ((lv0 net g.code).map .bl)]), none, none, none, none]) nD (fun k => [nD k]) (fun _ => rfl) (fun i => .bl ((lv0 net g.code).getD i false)) (List.range (gtsN net).length) (fun i hi => by
    have hi := List.mem_range.mp hi
    have hls : (lv0 net g.code)[i]? = some ((lv0 net g.code).getD i false) := by rw [List.getD_eq_getElem?_getD, List.getElem?_eq_getElem (by omega)]; rfl
    have xl : oIx (.lst ((lv0 net g.code).map D.bl)) (nD i) = .ok (.bl ((lv0 net g.code).getD i false)) := by rw [ix_lst, List.getElem?_map, hls]; rfl
    have ev : f_Play_level [plyD (graphD g) net (g.marks, g.code) (lv0 net g.code), nD i] = .ok (.bl ((lv0 net g.code).getD i false)) := by
      generalize plyD (graphD g) net (g.marks, g.code) (lv0 net g.code) = pd at *
      generalize (lv0 net g.code).map D.bl = ll at *
      generalize (lv0 net g.code).getD i false = b at *
      simp [f_Play_level, d_Play_level, p3, xl, -ix_lst]
    have hob : ∀ (k : Out D), objO (plyD (graphD g) net (g.marks, g.code) (lv0 net g.code)) k = k := fun _ => rfl
    generalize plyD (graphD g) net (g.marks, g.code) (lv0 net g.code) = pd at *
    generalize (lv0 net g.code).getD i false = b at *
    show e1_l_begins [_, _, some pd, _, none, none, some (nD i), none] = _
    simp [e1_l_begins, ev, hob])
  have hc1 : (List.range (gtsN net).length).map (fun i => D.bl ((lv0 net g.code).getD i false)) = (lv0 net g.code).map D.bl := by
    refine List.ext_getElem (by simp [hll]) fun i h1 h2 => ?_
    have h3 : i < (lv0 net g.code).length := by simpa using h2
    simp [h3]
  rw [hc1] at c1
  have c2 := compL_filter (is := [7]) (asg := gN) (c := c1_l_begins) (ev := eV 7) (ρ := [some (graphD g), some (netMD net), some (plyD (graphD g) net (g.marks, g.code) (lv0 net g.code)), some (.tup [keyT (g.marks, g.code), .tup ((lv0 net g.code).map .bl)]), some (.lst ((lv0 net g.code).map .bl)), none, none, none]) D.bl (fun b => [.bl b]) (fun _ => rfl) (fun _ => false) D.bl (lv0 net g.code) (fun b _ => by
    have hb : isD .bool (.bl b) = .ok (.bl true) := rfl
    show c1_l_begins [_, _, _, _, _, none, none, some (.bl b)] = _
    simp [c1_l_begins, hb]) fun b _ h => by cases h
  have hfe : ((lv0 net g.code).filter fun _ => false).map D.bl = [] := by
    rw [List.filter_eq_nil_iff.mpr (fun _ _ h => by cases h)]
    rfl
  rw [hfe] at c2
  have okk := oNe_self (okD_keyT 59 (g.marks, g.code))
  have okl : oNe (.tup ((lv0 net g.code).map D.bl)) (.tup ((lv0 net g.code).map D.bl)) = .ok (.bl false) := oNe_self (by
    rw [okD_tup, okDs_map, List.all_eq_true]
    exact fun _ _ => okD_bl _ _)
  have ist : isD .tuple (keyT (g.marks, g.code)) = .ok (.bl true) := rfl
  have bt : bTuple [.lst ((lv0 net g.code).map D.bl)] = .ok (.tup ((lv0 net g.code).map D.bl)) := rfl
  have isl : isD .list (.lst (movD g net (g.marks, g.code) (lv0 net g.code))) = .ok (.bl true) := rfl
  have sq : iSeq (.lst ((lv0 net g.code).map D.bl)) = .ok ((lv0 net g.code).map D.bl) := rfl
  have hz1 : (gtsN net).length < 4611686018427387904 := by omega
  have hz2 : (gtsN net).length ≤ sizeLine := le_line (by omega)
  have h2s : (2 : Nat) ≤ sizeLine := le_line (by decide)
  have hob1 : ∀ (k : Out D), objO (plyD (graphD g) net (g.marks, g.code) (lv0 net g.code)) k = k := fun _ => rfl
  have hob2 : ∀ (k : Out (List D)), objO (plyD (graphD g) net (g.marks, g.code) (lv0 net g.code)) k = k := fun _ => rfl
  clear hobj p2 p3
  generalize movD g net (g.marks, g.code) (lv0 net g.code) = mv at *
  generalize hPD : plyD (graphD g) net (g.marks, g.code) (lv0 net g.code) = pd at *
  generalize hDU : D.tup [keyT (g.marks, g.code), .tup ((lv0 net g.code).map .bl)] = du at *
  generalize D.tup ((lv0 net g.code).map D.bl) = lt at *
  generalize (lv0 net g.code).map D.bl = ll at *
  generalize (gtsN net).length = n at *
  generalize keyT (g.marks, g.code) = kx at *
  generalize netMD net = nd at *
  generalize graphD g = gd at *
  simp [f_l_begins, d_l_begins, e0, e1, hpl, hob1, hob2, est, d0, d1, bl1, hz1, hz2, c1, okk, okl, ist, bt, hlb, sq, c2, em, el, isl, one, ml, oe, h2s]
end CW
namespace CW
open PySem PySem.Spec PyProof.Rows L2

variable {net : List NetM} {g : Graph}
def aprG (gs : List Gte) : List Gte := gs.flatMap fun rs => rs.map fun r => [r]
def aprP (p : NetM) : NetM := (p.1, aprG p.2.1, aprG p.2.2)
def aprN (net : List NetM) : List NetM := net.map aprP
structure NetB (B : Nat) (net : List NetM) : Prop where
  n : net.length ≤ 10
  w : ∀ p ∈ net, p.1 ≤ 10
  g : ∀ p ∈ net, p.2.1.length ≤ 2 ∧ p.2.2.length ≤ 2
  r : ∀ p ∈ net, (∀ rs ∈ p.2.1, rs.length ≤ B) ∧ ∀ rs ∈ p.2.2, rs.length ≤ B
theorem gtsOf_mem {p : NetM} {x : Gt} (h : x ∈ gtsOf p) : x.2.2 ∈ p.2.1 ∨ x.2.2 ∈ p.2.2 := by
  unfold gtsOf at h
  rcases List.mem_append.mp h with h | h
  · obtain ⟨r, hr, rfl⟩ := List.mem_map.mp h
    exact .inl hr
  · obtain ⟨r, hr, rfl⟩ := List.mem_map.mp h
    exact .inr hr
theorem gtsOf_len (p : NetM) : (gtsOf p).length = p.2.1.length + p.2.2.length := by
  unfold gtsOf
  rw [List.length_append, List.length_map, List.length_map]
theorem NetB.nw {B : Nat} (h : NetB B net) (hB : B ≤ 1000) : NetW net where
  n := by have := h.n; omega
  g := by
    have h1 := flat_len gtsOf 4 net fun p hp => by
      have := h.g p hp
      rw [gtsOf_len]
      omega
    have := h.n
    unfold gtsN
    omega
  r := fun x hx => by
    obtain ⟨p, hp, hx⟩ := List.mem_flatMap.mp hx
    rcases gtsOf_mem hx with h1 | h1
    · exact Nat.le_trans ((h.r p hp).1 _ h1) hB
    · exact Nat.le_trans ((h.r p hp).2 _ h1) hB
  w := fun p hp => by have := h.w p hp; omega
theorem aprG_one {gs : List Gte} {rs : Gte} (h : rs ∈ aprG gs) : rs.length = 1 := by
  obtain ⟨a, _, h⟩ := List.mem_flatMap.mp h
  obtain ⟨r, _, rfl⟩ := List.mem_map.mp h
  rfl
theorem apr_nw {B : Nat} (h : NetB B net) (hl : (gtsN (aprN net)).length ≤ 40) : NetW (aprN net) where
  n := by unfold aprN; rw [List.length_map]; have := h.n; omega
  g := by omega
  r := fun x hx => by
    obtain ⟨p, hp, hx⟩ := List.mem_flatMap.mp hx
    obtain ⟨q, _, rfl⟩ := List.mem_map.mp hp
    rcases gtsOf_mem hx with h1 | h1
    · rw [aprG_one h1]; decide
    · rw [aprG_one h1]; decide
  w := fun p hp => by
    obtain ⟨q, hq, rfl⟩ := List.mem_map.mp hp
    have := h.w q hq
    show q.1 ≤ 1000
    omega
theorem gate_one (r : Nat × Nat) : D.tup [keyT r] = gateT [r] := rfl
theorem apr_len {B : Nat} {gs : List Gte} (h : ∀ rs ∈ gs, rs.length ≤ B) : (aprG gs).length ≤ gs.length * B := flat_len _ B gs fun rs hr => by
  rw [List.length_map]
  exact h rs hr
theorem v_rows_apart {B : Nat} (hB : B ≤ 1000) {gs : List Gte} (h2 : gs.length ≤ 2) (hr : ∀ rs ∈ gs, rs.length ≤ B) : f_rows_apart [gtsT gs] = .ok (gtsT (aprG gs)) := by
  have h1s : (1 : Nat) ≤ sizeLine := le_line (by decide)
  have hal := apr_len hr
  have hmb : gs.length * B ≤ 2 * 1000 := Nat.mul_le_mul h2 hB
  obtain ⟨ρ', h1, w2, h3⟩ := forL_flat (is := [2]) (asg := gN) (b := b1_rows_apart) gateT (fun r => [gateT r]) (fun _ => rfl)
    (fun (a : List Gte) ρ => ∃ w2, ρ = [some (gtsT gs), some (.lst (a.map gateT)), w2, none]) (fun rs => rs.map fun r => [r]) 2000 gs [] [some (gtsT gs), some (.lst []), none, none] ⟨_, rfl⟩ (by
      rw [List.length_nil, Nat.zero_add]
      exact Nat.le_trans hal hmb) fun a rs ρ hrs ⟨w2, e⟩ hb => by
      subst e
      have c1 := compL_map (is := [3]) (asg := gN) (ev := e1_rows_apart) (ρ := [some (gtsT gs), none, some (gateT rs), none]) keyT (fun r => [keyT r]) (fun _ => rfl) (fun r => gateT [r]) rs (fun r _ => by
        rw [← gate_one]
        generalize keyT r = kr
        show e1_rows_apart [_, none, _, some kr] = _
        simp [e1_rows_apart, h1s])
      have hm : (a ++ rs.map fun r => [r]).map gateT = a.map gateT ++ rs.map fun r => gateT [r] := by
        rw [List.map_append, List.map_map]
        rfl
      have sq : iSeq (gateT rs) = .ok (rs.map keyT) := rfl
      have hl1 : (rs.map keyT).length ≤ sizeLine := by rw [List.length_map]; exact le_line (by have := hr rs hrs; omega)
      have hl2 : (a.map gateT).length + (rs.map fun r => gateT [r]).length ≤ sizeLine := by
        rw [List.length_map, List.length_map]
        rw [List.length_map] at hb
        exact le_line (by omega)
      refine ⟨_, ?_, some (gateT rs), rfl⟩
      rw [hm]
      show b1_rows_apart [some (gtsT gs), some (.lst (a.map gateT)), some (gateT rs), none] = _
      generalize (rs.map fun r => gateT [r]) = ol at *
      generalize a.map gateT = al at *
      generalize rs.map keyT = kl at *
      generalize gateT rs = gr at *
      generalize gtsT gs = gg at *
      simp [b1_rows_apart, sq, hl1, c1, hl2]
  subst h3
  have he : [] ++ (gs.flatMap fun rs => rs.map fun r => [r]) = aprG gs := rfl
  rw [he] at h1
  have sq : iSeq (gtsT gs) = .ok (gs.map gateT) := rfl
  have ht : bTuple [.lst ((aprG gs).map gateT)] = .ok (gtsT (aprG gs)) := rfl
  generalize (aprG gs).map gateT = al at *
  generalize gtsT (aprG gs) = res at *
  generalize gs.map gateT = gl at *
  generalize gtsT gs = gg at *
  simp [f_rows_apart, d_rows_apart, sq, h1, ht]
theorem v_apart {B : Nat} (hB : B ≤ 1000) (h : NetB B net) : f_apart [netMD net] = .ok (netMD (aprN net)) := by
  have h3s : (3 : Nat) ≤ sizeLine := le_line (by decide)
  have hn := h.n
  obtain ⟨ρ', h1, w2, w3, w4, h2⟩ := forL_flat (is := [2, 3, 4]) (asg := gT 3) (b := b1_apart) netM (fun p => [nD p.1, gtsT p.2.1, gtsT p.2.2]) (fun _ => rfl)
    (fun (a : List NetM) ρ => ∃ w2 w3 w4, ρ = [some (netMD net), some (.lst (a.map netM)), w2, w3, w4]) (fun p => [aprP p]) 1000 net [] [some (netMD net), some (.lst []), none, none, none] ⟨_, _, _, rfl⟩ (by
      have := flat_len (fun p : NetM => [aprP p]) 1 net fun _ _ => Nat.le_refl _
      rw [List.length_nil, Nat.zero_add]
      omega) fun a p ρ hp ⟨w2, w3, w4, e⟩ hb => by
      subst e
      have e1 := v_rows_apart hB (h.g p hp).1 (h.r p hp).1
      have e2 := v_rows_apart hB (h.g p hp).2 (h.r p hp).2
      have hm : (a ++ [aprP p]).map netM = a.map netM ++ [.tup [nD p.1, gtsT (aprG p.2.1), gtsT (aprG p.2.2)]] := by
        rw [List.map_append]
        rfl
      have hal : (a.map netM).length < sizeLine := by
        rw [List.length_map]
        rw [List.length_singleton] at hb
        exact th_lt (by omega)
      refine ⟨_, ?_, some (nD p.1), some (gtsT p.2.1), some (gtsT p.2.2), rfl⟩
      rw [hm]
      show b1_apart [some (netMD net), some (.lst (a.map netM)), some (nD p.1), some (gtsT p.2.1), some (gtsT p.2.2)] = _
      generalize gtsT (aprG p.2.1) = r1 at *
      generalize gtsT (aprG p.2.2) = r2 at *
      generalize gtsT p.2.1 = t1 at *
      generalize gtsT p.2.2 = t2 at *
      generalize a.map netM = al at *
      generalize netMD net = nd at *
      simp [b1_apart, e1, e2, hal, h3s]
  subst h2
  have he : [] ++ (net.flatMap fun p => [aprP p]) = aprN net := by
    rw [List.nil_append]
    unfold aprN
    rw [← List.map_eq_flatMap]
  rw [he] at h1
  have sq : iSeq (netMD net) = .ok (net.map netM) := rfl
  have ht : bTuple [.lst ((aprN net).map netM)] = .ok (netMD (aprN net)) := rfl
  generalize (aprN net).map netM = al at *
  generalize netMD (aprN net) = res at *
  generalize net.map netM = nl at *
  generalize netMD net = nd at *
  simp [f_apart, d_apart, sq, h1, ht]
theorem v_l_apart {B : Nat} (hB : B ≤ 1000) (h : NetB B net) : f_l_apart [netMD net] = .ok (netMD (aprN net)) := by
  have h3s : (3 : Nat) ≤ sizeLine := le_line (by decide)
  have h2s : (2 : Nat) ≤ sizeLine := le_line (by decide)
  have h1s : (1 : Nat) ≤ sizeLine := le_line (by decide)
  have hn := h.n
  -- one side
  have side : ∀ (nd ol : Option D) (v2 v3 v4 : Option D) (bl : List D) (gs : List Gte) (v7 v8 : Option D), bl.length ≤ 5 → gs.length ≤ 2 → (∀ rs ∈ gs, rs.length ≤ B) → ∃ w7 w8, b2_l_apart [nd, ol, v2, v3, v4, some (.lst bl), some (gtsT gs), v7, v8, none] = .nx [nd, ol, v2, v3, v4, some (.lst (bl ++ [gtsT (aprG gs)])), some (gtsT gs), w7, w8, none] := fun nd ol v2 v3 v4 bl gs v7 v8 hbl h2 hr => by
    have hal := apr_len hr
    have hmb : gs.length * B ≤ 2 * 1000 := Nat.mul_le_mul h2 hB
    obtain ⟨ρ', h1, w8, h3⟩ := forL_flat (is := [8]) (asg := gN) (b := b1_l_apart) gateT (fun r => [gateT r]) (fun _ => rfl)
      (fun (a : List Gte) ρ => ∃ w8, ρ = [nd, ol, v2, v3, v4, some (.lst bl), some (gtsT gs), some (.lst (a.map gateT)), w8, none]) (fun rs => rs.map fun r => [r]) 2000 gs [] [nd, ol, v2, v3, v4, some (.lst bl), some (gtsT gs), some (.lst []), v8, none] ⟨_, rfl⟩ (by
        rw [List.length_nil, Nat.zero_add]
        exact Nat.le_trans hal hmb) fun a rs ρ hrs ⟨w8, e⟩ hb => by
        subst e
        have c1 := compL_map (is := [9]) (asg := gN) (ev := e1_l_apart) (ρ := [nd, none, v2, v3, v4, none, some (gtsT gs), some (.lst (a.map gateT)), some (gateT rs), none]) keyT (fun r => [keyT r]) (fun _ => rfl) (fun r => gateT [r]) rs (fun r _ => by
          rw [← gate_one]
          generalize keyT r = kr
          show e1_l_apart [_, _, _, _, _, none, _, _, _, some kr] = _
          simp [e1_l_apart, h1s])
        have hm : (a ++ rs.map fun r => [r]).map gateT = a.map gateT ++ rs.map fun r => gateT [r] := by
          rw [List.map_append, List.map_map]
          rfl
        have sq : iSeq (gateT rs) = .ok (rs.map keyT) := rfl
        have hl1 : (rs.map keyT).length ≤ sizeLine := by rw [List.length_map]; exact le_line (by have := hr rs hrs; omega)
        have hl2 : (a.map gateT).length + (rs.map fun r => gateT [r]).length ≤ sizeLine := by
          rw [List.length_map, List.length_map]
          rw [List.length_map] at hb
          exact le_line (by omega)
        refine ⟨_, ?_, some (gateT rs), rfl⟩
        rw [hm]
        show b1_l_apart [nd, ol, v2, v3, v4, some (.lst bl), some (gtsT gs), some (.lst (a.map gateT)), some (gateT rs), none] = _
        generalize (rs.map fun r => gateT [r]) = ol2 at *
        generalize a.map gateT = al at *
        generalize rs.map keyT = kl at *
        generalize gateT rs = gr at *
        generalize gtsT gs = gg at *
        have ad : oAdd (.lst al) (.lst ol2) = .ok (.lst (al ++ ol2)) := by rw [oAdd_lst, if_pos hl2]
        simp [b1_l_apart, sq, hl1, c1, ad, -oAdd_lst]
    subst h3
    have he : [] ++ (gs.flatMap fun rs => rs.map fun r => [r]) = aprG gs := rfl
    rw [he] at h1
    refine ⟨some (.lst ((aprG gs).map gateT)), w8, ?_⟩
    have sq : iSeq (gtsT gs) = .ok (gs.map gateT) := rfl
    have ht : bTuple [.lst ((aprG gs).map gateT)] = .ok (gtsT (aprG gs)) := rfl
    have hbz : bl.length < sizeLine := th_lt (by omega)
    generalize (aprG gs).map gateT = al at *
    generalize gtsT (aprG gs) = res at *
    generalize gs.map gateT = gl at *
    generalize gtsT gs = gg at *
    simp [b2_l_apart, sq, h1, ht, hbz]
  obtain ⟨ρ', h1, w2, w3, w4, w5, w6, w7, w8, h2⟩ := forL_flat (is := [2, 3, 4]) (asg := gT 3) (b := b3_l_apart) netM (fun p => [nD p.1, gtsT p.2.1, gtsT p.2.2]) (fun _ => rfl)
    (fun (a : List NetM) ρ => ∃ w2 w3 w4 w5 w6 w7 w8, ρ = [some (netMD net), some (.lst (a.map netM)), w2, w3, w4, w5, w6, w7, w8, none]) (fun p => [aprP p]) 1000 net [] [some (netMD net), some (.lst []), none, none, none, none, none, none, none, none] ⟨_, _, _, _, _, _, _, rfl⟩ (by
      have := flat_len (fun p : NetM => [aprP p]) 1 net fun _ _ => Nat.le_refl _
      rw [List.length_nil, Nat.zero_add]
      omega) fun a p ρ hp ⟨w2, w3, w4, w5, w6, w7, w8, e⟩ hb => by
      subst e
      obtain ⟨x7, x8, e1⟩ := side (some (netMD net)) (some (.lst (a.map netM))) (some (nD p.1)) (some (gtsT p.2.1)) (some (gtsT p.2.2)) [] p.2.1 w7 w8 (by simp) (h.g p hp).1 (h.r p hp).1
      obtain ⟨y7, y8, e2⟩ := side (some (netMD net)) (some (.lst (a.map netM))) (some (nD p.1)) (some (gtsT p.2.1)) (some (gtsT p.2.2)) [gtsT (aprG p.2.1)] p.2.2 x7 x8 (by simp) (h.g p hp).2 (h.r p hp).2
      have hm : (a ++ [aprP p]).map netM = a.map netM ++ [.tup [nD p.1, gtsT (aprG p.2.1), gtsT (aprG p.2.2)]] := by
        rw [List.map_append]
        rfl
      have hal : (a.map netM).length < sizeLine := by
        rw [List.length_map]
        rw [List.length_singleton] at hb
        exact th_lt (by omega)
      refine ⟨[some (netMD net), some (.lst ((a ++ [aprP p]).map netM)), some (nD p.1), some (gtsT p.2.1), some (gtsT p.2.2), some (.lst [gtsT (aprG p.2.1), gtsT (aprG p.2.2)]), some (gtsT p.2.2), y7, y8, none], ?_, some (nD p.1), some (gtsT p.2.1), some (gtsT p.2.2), _, _, y7, y8, rfl⟩
      rw [hm]
      show b3_l_apart [some (netMD net), some (.lst (a.map netM)), some (nD p.1), some (gtsT p.2.1), some (gtsT p.2.2), w5, w6, w7, w8, none] = _
      have lp : forL [6] gN b2_l_apart [gtsT p.2.1, gtsT p.2.2] [some (netMD net), some (.lst (a.map netM)), some (nD p.1), some (gtsT p.2.1), some (gtsT p.2.2), some (.lst []), w6, w7, w8, none] = .nx [some (netMD net), some (.lst (a.map netM)), some (nD p.1), some (gtsT p.2.1), some (gtsT p.2.2), some (.lst [gtsT (aprG p.2.1), gtsT (aprG p.2.2)]), some (gtsT p.2.2), y7, y8, none] := by
        rw [forL_nx (es := [gtsT p.2.1]) _ _ rfl e1, forL_nx (es := [gtsT p.2.2]) _ _ rfl e2]
        rfl
      clear e1 e2
      generalize gtsT (aprG p.2.1) = r1 at *
      generalize gtsT (aprG p.2.2) = r2 at *
      generalize gtsT p.2.1 = t1 at *
      generalize gtsT p.2.2 = t2 at *
      generalize a.map netM = al at *
      generalize netMD net = nd at *
      simp [b3_l_apart, h2s, lp, hal, h3s]
  subst h2
  have he : [] ++ (net.flatMap fun p => [aprP p]) = aprN net := by
    rw [List.nil_append]
    unfold aprN
    rw [← List.map_eq_flatMap]
  rw [he] at h1
  have sq : iSeq (netMD net) = .ok (net.map netM) := rfl
  have ht : bTuple [.lst ((aprN net).map netM)] = .ok (netMD (aprN net)) := rfl
  generalize (aprN net).map netM = al at *
  generalize netMD (aprN net) = res at *
  generalize net.map netM = nl at *
  generalize netMD net = nd at *
  simp [f_l_apart, d_l_apart, sq, h1, ht]
def manyN (p : NetM) : Nat := ((p.2.1 ++ p.2.2).map List.length).sum
theorem aprG_len (gs : List Gte) : (aprG gs).length = (gs.map List.length).sum := by
  unfold aprG
  induction gs with
  | nil => rfl
  | cons r rs ih => rw [List.flatMap_cons, List.length_append, ih, List.map_cons, List.sum_cons, List.length_map]
theorem apr_many (p : NetM) : (gtsOf (aprP p)).length = manyN p := by
  rw [gtsOf_len]
  unfold aprP manyN
  dsimp only
  rw [aprG_len, aprG_len, List.map_append, List.sum_append]
theorem apr_total : ∀ net : List NetM, (gtsN (aprN net)).length = (net.map manyN).sum
  | [] => rfl
  | p :: net => by
    have ih := apr_total net
    unfold gtsN aprN at *
    rw [List.map_cons, List.flatMap_cons, List.length_append, ih, List.map_cons, List.sum_cons, apr_many]
theorem wi_one {B : Nat} (hB : B ≤ 1000) (nd : Option D) (t : Nat) (p : NetM) (hg : p.2.1.length ≤ 2 ∧ p.2.2.length ≤ 2) (v5 : Option D) : b1_l_within [nd, some (nD t), some (nD p.1), some (gtsT p.2.1), some (gtsT p.2.2), v5, none] =
    if 8 < manyN p then .ret (.bl false) else .nx [nd, some (nD (t + manyN p)), some (nD p.1), some (gtsT p.2.1), some (gtsT p.2.2), some (nD (manyN p)), none] := by
  have c1 := compL_map (is := [6]) (asg := gN) (ev := e1_l_within) (ρ := [nd, some (nD t), some (nD p.1), some (gtsT p.2.1), some (gtsT p.2.2), v5, none]) gateT (fun r => [gateT r]) (fun _ => rfl) (fun r => nD r.length) (p.2.1 ++ p.2.2) (fun r _ => by
    have bl : bLen [gateT r] = .ok (nD r.length) := by unfold gateT; rw [bLen_tupn, List.length_map]
    generalize gateT r = gr at *
    show e1_l_within [_, _, _, _, _, _, some gr] = _
    simp [e1_l_within, bl])
  have hadd : oAdd (gtsT p.2.1) (gtsT p.2.2) = .ok (gtsT (p.2.1 ++ p.2.2)) := by
    unfold gtsT
    rw [oAdd_tup, List.length_map, List.length_map, if_pos (le_line (by omega)), ← List.map_append]
  have sq : iSeq (gtsT (p.2.1 ++ p.2.2)) = .ok ((p.2.1 ++ p.2.2).map gateT) := rfl
  have hz : ((p.2.1 ++ p.2.2).map gateT).length ≤ sizeLine := by rw [List.length_map, List.length_append]; exact le_line (by omega)
  have hs : bSum [.lst ((p.2.1 ++ p.2.2).map fun r => nD r.length)] = .ok (nD (manyN p)) := by
    have : (p.2.1 ++ p.2.2).map (fun r => nD r.length) = ((p.2.1 ++ p.2.2).map List.length).map nD := by rw [List.map_map]; rfl
    rw [this, bSum_nn]
    rfl
  generalize ((p.2.1 ++ p.2.2).map fun r => nD r.length) = ll at *
  generalize (p.2.1 ++ p.2.2).map gateT = gl at *
  generalize gtsT (p.2.1 ++ p.2.2) = t3 at *
  generalize gtsT p.2.1 = t1 at *
  generalize gtsT p.2.2 = t2 at *
  generalize manyN p = m at *
  by_cases hm : 8 < m
  · rw [if_pos hm]
    simp [b1_l_within, hadd, sq, hz, c1, hs, hm]
  · rw [if_neg hm]
    simp [b1_l_within, hadd, sq, hz, c1, hs, hm]
theorem wi_loop {B : Nat} (hB : B ≤ 1000) (nd : Option D) : ∀ (ps : List NetM) (t : Nat) (v2 v3 v4 v5 : Option D), (∀ p ∈ ps, p.2.1.length ≤ 2 ∧ p.2.2.length ≤ 2) →
    forL [2, 3, 4] (gT 3) b1_l_within (ps.map netM) [nd, some (nD t), v2, v3, v4, v5, none] = .ret (.bl false) ∨ ∃ w2 w3 w4 w5, forL [2, 3, 4] (gT 3) b1_l_within (ps.map netM) [nd, some (nD t), v2, v3, v4, v5, none] = .nx [nd, some (nD (t + (ps.map manyN).sum)), w2, w3, w4, w5, none]
  | [], t, v2, v3, v4, v5, _ => .inr ⟨v2, v3, v4, v5, rfl⟩
  | p :: ps, t, v2, v3, v4, v5, h => by
    have e := wi_one hB nd t p (h p List.mem_cons_self) v5
    by_cases hm : 8 < manyN p
    · rw [if_pos hm] at e
      left
      rw [List.map_cons]
      exact forL_ret (es := [nD p.1, gtsT p.2.1, gtsT p.2.2]) _ _ rfl e
    · rw [if_neg hm] at e
      have hgo : forL [2, 3, 4] (gT 3) b1_l_within ((p :: ps).map netM) [nd, some (nD t), v2, v3, v4, v5, none] = forL [2, 3, 4] (gT 3) b1_l_within (ps.map netM) [nd, some (nD (t + manyN p)), some (nD p.1), some (gtsT p.2.1), some (gtsT p.2.2), some (nD (manyN p)), none] := by
        rw [List.map_cons]
        exact forL_nx (es := [nD p.1, gtsT p.2.1, gtsT p.2.2]) _ _ rfl e
      rw [hgo, List.map_cons, List.sum_cons, ← Nat.add_assoc]
      exact wi_loop hB nd ps (t + manyN p) _ _ _ _ fun q hq => h q (List.mem_cons_of_mem _ hq)
theorem v_l_within {B : Nat} (hB : B ≤ 1000) (h : NetB B net) : ∃ b : Bool, f_l_within [netMD net] = .ok (.bl b) ∧ (b = true → (gtsN (aprN net)).length ≤ 40) := by
  have sq : iSeq (netMD net) = .ok (net.map netM) := rfl
  rcases wi_loop hB (some (netMD net)) net 0 none none none none h.g with e | ⟨w2, w3, w4, w5, e⟩
  · refine ⟨false, ?_, fun z => by cases z⟩
    generalize net.map netM = nl at *
    generalize netMD net = nd at *
    simp [f_l_within, d_l_within, sq, e]
  · rw [Nat.zero_add, ← apr_total] at e
    refine ⟨decide ((gtsN (aprN net)).length ≤ 40), ?_, fun z => of_decide_eq_true z⟩
    generalize (gtsN (aprN net)).length = m at *
    generalize net.map netM = nl at *
    generalize netMD net = nd at *
    simp [f_l_within, d_l_within, sq, e]
end CW
namespace CW
open PySem PySem.Spec PyProof.Rows L2

variable {g : Graph}
theorem in_keys61 (neg : Bool) (x : Nat × Nat) (xs : List (Nat × Nat)) : ∃ b, oIn neg (keyT x) (.lst (xs.map keyT)) = .ok (.bl b) := by
  have h1 : okD 60 (keyT x) = true := okD_keyT 59 x
  have h2 : okDs 59 (xs.map keyT) = true := by
    rw [okDs_map, List.all_eq_true]
    exact fun y _ => okD_keyT 58 y
  refine ⟨neg != inD (keyT x) (xs.map keyT), ?_⟩
  show (if (flatD (keyT x) && (xs.map keyT).all flatD) || (okD 60 (keyT x) && okDs 59 (xs.map keyT)) then Out.ok (D.bl (neg != inD (keyT x) (xs.map keyT))) else .stuck) = _
  rw [h1, h2, Bool.and_self, Bool.or_true, if_pos rfl]
theorem ag_one (hg : GraphSt g) (ns : List Int) (first : Nat) (some_ : Option D) (b : Bool) (w full cell : Nat) (w1 : 1 ≤ g.wires.length) (w10 : g.wires.length ≤ 10) (k : Nat) (hk : k < 1000) (x : Nat × Nat) (acc : List (Nat × Nat)) (hl : acc.length < 1000) (v11 v12 : Option D) :
    ∃ (acc' : List (Nat × Nat)) (w11 w12 : Option D), acc'.length ≤ acc.length + 1 ∧ b1_l_any_gate [some (.scr ns), some (nD first), some (graphD g), some_, some (.int (sgI b)), some (nD w), some (.lst (acc.map keyT)), some (nD full), some (nD cell), some (nD k), some (keyT x), v11, v12] =
      .nx [some (.scr ns), some (nD first), some (graphD g), some_, some (.int (sgI b)), some (nD w), some (.lst (acc'.map keyT)), some (nD full), some (nD cell), some (nD k), some (keyT x), w11, w12] := by
  have em := v_l_mix_2 ns (first + k % 12)
  generalize mixN ns (first + k % 12) = c at em
  have ew := v_l_want hg (ix_keyT0 x) w
  have k1 := ix_keyT1 x
  have ix0 : oIx (graphD g) (nD 0) = .ok (wiresD g.wires) := ix_graph0 g
  have wl : bLen [wiresD g.wires] = .ok (nD g.wires.length) := len_wiresD _
  have h2s : (2 : Nat) ≤ sizeLine := le_line (by decide)
  have hm : (cell / 3 + k) % g.wires.length < g.wires.length := Nat.mod_lt _ (by omega)
  have hal : (acc.map keyT).length < sizeLine := by rw [List.length_map]; exact th_lt (by omega)
  have h7 : 0 < 7 + k := by omega
  have h7b : 7 + k < 18446744073709551616 := by omega
  have hw0 : 0 < g.wires.length := by omega
  have hdm : ((oDiv (nD c) (nD (7 + k))).bind fun x => oMod x (nD 24)) = .ok (nD (c / (7 + k) % 24)) := by simp [h7, h7b]
  have heq : oEq (.int (lwN g.steps x.1 w)) (.int (sgI b)) = .ok (.bl (lwN g.steps x.1 w == sgI b)) := by simp
  obtain ⟨cc, hcc⟩ : ∃ cc : Bool, cc = ((lwN g.steps x.1 w == sgI b && decide (0 < c / (7 + k) % 24)) || (c / (7 + k) % 24 == 5)) := ⟨_, rfl⟩
  have put : ∀ (care : Nat), ∃ acc' : List (Nat × Nat), acc'.length ≤ acc.length + 1 ∧ ∀ (v11 : Option D), fIf (tB1 (eOp (oIn true) (eTup (aC (eV 12) (aC (eOp oAnd (eOp oIx (eV 10) (eC (.int 1))) (eV 12)) aN))) (eV 6)))
      (fApp [.fz, .fz, .fz, .fz, .fz, .fz, .ol, .fz, .fz, .fz, .fz, .fz, .fz] 6 (eTup (aC (eV 12) (aC (eOp oAnd (eOp oIx (eV 10) (eC (.int 1))) (eV 12)) aN)))) fNx
      [some (.scr ns), some (nD first), some (graphD g), some_, some (.int (sgI b)), some (nD w), some (.lst (acc.map keyT)), some (nD full), some (nD cell), some (nD k), some (keyT x), v11, some (nD care)] =
      .nx [some (.scr ns), some (nD first), some (graphD g), some_, some (.int (sgI b)), some (nD w), some (.lst (acc'.map keyT)), some (nD full), some (nD cell), some (nD k), some (keyT x), v11, some (nD care)] := fun care => by
    obtain ⟨bb, hbb⟩ := in_keys61 true (care, x.2 &&& care) acc
    have hkt : keyT (care, x.2 &&& care) = .tup [nD care, nD (x.2 &&& care)] := rfl
    rw [hkt] at hbb
    cases bb with
    | false =>
      refine ⟨acc, by omega, fun v11 => ?_⟩
      generalize acc.map keyT = al at *
      generalize keyT x = kx at *
      generalize graphD g = gd at *
      generalize D.int (sgI b) = ib at *
      simp [k1, h2s, hbb, -keyT_fold]
    | true =>
      refine ⟨acc ++ [(care, x.2 &&& care)], by rw [List.length_append, List.length_singleton]; exact Nat.le_refl _, fun v11 => ?_⟩
      have hmm : (acc ++ [(care, x.2 &&& care)]).map keyT = acc.map keyT ++ [.tup [nD care, nD (x.2 &&& care)]] := by rw [List.map_append]; rfl
      rw [hmm]
      generalize acc.map keyT = al at *
      generalize keyT x = kx at *
      generalize graphD g = gd at *
      generalize D.int (sgI b) = ib at *
      simp [k1, h2s, hbb, hal, -keyT_fold]
  unfold b1_l_any_gate i1_l_any_gate
  generalize hC : fIf (tB1 (eOp (oIn true) (eTup (aC (eV 12) (aC (eOp oAnd (eOp oIx (eV 10) (eC (.int 1))) (eV 12)) aN))) (eV 6)))
      (fApp [.fz, .fz, .fz, .fz, .fz, .fz, .ol, .fz, .fz, .fz, .fz, .fz, .fz] 6 (eTup (aC (eV 12) (aC (eOp oAnd (eOp oIx (eV 10) (eC (.int 1))) (eV 12)) aN)))) fNx = C at put ⊢
  have h24 : c / (7 + k) % 24 < 24 := Nat.mod_lt _ (by decide)
  by_cases hc3 : cell % 3 = 1
  · obtain ⟨acc', q1, q2⟩ := put (full ^^^ 2 ^ ((cell / 3 + k) % g.wires.length))
    cases cc with
    | false =>
      refine ⟨acc, some (nD (c / (7 + k) % 24)), v12, by omega, ?_⟩
      generalize acc.map keyT = al at *
      generalize keyT x = kx at *
      generalize wiresD g.wires = wd at *
      generalize graphD g = gd at *
      generalize D.int (sgI b) = ib at *
      generalize c / (7 + k) % 24 = n at *
      cases hq : (lwN g.steps x.1 w == sgI b) <;> rw [hq] at hcc heq <;> simp at hcc <;> simp [em, ew, heq, hdm, hcc]
    | true =>
      refine ⟨acc', some (nD (c / (7 + k) % 24)), some (nD (full ^^^ 2 ^ ((cell / 3 + k) % g.wires.length))), q1, ?_⟩
      generalize acc.map keyT = al at *
      generalize acc'.map keyT = al' at *
      generalize keyT x = kx at *
      generalize wiresD g.wires = wd at *
      generalize graphD g = gd at *
      generalize D.int (sgI b) = ib at *
      generalize c / (7 + k) % 24 = n at *
      have hmz : (cell / 3 + k) % g.wires.length ≤ 1000000 := by omega
      cases hq : (lwN g.steps x.1 w == sgI b) <;> rw [hq] at hcc heq <;> simp at hcc <;> (first | have hcc2 : 0 < n := by omega | have hcc2 := True.intro) <;> simp [em, ew, heq, hdm, hcc, hcc2, hc3, ix0, wl, hw0, hmz, q2]
  · obtain ⟨acc', q1, q2⟩ := put full
    cases cc with
    | false =>
      refine ⟨acc, some (nD (c / (7 + k) % 24)), v12, by omega, ?_⟩
      generalize acc.map keyT = al at *
      generalize keyT x = kx at *
      generalize wiresD g.wires = wd at *
      generalize graphD g = gd at *
      generalize D.int (sgI b) = ib at *
      generalize c / (7 + k) % 24 = n at *
      cases hq : (lwN g.steps x.1 w == sgI b) <;> rw [hq] at hcc heq <;> simp at hcc <;> simp [em, ew, heq, hdm, hcc]
    | true =>
      refine ⟨acc', some (nD (c / (7 + k) % 24)), some (nD full), q1, ?_⟩
      generalize acc.map keyT = al at *
      generalize acc'.map keyT = al' at *
      generalize keyT x = kx at *
      generalize wiresD g.wires = wd at *
      generalize graphD g = gd at *
      generalize D.int (sgI b) = ib at *
      generalize c / (7 + k) % 24 = n at *
      cases hq : (lwN g.steps x.1 w == sgI b) <;> rw [hq] at hcc heq <;> simp at hcc <;> (first | have hcc2 : 0 < n := by omega | have hcc2 := True.intro) <;> simp [em, ew, heq, hdm, hcc, hcc2, hc3, q2]
end CW
namespace CW
open PySem PySem.Spec PyProof.Rows L2

variable {g : Graph}
theorem ag_loop (hg : GraphSt g) (ns : List Int) (first : Nat) (some_ : Option D) (b : Bool) (w full cell : Nat) (w1 : 1 ≤ g.wires.length) (w10 : g.wires.length ≤ 10) : ∀ (ys : List (Nat × Nat)) (k : Nat) (acc : List (Nat × Nat)) (v9 v10 v11 v12 : Option D), acc.length + ys.length < 1000 → k + ys.length < 1000 →
    ∃ (acc' : List (Nat × Nat)) (w9 w10 w11 w12 : Option D), acc'.length ≤ acc.length + ys.length ∧ forL [9, 10] (gT 2) b1_l_any_gate ((ys.zipIdx k).map fun p => .tup [nD p.2, keyT p.1]) [some (.scr ns), some (nD first), some (graphD g), some_, some (.int (sgI b)), some (nD w), some (.lst (acc.map keyT)), some (nD full), some (nD cell), v9, v10, v11, v12] =
      .nx [some (.scr ns), some (nD first), some (graphD g), some_, some (.int (sgI b)), some (nD w), some (.lst (acc'.map keyT)), some (nD full), some (nD cell), w9, w10, w11, w12]
  | [], k, acc, v9, v10, v11, v12, _, _ => ⟨acc, v9, v10, v11, v12, Nat.le_refl _, rfl⟩
  | x :: ys, k, acc, v9, v10, v11, v12, h1, h2 => by
    rw [List.length_cons] at h1 h2
    obtain ⟨acc1, x11, x12, l1, e1⟩ := ag_one hg ns first some_ b w full cell w1 w10 k (by omega) x acc (by omega) v11 v12
    obtain ⟨acc2, y9, y10, y11, y12, l2, e2⟩ := ag_loop hg ns first some_ b w full cell w1 w10 ys (k + 1) acc1 (some (nD k)) (some (keyT x)) x11 x12 (by omega) (by omega)
    refine ⟨acc2, y9, y10, y11, y12, by rw [List.length_cons]; omega, ?_⟩
    rw [List.zipIdx_cons, List.map_cons]
    rw [forL_nx (es := [nD k, keyT x]) _ _ rfl e1]
    exact e2
theorem v_l_any_gate (hg : GraphSt g) (ns : List Int) (first : Nat) (b : Bool) (w : Nat) (w1 : 1 ≤ g.wires.length) (w10 : g.wires.length ≤ 10) (ys : List (Nat × Nat)) (hy : ys.length ≤ 900) :
    ∃ rs : Gte, rs.length ≤ ys.length ∧ f_l_any_gate [.scr ns, nD first, graphD g, .lst (ys.map keyT), .int (sgI b), nD w] = .ok (gateT rs) := by
  have ec := v_l_mix_2 ns first
  generalize mixN ns first = c at ec
  obtain ⟨rs, w9, w10', w11, w12, l1, e⟩ := ag_loop hg ns first (some (.lst (ys.map keyT))) b w (2 ^ g.wires.length - 1) c w1 w10 ys 0 [] none none none none (by simp only [List.length_nil]; omega) (by omega)
  refine ⟨rs, by simpa using l1, ?_⟩
  have en : enumL (ys.map keyT) = ys.zipIdx.map fun p => .tup [nD p.2, keyT p.1] := by
    rw [enumL_eq, List.zipIdx_map, List.map_map]
    rfl
  rw [← en] at e
  rw [List.map_nil] at e
  have ix0 : oIx (graphD g) (nD 0) = .ok (wiresD g.wires) := ix_graph0 g
  have wl : bLen [wiresD g.wires] = .ok (nD g.wires.length) := len_wiresD _
  have sq : enumD [.lst (ys.map keyT)] = .ok (enumL (ys.map keyT)) := enumD_lst _
  have ht : bTuple [.lst (rs.map keyT)] = .ok (gateT rs) := rfl
  have hp := Nat.one_le_two_pow (n := g.wires.length)
  have hl10 : g.wires.length ≤ 1000000 := by omega
  generalize enumL (ys.map keyT) = el at *
  generalize ys.map keyT = yl at *
  generalize rs.map keyT = rl at *
  generalize gateT rs = gr at *
  generalize wiresD g.wires = wd at *
  generalize graphD g = gd at *
  generalize D.int (sgI b) = ib at *
  simp [f_l_any_gate, d_l_any_gate, ix0, wl, ec, sq, e, ht, hp, hl10]
theorem an_one (hg : GraphSt g) (ns : List Int) (first : Nat) (w1 : 1 ≤ g.wires.length) (w10 : g.wires.length ≤ 10) (ys : List (Nat × Nat)) (hy : ys.length ≤ 900) (v4 : Option D) (w : Nat) (both : List D) (hb : both.length ≤ 5) (b : Bool) (v8 v9 v10 : Option D) :
    ∃ (gs : List Gte) (w8 w9 w10 : Option D), gs.length ≤ 2 ∧ (∀ rs ∈ gs, rs.length ≤ ys.length) ∧ b1_l_any_net [some (.scr ns), some (nD first), some (graphD g), some (.lst (ys.map keyT)), v4, some (nD w), some (.lst both), some (.int (sgI b)), v8, v9, v10] =
      .nx [some (.scr ns), some (nD first), some (graphD g), some (.lst (ys.map keyT)), v4, some (nD w), some (.lst (both ++ [gtsT gs])), some (.int (sgI b)), w8, w9, w10] := by
  have em := v_l_mix_2 ns (first + w)
  generalize mixN ns (first + w) = c at em
  obtain ⟨rs, l1, e1⟩ := v_l_any_gate hg ns (first + 2 * w + if b then 0 else 1) b w w1 w10 ys hy
  have hk : ((oSub (nD 1) (.int (sgI b))).bind fun x => oDiv x (nD 2)) = .ok (nD (if b then 0 else 1)) := by cases b <;> rfl
  have h1s : (1 : Nat) ≤ sizeLine := le_line (by decide)
  have h2s : (2 : Nat) ≤ sizeLine := le_line (by decide)
  have h0s : (0 : Nat) ≤ sizeLine := le_line (by decide)
  have hbs : both.length < sizeLine := th_lt (by omega)
  have s1 : oSl none (some (nI 1)) (gateT rs) = .ok (gateT (rs.take 1)) := by
    show Out.ok (D.tup (cutL (rs.map keyT) none (some ((1 : Nat) : Int)))) = _
    rw [cutL_to, ← List.map_take]
    rfl
  have s2 : oSl (some (nI 1)) none (gateT rs) = .ok (gateT (rs.drop 1)) := by
    show Out.ok (D.tup (cutL (rs.map keyT) (some ((1 : Nat) : Int)) none)) = _
    rw [cutL_from, ← List.map_drop]
    rfl
  have t1 : gtsT [rs] = .tup [gateT rs] := rfl
  have t2 : gtsT [rs.take 1, rs.drop 1] = .tup [gateT (rs.take 1), gateT (rs.drop 1)] := rfl
  have t0 : gtsT [] = .tup [] := rfl
  generalize (if b then 0 else 1) = q at *
  by_cases h17 : c % 17 = 4
  · refine ⟨[], some (nD c), some (gateT rs), some (gtsT []), by simp, by simp, ?_⟩
    rw [t0]
    generalize gateT (rs.take 1) = g1 at *
    generalize gateT (rs.drop 1) = g2 at *
    generalize gateT rs = gr at *
    generalize ys.map keyT = yl at *
    generalize graphD g = gd at *
    generalize D.int (sgI b) = ib at *
    by_cases h5 : c % 5 = 3
    · simp [b1_l_any_net, em, hk, e1, h17, h5, s1, s2, h1s, h2s, h0s, hbs]
    · simp [b1_l_any_net, em, hk, e1, h17, h5, s1, s2, h1s, h2s, h0s, hbs]
  · by_cases h5 : c % 5 = 3
    · refine ⟨[rs.take 1, rs.drop 1], some (nD c), some (gateT rs), some (gtsT [rs.take 1, rs.drop 1]), by simp, fun z hz => ?_, ?_⟩
      · rcases List.mem_cons.mp hz with h | hz
        · rw [h, List.length_take]; omega
        · rw [List.mem_singleton.mp hz, List.length_drop]; omega
      · rw [t2]
        generalize gateT (rs.take 1) = g1 at *
        generalize gateT (rs.drop 1) = g2 at *
        generalize gateT rs = gr at *
        generalize ys.map keyT = yl at *
        generalize graphD g = gd at *
        generalize D.int (sgI b) = ib at *
        simp [b1_l_any_net, em, hk, e1, h17, h5, s1, s2, h1s, h2s, h0s, hbs]
    · refine ⟨[rs], some (nD c), some (gateT rs), some (gtsT [rs]), by simp, fun z hz => by rw [List.mem_singleton.mp hz]; exact l1, ?_⟩
      rw [t1]
      generalize gateT (rs.take 1) = g1 at *
      generalize gateT (rs.drop 1) = g2 at *
      generalize gateT rs = gr at *
      generalize ys.map keyT = yl at *
      generalize graphD g = gd at *
      generalize D.int (sgI b) = ib at *
      simp [b1_l_any_net, em, hk, e1, h17, h5, s1, s2, h1s, h2s, h0s, hbs]
theorem an_wire (hg : GraphSt g) (ns : List Int) (first : Nat) (w1 : 1 ≤ g.wires.length) (w10 : g.wires.length ≤ 10) (ys : List (Nat × Nat)) (hy : ys.length ≤ 900) (net : List NetM) (w : Nat) (hw : w < g.wires.length) (hn : net.length ≤ w) (hw1 : ∀ p ∈ net, p.1 ≤ 10) (hg2 : ∀ p ∈ net, p.2.1.length ≤ 2 ∧ p.2.2.length ≤ 2) (hr : ∀ p ∈ net, (∀ rs ∈ p.2.1, rs.length ≤ ys.length) ∧ ∀ rs ∈ p.2.2, rs.length ≤ ys.length) (v6 v7 v8 v9 v10 : Option D) :
    ∃ (net' : List NetM) (w6 w7 w8 w9 w10 : Option D), net'.length ≤ w + 1 ∧ (∀ p ∈ net', p.1 ≤ 10) ∧ (∀ p ∈ net', p.2.1.length ≤ 2 ∧ p.2.2.length ≤ 2) ∧ (∀ p ∈ net', (∀ rs ∈ p.2.1, rs.length ≤ ys.length) ∧ ∀ rs ∈ p.2.2, rs.length ≤ ys.length) ∧
      b2_l_any_net [some (.scr ns), some (nD first), some (graphD g), some (.lst (ys.map keyT)), some (.lst (net.map netM)), some (nD w), v6, v7, v8, v9, v10] =
      .nx [some (.scr ns), some (nD first), some (graphD g), some (.lst (ys.map keyT)), some (.lst (net'.map netM)), some (nD w), w6, w7, w8, w9, w10] := by
  obtain ⟨wd, hwd⟩ : ∃ wd, g.wires[w]? = some wd := ⟨_, List.getElem?_eq_getElem hw⟩
  have ix0 : oIx (graphD g) (nD 0) = .ok (wiresD g.wires) := ix_graph0 g
  have xw : oIx (wiresD g.wires) (nD w) = .ok (wireD wd) := by rw [ix_wiresD, hwd]; rfl
  have x1 : oIx (wireD wd) (nD 1) = .ok (sD wd.2) := ix_wire1 _
  obtain ⟨bm, hbm⟩ : ∃ bm, oEq (sD wd.2) (sD (toL "made")) = .ok (.bl bm) := ⟨wd.2 == toL "made", by simp⟩
  unfold b2_l_any_net i1_l_any_net
  cases bm with
  | false =>
    refine ⟨net, v6, v7, v8, v9, v10, by omega, hw1, hg2, hr, ?_⟩
    generalize sD wd.2 = kd at *
    generalize wireD wd = wrd at *
    generalize wiresD g.wires = wsd at *
    generalize graphD g = gd at *
    generalize ys.map keyT = yl at *
    generalize net.map netM = nl at *
    simp [ix0, xw, x1, hbm]
  | true =>
    obtain ⟨g1, a8, a9, a10, l1, r1, e1⟩ := an_one hg ns first w1 w10 ys hy (some (.lst (net.map netM))) w [] (by simp) true v8 v9 v10
    obtain ⟨g2, b8, b9, b10, l2, r2, e2⟩ := an_one hg ns first w1 w10 ys hy (some (.lst (net.map netM))) w [gtsT g1] (by simp) false a8 a9 a10
    refine ⟨net ++ [(w, g1, g2)], some (.lst [gtsT g1, gtsT g2]), some (.int (-1)), b8, b9, b10, by rw [List.length_append, List.length_singleton]; omega, fun p hp => ?_, fun p hp => ?_, fun p hp => ?_, ?_⟩
    · rcases List.mem_append.mp hp with hp | hp
      · exact hw1 p hp
      · rw [List.mem_singleton.mp hp]; show w ≤ 10; omega
    · rcases List.mem_append.mp hp with hp | hp
      · exact hg2 p hp
      · rw [List.mem_singleton.mp hp]; exact ⟨l1, l2⟩
    · rcases List.mem_append.mp hp with hp | hp
      · exact hr p hp
      · rw [List.mem_singleton.mp hp]; exact ⟨r1, r2⟩
    · have lp : forL [7] gN b1_l_any_net [.int 1, .int (-1)] [some (.scr ns), some (nD first), some (graphD g), some (.lst (ys.map keyT)), some (.lst (net.map netM)), some (nD w), some (.lst []), v7, v8, v9, v10] = .nx [some (.scr ns), some (nD first), some (graphD g), some (.lst (ys.map keyT)), some (.lst (net.map netM)), some (nD w), some (.lst [gtsT g1, gtsT g2]), some (.int (-1)), b8, b9, b10] := by
        rw [forL_nx (es := [.int 1]) _ _ rfl e1, forL_nx (es := [.int (-1)]) _ _ rfl e2]
        rfl
      have hm : (net ++ [(w, g1, g2)]).map netM = net.map netM ++ [.tup [nD w, gtsT g1, gtsT g2]] := by
        rw [List.map_append]
        rfl
      have h3s : (3 : Nat) ≤ sizeLine := le_line (by decide)
      have h2s : (2 : Nat) ≤ sizeLine := le_line (by decide)
      have hal : (net.map netM).length < sizeLine := by rw [List.length_map]; exact th_lt (by omega)
      have d1 : nD 1 = D.int 1 := rfl
      have hng : oNeg (nD 1) = .ok (.int (-1)) := rfl
      rw [← d1] at lp
      rw [hm]
      clear e1 e2
      generalize gtsT g1 = q1 at *
      generalize gtsT g2 = q2 at *
      generalize sD wd.2 = kd at *
      generalize wireD wd = wrd at *
      generalize wiresD g.wires = wsd at *
      generalize graphD g = gd at *
      generalize ys.map keyT = yl at *
      generalize net.map netM = nl at *
      generalize D.int (-1) = im at *
      simp [ix0, xw, x1, hbm, hng, lp, h3s, h2s, hal]
theorem an_loop (hg : GraphSt g) (ns : List Int) (first : Nat) (w1 : 1 ≤ g.wires.length) (w10 : g.wires.length ≤ 10) (ys : List (Nat × Nat)) (hy : ys.length ≤ 900) : ∀ (n w : Nat) (net : List NetM), w + n = g.wires.length → net.length ≤ w → (∀ p ∈ net, p.1 ≤ 10) → (∀ p ∈ net, p.2.1.length ≤ 2 ∧ p.2.2.length ≤ 2) → (∀ p ∈ net, (∀ rs ∈ p.2.1, rs.length ≤ ys.length) ∧ ∀ rs ∈ p.2.2, rs.length ≤ ys.length) → ∀ (v5 v6 v7 v8 v9 v10 : Option D),
    ∃ (net' : List NetM) (w5 w6 w7 w8 w9 w10 : Option D), NetB ys.length net' ∧
      forL [5] gN b2_l_any_net ((List.range' w n).map nD) [some (.scr ns), some (nD first), some (graphD g), some (.lst (ys.map keyT)), some (.lst (net.map netM)), v5, v6, v7, v8, v9, v10] =
      .nx [some (.scr ns), some (nD first), some (graphD g), some (.lst (ys.map keyT)), some (.lst (net'.map netM)), w5, w6, w7, w8, w9, w10]
  | 0, w, net, hwn, h1, h2, h3, h4, v5, v6, v7, v8, v9, v10 => ⟨net, v5, v6, v7, v8, v9, v10, ⟨by omega, h2, h3, h4⟩, rfl⟩
  | n + 1, w, net, hwn, h1, h2, h3, h4, v5, v6, v7, v8, v9, v10 => by
    obtain ⟨net1, x6, x7, x8, x9, x10, q1, q2, q3, q4, e1⟩ := an_wire hg ns first w1 w10 ys hy net w (by omega) h1 h2 h3 h4 v6 v7 v8 v9 v10
    obtain ⟨net2, y5, y6, y7, y8, y9, y10, nb, e2⟩ := an_loop hg ns first w1 w10 ys hy n (w + 1) net1 (by omega) q1 q2 q3 q4 (some (nD w)) x6 x7 x8 x9 x10
    refine ⟨net2, y5, y6, y7, y8, y9, y10, nb, ?_⟩
    rw [List.range'_succ, List.map_cons, forL_nx (es := [nD w]) _ _ rfl e1]
    exact e2
theorem v_l_any_net (hg : GraphSt g) (ns : List Int) (first : Nat) (w1 : 1 ≤ g.wires.length) (w10 : g.wires.length ≤ 10) (ys : List (Nat × Nat)) (hy : ys.length ≤ 900) : ∃ net, NetB ys.length net ∧ f_l_any_net [.scr ns, nD first, graphD g, .lst (ys.map keyT)] = .ok (netMD net) := by
  obtain ⟨net, w5, w6, w7, w8, w9, w10', nb, e⟩ := an_loop hg ns first w1 w10 ys hy g.wires.length 0 [] (by omega) (by simp) (by simp) (by simp) (by simp) none none none none none none
  rw [← List.range_eq_range'] at e
  refine ⟨net, nb, ?_⟩
  have ix0 : oIx (graphD g) (nD 0) = .ok (wiresD g.wires) := ix_graph0 g
  have wl : bLen [wiresD g.wires] = .ok (nD g.wires.length) := len_wiresD _
  have rg : rg1 [nD g.wires.length] = .ok ((List.range g.wires.length).map nD) := rg1_nD (by omega)
  have ht : bTuple [.lst (net.map netM)] = .ok (netMD net) := rfl
  rw [List.map_nil] at e
  generalize (List.range g.wires.length).map nD = rl at *
  generalize net.map netM = nl at *
  generalize netMD net = nd at *
  generalize wiresD g.wires = wsd at *
  generalize graphD g = gd at *
  generalize ys.map keyT = yl at *
  simp [f_l_any_net, d_l_any_net, ix0, wl, rg, e, ht]
end CW
namespace CW
open PySem PySem.Spec PyProof.Rows L2

variable {g : Graph}
theorem ok_gate (k : Nat) (rs : Gte) : okD (k + 3) (gateT rs) = true := by
  unfold gateT
  rw [okD_tup, okDs_map, List.all_eq_true]
  exact fun x _ => okD_keyT (k + 1) x
theorem ok_gts (k : Nat) (gs : List Gte) : okD (k + 4) (gtsT gs) = true := by
  unfold gtsT
  rw [okD_tup, okDs_map, List.all_eq_true]
  exact fun x _ => ok_gate k x
theorem ok_net (net : List NetM) : okD 60 (netMD net) = true := by
  unfold netMD
  rw [okD_tup, okDs_map, List.all_eq_true]
  intro p _
  unfold netM
  rw [okD_tup, okDs_cons, okDs_cons, okDs_cons, okDs_nil, ok_gts 54, ok_gts 54]
  rfl
theorem law_true (ns : List Int) (hn : ns.length ≤ 63) : f_law_k61 [.scr ns] = .ok (.bl true) := by
  obtain ⟨g, e1, p1⟩ := v_l_any_graph_2 ns 0 3 3 (by decide) (by decide) (by decide)
  have hg : GraphSt g := p1.gw.1
  obtain ⟨S, sp, hS⟩ := p1.sb
  obtain ⟨ys, e2, nd, sub, _⟩ := v_l_stands hg sp (by omega)
  have hy : ys.length ≤ 900 := by
    have := nodup_sub ys S nd sub
    omega
  obtain ⟨net, nb, e3⟩ := v_l_any_net hg ns 12 p1.w1 p1.w10 ys hy
  have hB : ys.length ≤ 1000 := by omega
  have e4 := v_apart hB nb
  have e5 := v_l_apart hB nb
  obtain ⟨b, e6, h6⟩ := v_l_within hB nb
  have hG : Gs61 g := ⟨hg, p1.wl⟩
  have e7 := v_l_begins hG (nb.nw hB)
  have ne := oNe_self (ok_net (aprN net))
  clear hB hy nd sub sp hS
  cases b with
  | false =>
    generalize netMD (aprN net) = an at *
    generalize netMD net = nd at *
    generalize ys.map keyT = yl at *
    generalize graphD g = gd at *
    simp [f_law_k61, d_law_k61, e1, e2, e3, e4, e5, e6, e7, ne]
  | true =>
    have e8 := v_l_begins hG (apr_nw nb (h6 rfl))
    generalize netMD (aprN net) = an at *
    generalize netMD net = nd at *
    generalize ys.map keyT = yl at *
    generalize graphD g = gd at *
    simp [f_law_k61, d_law_k61, e1, e2, e3, e4, e5, e6, e7, e8, ne]
end CW
theorem PySem.Challenge.cw_calmwires_k61_moves_holds : PySem.Challenge.rw_calmwires_k61_moves.Holds :=
  CW.holds_of CW.law_true
