import PyProof.Rows.All
import Wide.All
import OpenK.AllK
import Wide.FinOn
import HandS.ForMost
import HandS.ForExc
import HandS.ExcInit
import HandS.CallSlots
import HandS.StrMore
import HandS.IsInst
import HandS.Defaults
import HandS.Property
import HandS.ClsMeth
import HandS.Flow
import HandS.Wide
import HandS.Conv
import HandS.HotCalls
import HandS.TupAny
import HandS.Deep
import HandS.NoneIn
import HandS.SuiteRaise
import HandS.ExcInitHot
import HandS.TryMany
import HandS.Dict
import HandS.ExcIs
import KE.KExcIs
import PyProof.StrOps2
import HandS.RaiseMore
import PyProof.FactsLen
import HandS.Iter
import HandS.Replace
import HandS.ReplaceLit
import HandS.ReplaceList
import PySem.Challenge.RW_oncecoin_k82_disks_side_by_side
import HandS.Text
import KE.IntTextLaws
import KE.IntTextText
import PyProof.Rows.StrStrike
set_option Elab.async false
set_option linter.all false
set_option maxRecDepth 100000
set_option maxHeartbeats 4000000
/-! SL: values as trees over the abstract heap. Tuples are values here; what may change stands at an address. -/
namespace SL
open PySem PySem.Spec L2

/-- the codes of a written text -/
def cs (s : String) : List Nat := s.toList.map Char.toNat
/-- a text of codes -/
def tx (l : List Nat) : Str := ⟨l.toArray⟩
theorem tx_cs (s : String) : tx (cs s) = Str.ofString s := by rw [Str.ofString_eq_toList]; rfl
theorem tx_inj {a b : List Nat} : tx a = tx b ↔ a = b := by
  constructor
  · intro h
    have := congrArg (fun x : Str => x.cps.toList) h
    simpa [tx] using this
  · rintro rfl; rfl
theorem tx_of (x : Str) : tx x.cps.toList = x := by cases x; simp [tx]
theorem tx_cps (l : List Nat) : (tx l).cps.toList = l := by simp [tx]
theorem tx_len (l : List Nat) : (tx l).length = l.length := by simp [tx, Str.length]

/-- a value: a tree; what may change stands at an address -/
inductive D where
  | non | bl (b : Bool) | int (i : Int) | str (x : List Nat) | tup (xs : List D) | ref (a : Addr)
  /-- an exception that is handled: its own dict, its attributes -/
  | exc (a : Addr) (dd : Option Addr) (ks : List Str) (ds : List D)
  /-- a list that stands in the written part -/
  | kl (xs : List D)

def KLs (K : PySem.W.Frag) (a : Addr) (xs : List V) : Prop := ∃ (o : Obj) (its : Array Value) (n : Nat), K.lookup a = some o ∧ o.cls = .type "list" ∧ o.dict = none ∧ o.data = .seq its n ∧ its.size ≤ sizeLine ∧ Vals xs its.toList
mutual
/-- the value v is the tree d in the heap H -/
def Rep (K : PySem.W.Frag) (H : Hp) : D → V → Prop
  | .non, v => v = .non
  | .bl b, v => v = .bl b
  | .int i, v => v = .int i
  | .str x, v => v = .str (tx x)
  | .ref a, v => v = .ref a
  | .tup xs, v => ∃ a vs, v = .ref a ∧ SqT K H a vs ∧ RepL K H xs vs
  | .exc a dd ks ds, v => ∃ vfs, v = .ref a ∧ (dd = none → ks = []) ∧ (∀ dx, dd = some dx → H dx = some (.xd vfs)) ∧ vfs.map (·.1) = ks ∧ RepL K H ds (vfs.map (·.2))
  | .kl xs, v => ∃ a vs, v = .ref a ∧ KLs K a vs ∧ RepL K H xs vs
def RepL (K : PySem.W.Frag) (H : Hp) : List D → List V → Prop
  | [], vs => vs = []
  | x :: xs, vs => ∃ v r, vs = v :: r ∧ Rep K H x v ∧ RepL K H xs r
end

/-- tuples and exceptions' dicts stay -/
structure TK (K : PySem.W.Frag) (H H' : Hp) : Prop where
  tup : ∀ a xs, SqT K H a xs → SqT K H' a xs
  xd : ∀ a fs, H a = some (.xd fs) → H' a = some (.xd fs)
theorem TK.refl (K : PySem.W.Frag) (H : Hp) : TK K H H := ⟨fun _ _ h => h, fun _ _ h => h⟩
theorem TK.trans {K : PySem.W.Frag} {H H1 H2 : Hp} (a : TK K H H1) (b : TK K H1 H2) : TK K H H2 := ⟨fun x xs h => b.tup x xs (a.tup x xs h), fun x xs h => b.xd x xs (a.xd x xs h)⟩
theorem TK.of_same {K : PySem.W.Frag} {H H' : Hp} (h : Same H H') : TK K H H' := ⟨fun a xs q => by
  rcases q with (q | ⟨o, q⟩) | q
  · exact .inl (.inl (h _ _ q))
  · exact .inl (.inr ⟨o, h _ _ q⟩)
  · exact .inr q, fun a fs q => h _ _ q⟩
theorem Same.new {H : Hp} {p : Addr} {o : HO} (h : H p = none) : Same H (upd H p o) := fun b u e => by rw [upd_ne (ne_of_none e h)]; exact e
theorem TK.new {K : PySem.W.Frag} {H : Hp} {p : Addr} {o : HO} (h : H p = none) : TK K H (upd H p o) := .of_same (Same.new h)
theorem TK.mut {K : PySem.W.Frag} {H : Hp} {p : Addr} {o : HO} (h : Mut (H p)) : TK K H (upd H p o) := by
  have nt : ∀ {c : Addr} {u : HO}, H c = some u → ¬ Mut (some u) → c ≠ p := fun {c u} e nm z => by rw [← z, e] at h; exact nm h
  refine ⟨fun a xs q => ?_, fun a fs q => by rw [upd_ne (nt q fun z => z)]; exact q⟩
  rcases q with (q | ⟨o, q⟩) | q
  · exact .inl (.inl (by rw [upd_ne (nt q fun z => z)]; exact q))
  · exact .inl (.inr ⟨o, by rw [upd_ne (nt q fun z => z)]; exact q⟩)
  · exact .inr q

mutual
theorem Rep.mono {K : PySem.W.Frag} {H H' : Hp} (t : TK K H H') : ∀ (d : D) (v : V), Rep K H d v → Rep K H' d v
  | .non, v, h => h
  | .bl b, v, h => h
  | .int i, v, h => h
  | .str x, v, h => h
  | .ref a, v, h => h
  | .tup xs, v, h => by
    obtain ⟨a, vs, e, s, r⟩ := h
    exact ⟨a, vs, e, t.tup _ _ s, RepL.mono t xs vs r⟩
  | .exc a dd ks ds, v, h => by
    obtain ⟨vfs, e, e2, hx, hk, r⟩ := h
    exact ⟨vfs, e, e2, fun dx ed => t.xd _ _ (hx dx ed), hk, RepL.mono t ds _ r⟩
  | .kl xs, v, h => by
    obtain ⟨a, vs, e, s, r⟩ := h
    exact ⟨a, vs, e, s, RepL.mono t xs vs r⟩
theorem RepL.mono {K : PySem.W.Frag} {H H' : Hp} (t : TK K H H') : ∀ (ds : List D) (vs : List V), RepL K H ds vs → RepL K H' ds vs
  | [], vs, h => h
  | d :: ds, vs, h => by
    obtain ⟨v, r, e, h1, h2⟩ := h
    exact ⟨v, r, e, Rep.mono t d v h1, RepL.mono t ds r h2⟩
end
theorem Rep.keep {K : PySem.W.Frag} {H H' : Hp} {d : D} {v : V} (h : Rep K H d v) (t : TK K H H') : Rep K H' d v := Rep.mono t d v h
theorem RepL.keep {K : PySem.W.Frag} {H H' : Hp} {d : List D} {v : List V} (h : RepL K H d v) (t : TK K H H') : RepL K H' d v := RepL.mono t d v h

section
variable {K : PySem.W.Frag} {H : Hp}
theorem rep_non {v : V} : Rep K H .non v ↔ v = .non := by simp [Rep]
theorem rep_bl {b : Bool} {v : V} : Rep K H (.bl b) v ↔ v = .bl b := by simp [Rep]
theorem rep_int {i : Int} {v : V} : Rep K H (.int i) v ↔ v = .int i := by simp [Rep]
theorem rep_str {x : List Nat} {v : V} : Rep K H (.str x) v ↔ v = .str (tx x) := by simp [Rep]
theorem rep_ref {a : Addr} {v : V} : Rep K H (.ref a) v ↔ v = .ref a := by simp [Rep]
theorem rep_tup {xs : List D} {v : V} : Rep K H (.tup xs) v ↔ ∃ a vs, v = .ref a ∧ SqT K H a vs ∧ RepL K H xs vs := by simp [Rep]
theorem rep_kl {xs : List D} {v : V} : Rep K H (.kl xs) v ↔ ∃ a vs, v = .ref a ∧ KLs K a vs ∧ RepL K H xs vs := by simp [Rep]
theorem repL_nil {vs : List V} : RepL K H [] vs ↔ vs = [] := by simp [RepL]
theorem repL_cons {d : D} {ds : List D} {vs : List V} : RepL K H (d :: ds) vs ↔ ∃ v r, vs = v :: r ∧ Rep K H d v ∧ RepL K H ds r := by simp [RepL]
theorem RepL.cons {d : D} {ds : List D} {v : V} {vs : List V} (h : Rep K H d v) (t : RepL K H ds vs) : RepL K H (d :: ds) (v :: vs) := repL_cons.mpr ⟨v, vs, rfl, h, t⟩
theorem RepL.nil : RepL K H [] [] := repL_nil.mpr rfl
theorem RepL.length : ∀ {ds : List D} {vs : List V}, RepL K H ds vs → vs.length = ds.length
  | [], vs, h => by rw [repL_nil.mp h]; rfl
  | d :: ds, vs, h => by
    obtain ⟨v, r, e, _, h2⟩ := repL_cons.mp h
    rw [e, List.length_cons, List.length_cons, RepL.length h2]
theorem RepL.get : ∀ {ds : List D} {vs : List V} {i : Nat} {d : D}, RepL K H ds vs → ds[i]? = some d → ∃ v, vs[i]? = some v ∧ Rep K H d v
  | [], _, _, _, _, e => by simp at e
  | d :: ds, vs, i, d', h, e => by
    obtain ⟨v, r, ev, h1, h2⟩ := repL_cons.mp h
    subst ev
    cases i with
    | zero => simp at e; subst e; exact ⟨v, rfl, h1⟩
    | succ i =>
      obtain ⟨w, e1, e2⟩ := RepL.get (i := i) h2 (by simpa using e)
      exact ⟨w, by simpa using e1, e2⟩
theorem RepL.getV : ∀ {ds : List D} {vs : List V} {i : Nat} {v : V}, RepL K H ds vs → vs[i]? = some v → ∃ d, ds[i]? = some d ∧ Rep K H d v
  | [], vs, _, _, h, e => by rw [repL_nil.mp h] at e; simp at e
  | d :: ds, vs, i, v', h, e => by
    obtain ⟨v, r, ev, h1, h2⟩ := repL_cons.mp h
    subst ev
    cases i with
    | zero => simp at e; subst e; exact ⟨d, rfl, h1⟩
    | succ i =>
      obtain ⟨w, e1, e2⟩ := RepL.getV (i := i) h2 (by simpa using e)
      exact ⟨w, by simpa using e1, e2⟩
theorem RepL.append : ∀ {ds ds' : List D} {vs vs' : List V}, RepL K H ds vs → RepL K H ds' vs' → RepL K H (ds ++ ds') (vs ++ vs')
  | [], _, vs, _, h, t => by rw [repL_nil.mp h]; exact t
  | d :: ds, ds', vs, vs', h, t => by
    obtain ⟨v, r, ev, h1, h2⟩ := repL_cons.mp h
    subst ev
    exact .cons h1 (RepL.append h2 t)
theorem RepL.take : ∀ {ds : List D} {vs : List V} (n : Nat), RepL K H ds vs → RepL K H (ds.take n) (vs.take n)
  | _, _, 0, _ => by simp [RepL]
  | [], vs, n + 1, h => by rw [repL_nil.mp h]; simp [RepL]
  | d :: ds, vs, n + 1, h => by
    obtain ⟨v, r, ev, h1, h2⟩ := repL_cons.mp h
    subst ev
    exact .cons h1 (RepL.take n h2)
theorem RepL.drop : ∀ {ds : List D} {vs : List V} (n : Nat), RepL K H ds vs → RepL K H (ds.drop n) (vs.drop n)
  | _, _, 0, h => by simpa using h
  | [], vs, n + 1, h => by rw [repL_nil.mp h]; simp [RepL]
  | d :: ds, vs, n + 1, h => by
    obtain ⟨v, r, ev, h1, h2⟩ := repL_cons.mp h
    subst ev
    exact RepL.drop n h2
theorem RepL.set : ∀ {ds : List D} {vs : List V} {d : D} {v : V} (i : Nat), Rep K H d v → RepL K H ds vs → RepL K H (ds.set i d) (vs.set i v)
  | [], vs, _, _, _, _, h => by rw [repL_nil.mp h]; simp [RepL]
  | d :: ds, vs, d', v', i, r', h => by
    obtain ⟨v, r, ev, h1, h2⟩ := repL_cons.mp h
    subst ev
    cases i with
    | zero => exact .cons r' h2
    | succ i => exact .cons h1 (RepL.set i r' h2)
theorem RepL.reverse {ds : List D} {vs : List V} (h : RepL K H ds vs) : RepL K H ds.reverse vs.reverse := by
  induction ds generalizing vs with
  | nil => rw [repL_nil.mp h]; simp [RepL]
  | cons d ds ih =>
    obtain ⟨v, r, ev, h1, h2⟩ := repL_cons.mp h
    subst ev
    rw [List.reverse_cons, List.reverse_cons]
    exact (ih h2).append (.cons h1 .nil)
theorem RepL.uncons {d : D} {ds : List D} {v : V} {vs : List V} (h : RepL K H (d :: ds) (v :: vs)) : Rep K H d v ∧ RepL K H ds vs := by
  obtain ⟨v', r, ev, h1, h2⟩ := repL_cons.mp h
  cases ev
  exact ⟨h1, h2⟩
theorem Rep.tup {a : Addr} {xs : List D} {vs : List V} (h : SqT K H a vs) (r : RepL K H xs vs) : Rep K H (.tup xs) (.ref a) := rep_tup.mpr ⟨a, vs, rfl, h, r⟩
theorem Rep.newTup {p : Addr} {xs : List D} {vs : List V} (n : H p = none) (r : RepL K H xs vs) : Rep K (upd H p (.tup vs)) (.tup xs) (.ref p) :=
  .tup (.of upd_same) (r.keep (.new n))
end

/-- what stands at an address -/
inductive Ob where
  /-- a list that may change -/
  | lst (xs : List D)
  /-- a list that is read alone -/
  | rol (xs : List D)
  /-- an instance, its attributes in order -/
  | ins (C : Addr) (fs : List (Str × D))
  /-- a dict, its keys ints and texts -/
  | dic (kvs : List (Key × D))
abbrev SS := Addr → Option Ob
abbrev En := List (Option D)
abbrev Fs := List (Str × D)

def FsR (K : PySem.W.Frag) (H : Hp) (fs : Fs) (vfs : List (Str × V)) : Prop := vfs.map (·.1) = fs.map (·.1) ∧ RepL K H (fs.map (·.2)) (vfs.map (·.2))
def DicR (K : PySem.W.Frag) (H : Hp) (kvs : List (Key × D)) (vk : List (Key × V)) : Prop := vk.map (·.1) = kvs.map (·.1) ∧ RepL K H (kvs.map (·.2)) (vk.map (·.2))
def ObR (K : PySem.W.Frag) (H : Hp) (a : Addr) : Ob → Prop
  | .lst xs => ∃ vs, H a = some (.lst vs) ∧ RepL K H xs vs
  | .rol xs => ∃ vs, Rd H a (.lst vs) ∧ RepL K H xs vs
  | .ins C fs => ∃ dx vfs, H a = some (.ins C dx vfs) ∧ FsR K H fs vfs
  | .dic kvs => ∃ vk, H a = some (.dK vk) ∧ DicR K H kvs vk
/-- the state S is in the heap H -/
def AbsS (K : PySem.W.Frag) (H : Hp) (S : SS) : Prop := ∀ a o, S a = some o → ObR K H a o
def EnvR (K : PySem.W.Frag) (H : Hp) (env : En) (σ : St) : Prop := σ.length = env.length ∧ ∀ (i : Nat) (d : D), env[i]? = some (some d) → ∃ v, (σ : List (Option V))[i]? = some (some v) ∧ Rep K H d v

def sup (S : SS) (a : Addr) (o : Ob) : SS := fun b => if b = a then some o else S b
theorem sup_same {S : SS} {a : Addr} {o : Ob} : sup S a o a = some o := by unfold sup; rw [if_pos rfl]
theorem sup_ne {S : SS} {a b : Addr} {o : Ob} (h : b ≠ a) : sup S a o b = S b := by unfold sup; rw [if_neg h]
theorem sup_sup {S : SS} {a : Addr} {o u : Ob} : sup (sup S a o) a u = sup S a u := by funext b; unfold sup; split <;> rfl
/-- less is known -/
def Le (S S' : SS) : Prop := ∀ a o, S a = some o → S' a = some o
theorem Le.refl (S : SS) : Le S S := fun _ _ h => h
theorem Le.trans {S S1 S2 : SS} (a : Le S S1) (b : Le S1 S2) : Le S S2 := fun c o h => b c o (a c o h)
theorem Le.new {S : SS} {p : Addr} {o : Ob} (h : S p = none) : Le S (sup S p o) := fun b u e => by
  rw [sup_ne (fun z => by rw [z, h] at e; cases e)]; exact e
theorem Le.newOf {S0 S : SS} {p : Addr} {o : Ob} (l : Le S0 S) (h : S p = none) : Le S0 (sup S p o) := l.trans (.new h)
theorem Le.sup {S S' : SS} {p : Addr} {o : Ob} (l : Le S S') : Le (sup S p o) (SL.sup S' p o) := fun b u e => by
  unfold SL.sup at e ⊢
  split
  · rename_i h; rw [if_pos h] at e; exact e
  · rename_i h; rw [if_neg h] at e; exact l _ _ e

section
variable {K : PySem.W.Frag} {H H' : Hp} {S S' : SS} {env : En} {σ : St}
theorem FsR.keep {fs : Fs} {vfs : List (Str × V)} (h : FsR K H fs vfs) (t : TK K H H') : FsR K H' fs vfs := ⟨h.1, h.2.keep t⟩
theorem DicR.keep {kvs : List (Key × D)} {vk : List (Key × V)} (h : DicR K H kvs vk) (t : TK K H H') : DicR K H' kvs vk := ⟨h.1, h.2.keep t⟩
theorem FsR.lookup : ∀ {fs : Fs} {vfs : List (Str × V)} {f : Str} {d : D}, FsR K H fs vfs → fs.lookup f = some d → ∃ v, vfs.lookup f = some v ∧ Rep K H d v
  | [], vfs, f, d, h, e => by simp at e
  | (g, x) :: fs, [], f, d, h, e => by have := h.1; simp at this
  | (g, x) :: fs, (g', y) :: vfs, f, d, h, e => by
    obtain ⟨h1, h2⟩ := h
    simp only [List.map_cons, List.cons.injEq] at h1
    obtain ⟨e1, h1⟩ := h1
    simp only [List.map_cons] at h2
    obtain ⟨r1, r2⟩ := h2.uncons
    subst e1
    rw [List.lookup_cons] at e ⊢
    cases q : f == g' with
    | true => rw [q] at e; simp at e; subst e; exact ⟨y, rfl, r1⟩
    | false => rw [q] at e; exact FsR.lookup (fs := fs) (vfs := vfs) ⟨h1, r2⟩ e
theorem FsR.lookup_none : ∀ {fs : Fs} {vfs : List (Str × V)} {f : Str}, FsR K H fs vfs → fs.lookup f = none → vfs.lookup f = none
  | [], vfs, f, h, e => by have := h.1; simp at this; rw [this]; rfl
  | (g, x) :: fs, [], f, h, e => by have := h.1; simp at this
  | (g, x) :: fs, (g', y) :: vfs, f, h, e => by
    obtain ⟨h1, h2⟩ := h
    simp only [List.map_cons, List.cons.injEq] at h1
    obtain ⟨e1, h1⟩ := h1
    simp only [List.map_cons] at h2
    obtain ⟨r1, r2⟩ := h2.uncons
    subst e1
    rw [List.lookup_cons] at e ⊢
    cases q : f == g' with
    | true => rw [q] at e; simp at e
    | false => rw [q] at e; exact FsR.lookup_none (fs := fs) (vfs := vfs) ⟨h1, r2⟩ e
/-- an attribute stored -/
def putS (f : Str) (d : D) : Fs → Fs
  | [] => [(f, d)]
  | (g, x) :: r => if g = f then (g, d) :: r else (g, x) :: putS f d r
theorem FsR.put {f : Str} {d : D} {v : V} (r : Rep K H d v) : ∀ {fs : Fs} {vfs : List (Str × V)}, FsR K H fs vfs → FsR K H (putS f d fs) (putF f v vfs)
  | [], vfs, h => by
    have := h.1; simp at this; subst this
    exact ⟨rfl, .cons r .nil⟩
  | (g, x) :: fs, [], h => by have := h.1; simp at this
  | (g, x) :: fs, (g', y) :: vfs, h => by
    obtain ⟨h1, h2⟩ := h
    simp only [List.map_cons, List.cons.injEq] at h1
    obtain ⟨e1, h1⟩ := h1
    simp only [List.map_cons] at h2
    obtain ⟨r1, r2⟩ := h2.uncons
    subst e1
    unfold putS putF
    by_cases q : g' = f
    · rw [if_pos q, if_pos q]
      exact ⟨by simp [h1], .cons r r2⟩
    · rw [if_neg q, if_neg q]
      have ih := FsR.put (f := f) r (fs := fs) (vfs := vfs) ⟨h1, r2⟩
      exact ⟨by simp [ih.1], .cons r1 ih.2⟩
theorem FsR.length {fs : Fs} {vfs : List (Str × V)} (h : FsR K H fs vfs) : vfs.length = fs.length := by
  have := congrArg List.length h.1
  simpa using this

theorem ObR.same {a : Addr} {o : Ob} (h : ObR K H a o) (s : Same H H') : ObR K H' a o := by
  have t : TK K H H' := .of_same s
  cases o with
  | lst xs => obtain ⟨vs, e, r⟩ := h; exact ⟨vs, s _ _ e, r.keep t⟩
  | rol xs =>
    obtain ⟨vs, e, r⟩ := h
    refine ⟨vs, ?_, r.keep t⟩
    rcases e with e | ⟨o, e⟩
    · exact .inl (s _ _ e)
    · exact .inr ⟨o, s _ _ e⟩
  | ins C fs => obtain ⟨dx, vfs, e, r⟩ := h; exact ⟨dx, vfs, s _ _ e, r.keep t⟩
  | dic kvs => obtain ⟨vk, e, r⟩ := h; exact ⟨vk, s _ _ e, r.keep t⟩
theorem AbsS.same (h : AbsS K H S) (s : Same H H') : AbsS K H' S := fun a o e => (h a o e).same s
theorem AbsS.le (h : AbsS K H S) (l : Le S' S) : AbsS K H S' := fun a o e => h a o (l a o e)
theorem ObR.ne_none {a : Addr} {o : Ob} (h : ObR K H a o) : H a ≠ none := by
  cases o with
  | lst xs => obtain ⟨vs, e, r⟩ := h; rw [e]; simp
  | rol xs =>
    obtain ⟨vs, e | ⟨o, e⟩, r⟩ := h <;> (rw [e]; simp)
  | ins C fs => obtain ⟨dx, vfs, e, r⟩ := h; rw [e]; simp
  | dic kvs => obtain ⟨vk, e, r⟩ := h; rw [e]; simp
theorem AbsS.fresh (h : AbsS K H S) {p : Addr} (n : H p = none) : S p = none := by
  cases e : S p with
  | none => rfl
  | some o => exact absurd n (h p o e).ne_none
/-- a new object -/
theorem AbsS.new (h : AbsS K H S) {p : Addr} {u : HO} {o : Ob} (n : H p = none) (r : ObR K (upd H p u) p o) : AbsS K (upd H p u) (sup S p o) := fun b ob e => by
  by_cases hb : b = p
  · subst hb; rw [sup_same] at e; cases e; exact r
  · rw [sup_ne hb] at e
    exact (h b ob e).same (Same.new n)
/-- what stands at p is changed; p is neither a tuple nor locked -/
theorem ObR.other {b p : Addr} {u : HO} {o : Ob} (h : ObR K H b o) (hb : b ≠ p) (m : Mut (H p)) : ObR K (upd H p u) b o := by
  have t : TK K H (upd H p u) := .mut m
  cases o with
  | lst xs => obtain ⟨vs, e, r⟩ := h; exact ⟨vs, by rw [upd_ne hb]; exact e, r.keep t⟩
  | rol xs =>
    obtain ⟨vs, e, r⟩ := h
    refine ⟨vs, ?_, r.keep t⟩
    rcases e with e | ⟨o, e⟩
    · exact .inl (by rw [upd_ne hb]; exact e)
    · exact .inr ⟨o, by rw [upd_ne hb]; exact e⟩
  | ins C fs => obtain ⟨dx, vfs, e, r⟩ := h; exact ⟨dx, vfs, by rw [upd_ne hb]; exact e, r.keep t⟩
  | dic kvs => obtain ⟨vk, e, r⟩ := h; exact ⟨vk, by rw [upd_ne hb]; exact e, r.keep t⟩
theorem AbsS.put (h : AbsS K H S) {p : Addr} {u : HO} {o : Ob} (m : Mut (H p)) (r : ObR K (upd H p u) p o) : AbsS K (upd H p u) (sup S p o) := fun b ob e => by
  by_cases hb : b = p
  · subst hb; rw [sup_same] at e; cases e; exact r
  · rw [sup_ne hb] at e
    exact (h b ob e).other hb m
theorem EnvR.keep (h : EnvR K H env σ) (t : TK K H H') : EnvR K H' env σ := ⟨h.1, fun i d e => let ⟨v, e1, r⟩ := h.2 i d e; ⟨v, e1, r.keep t⟩⟩
theorem EnvR.set (h : EnvR K H env σ) {i : Nat} {d : D} {v : V} (r : Rep K H d v) : EnvR K H (env.set i (some d)) (σ.set i (some v)) := by
  refine ⟨by simp [h.1], fun j d' e => ?_⟩
  by_cases hj : i = j
  · subst hj
    by_cases hl : i < env.length
    · rw [List.getElem?_set_self hl] at e
      cases e
      exact ⟨v, by rw [List.getElem?_set_self (by rw [h.1]; exact hl)], r⟩
    · rw [List.getElem?_eq_none (by simpa using hl)] at e; cases e
  · rw [List.getElem?_set_ne hj] at e
    obtain ⟨w, e1, r1⟩ := h.2 j d' e
    exact ⟨w, by rw [List.getElem?_set_ne hj]; exact e1, r1⟩
theorem EnvR.unset (h : EnvR K H env σ) {i : Nat} : EnvR K H (env.set i none) (σ.set i none) := by
  refine ⟨by simp [h.1], fun j d' e => ?_⟩
  by_cases hj : i = j
  · subst hj
    by_cases hl : i < env.length
    · rw [List.getElem?_set_self hl] at e; cases e
    · rw [List.getElem?_eq_none (by simpa using hl)] at e; cases e
  · rw [List.getElem?_set_ne hj] at e
    obtain ⟨w, e1, r1⟩ := h.2 j d' e
    exact ⟨w, by rw [List.getElem?_set_ne hj]; exact e1, r1⟩
end
end SL

set_option Elab.async false
set_option linter.all false
set_option maxRecDepth 100000
set_option maxHeartbeats 4000000
/-! SL2: judgements over trees; expressions. -/
namespace SL
open PySem PySem.Spec L2

abbrev QN := D → SS → Prop
abbrev QX := Value → Fs → SS → Prop
abbrev QXE := Value → Fs → En → SS → Prop
abbrev UE := En → SS → QN → QX → Prop
abbrev UA := En → SS → (List D → SS → Prop) → QX → Prop
abbrev UT := En → SS → (Bool → SS → Prop) → QX → Prop
structure EndsS where
  nx : En → SS → Prop
  rt : QN
  bk : En → SS → Prop
  ct : En → SS → Prop
  ex : QXE
abbrev US := EndsS → En → SS → Prop

/-- what an exception's own dict holds -/
def XR (K : PySem.W.Frag) (H : Hp) (d : Option Addr) (fs : Fs) : Prop := match d with
  | none => fs = []
  | some a => ∃ vfs, H a = some (.xd vfs) ∧ FsR K H fs vfs
def lw (K : PySem.W.Frag) (H0 : Hp) (W : QXE) : WX := fun cls d σ H => ∃ env S fs, TK K H0 H ∧ EnvR K H env σ ∧ AbsS K H S ∧ XR K H d fs ∧ W cls fs env S
theorem tstep {X : Cx} {K : PySem.W.Frag} {H H1 : Hp} {W : QXE} (h : L2N.Takes X (lw K H W)) (t : TK K H H1) : L2N.Takes X (lw K H1 W) := h.imp fun _ _ _ _ ⟨env, S, fs, t', r⟩ => ⟨env, S, fs, t.trans t', r⟩

def LE (X : Cx) (u : UE) : TE := fun σ H Q => ∃ env S Qd W, EnvR X.K H env σ ∧ AbsS X.K H S ∧ L2N.Takes X (lw X.K H W) ∧ u env S Qd (fun c fs S' => W c fs env S') ∧
  ∀ v d H' S', TK X.K H H' → Rep X.K H' d v → AbsS X.K H' S' → Qd d S' → Q v H'
def LA (X : Cx) (u : UA) : TA := fun σ H Q => ∃ env S Qd W, EnvR X.K H env σ ∧ AbsS X.K H S ∧ L2N.Takes X (lw X.K H W) ∧ u env S Qd (fun c fs S' => W c fs env S') ∧
  ∀ vs ds H' S', TK X.K H H' → RepL X.K H' ds vs → AbsS X.K H' S' → Qd ds S' → Q vs H'
def LT (X : Cx) (u : UT) : TT := fun σ H Q => ∃ env S Qd W, EnvR X.K H env σ ∧ AbsS X.K H S ∧ L2N.Takes X (lw X.K H W) ∧ u env S Qd (fun c fs S' => W c fs env S') ∧
  ∀ b H' S', TK X.K H H' → AbsS X.K H' S' → Qd b S' → Q b H'
def LS (X : Cx) (u : US) : TS := fun D σ H => ∃ env S E, EnvR X.K H env σ ∧ AbsS X.K H S ∧ L2N.Takes X (lw X.K H E.ex) ∧ u E env S ∧
  (∀ σ' H' env' S', TK X.K H H' → EnvR X.K H' env' σ' → AbsS X.K H' S' → E.nx env' S' → D.nx σ' H') ∧
  (∀ v d H' S', TK X.K H H' → Rep X.K H' d v → AbsS X.K H' S' → E.rt d S' → D.rt v H') ∧
  (∀ σ' H' env' S', TK X.K H H' → EnvR X.K H' env' σ' → AbsS X.K H' S' → E.bk env' S' → D.bk σ' H') ∧
  (∀ σ' H' env' S', TK X.K H H' → EnvR X.K H' env' σ' → AbsS X.K H' S' → E.ct env' S' → D.ct σ' H')
def DE (X : Cx) (e : Expr) (u : UE) : Prop := PE X e (LE X u)
def DA (X : Cx) (es : List Expr) (u : UA) : Prop := PA X es (LA X u)
def DT (X : Cx) (e : Expr) (u : UT) : Prop := PT X e (LT X u)
def DW (X : Cx) (e : Expr) (u : UT) : Prop := PW X e (LT X u)
def DS (X : Cx) (st : Stmt) (u : US) : Prop := PS X st (LS X u)
def DB (X : Cx) (st : List Stmt) (u : US) : Prop := PSs X st (LS X u)

theorem pe_imp {X : Cx} {e : Expr} {t t' : TE} (h : PE X e t) (k : ∀ σ H Q, t' σ H Q → t σ H Q) : PE X e t' := ⟨fun pins s σ H Q I q => h.run pins s σ H Q I (k _ _ _ q)⟩
theorem pa_imp {X : Cx} {e : List Expr} {t t' : TA} (h : PA X e t) (k : ∀ σ H Q, t' σ H Q → t σ H Q) : PA X e t' := ⟨fun pos pins s σ H Q I q => h.run pos pins s σ H Q I (k _ _ _ q)⟩
theorem pt_imp {X : Cx} {e : Expr} {t t' : TT} (h : PT X e t) (k : ∀ σ H Q, t' σ H Q → t σ H Q) : PT X e t' := ⟨fun pins s σ H Q I q => h.run pins s σ H Q I (k _ _ _ q)⟩
theorem pw_imp {X : Cx} {e : Expr} {t t' : TT} (h : PW X e t) (k : ∀ σ H Q, t' σ H Q → t σ H Q) : PW X e t' := ⟨fun w pins s σ H Q I q => h.run w pins s σ H Q I (k _ _ _ q)⟩
theorem ps_imp {X : Cx} {e : Stmt} {t t' : TS} (h : PS X e t) (k : ∀ D σ H, t' D σ H → t D σ H) : PS X e t' := ⟨fun pins s σ H D I q => h.run pins s σ H D I (k _ _ _ q)⟩
theorem pss_imp {X : Cx} {e : List Stmt} {t t' : TS} (h : PSs X e t) (k : ∀ D σ H, t' D σ H → t D σ H) : PSs X e t' := ⟨fun pins s σ H D I q => h.run pins s σ H D I (k _ _ _ q)⟩

/-! ### the functions of the operators -/
mutual
/-- == of trees -/
def deq : D → D → Bool
  | .non, .non => true
  | .bl a, .bl b => a == b
  | .bl a, .int j => (if a then 1 else 0) == j
  | .int i, .bl b => i == (if b then 1 else 0)
  | .int i, .int j => i == j
  | .str x, .str y => x == y
  | .tup xs, .tup ys => deqL xs ys
  | _, _ => false
def deqL : List D → List D → Bool
  | [], [] => true
  | x :: xs, y :: ys => deq x y && deqL xs ys
  | _, _ => false
end
mutual
/-- no address within, texts of code points, n deep at most -/
def flatD : Nat → D → Bool
  | _, .non | _, .bl _ | _, .int _ => true
  | _, .str x => x.all (· < 0x110000)
  | _, .ref _ => false
  | _, .exc _ _ _ _ => false
  | _, .kl _ => false
  | 0, .tup _ => false
  | n + 1, .tup xs => flatL n xs
def flatL : Nat → List D → Bool
  | _, [] => true
  | n, x :: xs => flatD n x && flatL n xs
end
mutual
def pdD : D → PyData
  | .non => .none
  | .bl b => .bool b
  | .int i => .int i
  | .str x => .str (tx x)
  | .tup xs => .tuple (pdL xs)
  | .ref _ => .none
  | .exc _ _ _ _ => .none
  | .kl _ => .none
def pdL : List D → List PyData
  | [] => []
  | x :: xs => pdD x :: pdL xs
end
mutual
theorem eqv_deq : ∀ (n m : Nat) (a b : D), flatD n a = true → flatD m b = true → PyData.eqv (pdD a) (pdD b) = deq a b
  | n, m, .non, b, _, hb => by cases b <;> simp [pdD, deq, PyData.eqv] at hb ⊢ <;> simp [flatD] at hb
  | n, m, .bl x, b, _, hb => by cases b <;> simp [pdD, deq, PyData.eqv] at hb ⊢
  | n, m, .int x, b, _, hb => by cases b <;> simp [pdD, deq, PyData.eqv] at hb ⊢
  | n, m, .str x, b, _, hb => by
    cases b <;> simp [pdD, deq, PyData.eqv] at hb ⊢
    rw [Bool.eq_iff_iff]; simp [tx_inj]
  | n, m, .ref x, b, ha, hb => by cases n <;> simp [flatD] at ha
  | n, m, .exc x y z w, b, ha, hb => by cases n <;> simp [flatD] at ha
  | n, m, .kl x, b, ha, hb => by cases n <;> simp [flatD] at ha
  | 0, m, .tup xs, b, ha, hb => by simp [flatD] at ha
  | n + 1, m, .tup xs, b, ha, hb => by
    cases b with
    | tup ys =>
      cases m with
      | zero => simp [flatD] at hb
      | succ m =>
        simp only [pdD, deq, PyData.eqv]
        exact eqv_deqL n m xs ys (by simpa [flatD] using ha) (by simpa [flatD] using hb)
    | _ => simp [pdD, deq, PyData.eqv]
theorem eqv_deqL : ∀ (n m : Nat) (a b : List D), flatL n a = true → flatL m b = true → PyData.eqvAll (pdL a) (pdL b) = deqL a b
  | n, m, [], [], _, _ => by simp [pdL, deqL, PyData.eqvAll]
  | n, m, [], _ :: _, _, _ => by simp [pdL, deqL, PyData.eqvAll]
  | n, m, _ :: _, [], _, _ => by simp [pdL, deqL, PyData.eqvAll]
  | n, m, x :: xs, y :: ys, ha, hb => by
    simp only [flatL, Bool.and_eq_true] at ha hb
    simp only [pdL, deqL, PyData.eqvAll]
    rw [eqv_deq n m x y ha.1 hb.1, eqv_deqL n m xs ys ha.2 hb.2]
end
mutual
theorem flat_lay : ∀ (n : Nat) (a : D), flatD n a = true → PyData.canLay0 (pdD a) = true ∧ PyData.depth (pdD a) ≤ n
  | n, .non, _ => by simp [pdD, PyData.canLay0, PyData.depth]
  | n, .bl x, _ => by simp [pdD, PyData.canLay0, PyData.depth]
  | n, .int x, _ => by simp [pdD, PyData.canLay0, PyData.depth]
  | n, .str x, h => by
    refine ⟨?_, by simp [pdD, PyData.depth]⟩
    have h' : x.all (· < 0x110000) = true := by cases n <;> simpa [flatD] using h
    simp only [pdD, PyData.canLay0, PyData.strOk, tx]
    simpa using h'
  | n, .ref x, h => by cases n <;> simp [flatD] at h
  | n, .exc x y z w, h => by cases n <;> simp [flatD] at h
  | n, .kl x, h => by cases n <;> simp [flatD] at h
  | 0, .tup xs, h => by simp [flatD] at h
  | n + 1, .tup xs, h => by
    obtain ⟨h1, h2⟩ := flat_layL n xs (by simpa [flatD] using h)
    simp only [pdD, PyData.canLay0, PyData.depth]
    exact ⟨h1, by omega⟩
theorem flat_layL : ∀ (n : Nat) (a : List D), flatL n a = true → PyData.canLayAll0 (pdL a) = true ∧ PyData.depthAll (pdL a) ≤ n
  | n, [], _ => by simp [pdL, PyData.canLayAll0, PyData.depthAll]
  | n, x :: xs, h => by
    simp only [flatL, Bool.and_eq_true] at h
    obtain ⟨h1, h2⟩ := flat_lay n x h.1
    obtain ⟨h3, h4⟩ := flat_layL n xs h.2
    simp only [pdL, PyData.canLayAll0, PyData.depthAll, h1, h3, Bool.and_self, true_and]
    omega
end
theorem flat_shaped {a : D} (h : flatD 64 a = true) : SeqAt.shaped (pdD a) = true := by
  obtain ⟨h1, h2⟩ := flat_lay 64 a h
  unfold SeqAt.shaped
  rw [h1, decide_eq_true h2]; rfl
mutual
theorem rep_dp {K : PySem.W.Frag} {H : Hp} : ∀ (n : Nat) (d : D) (v : V), flatD n d = true → Rep K H d v → Dp K H v (pdD d)
  | n, .non, v, _, h => by rw [rep_non.mp h]; simp only [pdD]; exact .non
  | n, .bl b, v, _, h => by rw [rep_bl.mp h]; simp only [pdD]; exact .bl b
  | n, .int i, v, _, h => by rw [rep_int.mp h]; simp only [pdD]; exact .int i
  | n, .str x, v, _, h => by rw [rep_str.mp h]; simp only [pdD]; exact .str _
  | n, .ref a, v, f, h => by cases n <;> simp [flatD] at f
  | n, .exc x y z w, v, f, h => by cases n <;> simp [flatD] at f
  | n, .kl x, v, f, h => by cases n <;> simp [flatD] at f
  | 0, .tup xs, v, f, h => by simp [flatD] at f
  | n + 1, .tup xs, v, f, h => by
    obtain ⟨a, vs, e, q, r⟩ := rep_tup.mp h
    subst e
    simp only [pdD]
    exact .tup q (rep_dpL n xs vs (by simpa [flatD] using f) r)
theorem rep_dpL {K : PySem.W.Frag} {H : Hp} : ∀ (n : Nat) (ds : List D) (vs : List V), flatL n ds = true → RepL K H ds vs → DpAll K H vs (pdL ds)
  | n, [], vs, _, h => by rw [repL_nil.mp h]; simp only [pdL]; exact .nil
  | n, d :: ds, vs, f, h => by
    obtain ⟨v, r, e, h1, h2⟩ := repL_cons.mp h
    subst e
    simp only [flatL, Bool.and_eq_true] at f
    simp only [pdL]
    exact .cons (rep_dp n d v f.1 h1) (rep_dpL n ds r f.2 h2)
end

/-- an operator on trees that may look at the state -/
abbrev F2 := SS → D → D → Option D
def dAdd : F2
  | _, .int i, .int j => some (.int (i + j))
  | _, .str a, .str b => if a.length + b.length ≤ sizeLine then some (.str (a ++ b)) else none
  | _, .tup a, .tup b => if a.length + b.length ≤ sizeLine then some (.tup (a ++ b)) else none
  | _, _, _ => none
def dSub : F2
  | _, .int i, .int j => some (.int (i - j))
  | _, _, _ => none
instance (i j : Int) : Decidable (CMulW i j) := by unfold CMulW; infer_instance
instance (i j : Int) : Decidable (CDivW i j) := by unfold CDivW; infer_instance
def dMul : F2
  | _, .int i, .int j => if CMulW i j then some (.int (i * j)) else none
  | _, _, _ => none
def dDiv : F2
  | _, .int i, .int j => if CDivW i j then some (.int (i / j)) else none
  | _, _, _ => none
def dMod : F2
  | _, .int i, .int j => if 0 < j then some (.int (i % j)) else none
  | _, _, _ => none
def dPow : F2
  | _, .int i, .int j => if 0 ≤ j ∧ j ≤ 1000000 ∧ i.natAbs < 2 ^ 64 then some (.int (i ^ j.toNat)) else none
  | _, _, _ => none
/-- scalars -/
def isSc : D → Bool
  | .non | .bl _ | .int _ | .str _ => true
  | _ => false
/-- == : scalars that are not a bool beside an int; else flat trees -/
def dEq : F2
  | _, .non, .non => some (.bl true)
  | _, .int i, .int j => some (.bl (i == j))
  | _, .str x, .str y => some (.bl (x == y))
  | _, .bl x, .bl y => some (.bl (x == y))
  | _, x, y => if flatD 64 x && flatD 64 y then some (.bl (deq x y)) else none
def dNe : F2
  | _, .non, .non => some (.bl false)
  | _, .int i, .int j => some (.bl (!(i == j)))
  | _, .str x, .str y => some (.bl (!(x == y)))
  | _, .bl x, .bl y => some (.bl (!(x == y)))
  | _, x, y => if flatD 64 x && flatD 64 y then some (.bl (!deq x y)) else none
def dLt : F2
  | _, .int i, .int j => some (.bl (decide (i < j)))
  | _, .str x, .str y => some (.bl (decide (x < y)))
  | _, _, _ => none
def dLe : F2
  | _, .int i, .int j => some (.bl (decide (i ≤ j)))
  | _, .str x, .str y => some (.bl (!decide (y < x)))
  | _, _, _ => none
def dGt : F2
  | _, .int i, .int j => some (.bl (decide (j < i)))
  | _, .str x, .str y => some (.bl (decide (y < x)))
  | _, _, _ => none
def dGe : F2
  | _, .int i, .int j => some (.bl (decide (j ≤ i)))
  | _, .str x, .str y => some (.bl (!decide (x < y)))
  | _, _, _ => none
def isNon : D → Bool
  | .non => true
  | _ => false
/-- is None, is True, is False -/
def dIs : F2
  | _, x, .non => some (.bl (isNon x))
  | _, .bl x, .bl y => some (.bl (x == y))
  | _, .int _, .bl _ | _, .str _, .bl _ | _, .non, .bl _ => some (.bl false)
  | _, .tup _, .bl _ | _, .ref _, .bl _ => some (.bl false)
  | _, _, _ => none
def dIsNot : F2
  | _, x, .non => some (.bl (!isNon x))
  | _, .bl x, .bl y => some (.bl (!(x == y)))
  | _, _, _ => none
def seqOf (S : SS) : D → Option (List D)
  | .tup xs => some xs
  | .ref a => match S a with
    | some (.lst xs) => some xs
    | some (.rol xs) => some xs
    | _ => none
  | _ => none
def dNot : D → Option D
  | .bl b => some (.bl (!b))
  | _ => none
def dIx : F2
  | _, .tup xs, .int i => atI xs i
  | _, .str l, .int i => if l.length ≤ sizeLine then (atI l i).map (fun c => .str [c]) else none
  | S, .ref a, .int i => match S a with
    | some (.lst xs) => atI xs i
    | some (.rol xs) => atI xs i
    | _ => none
  | _, _, _ => none

def rD2 (K : PySem.W.Frag) (f : F2) : R2 := fun x y H Q => ∃ S d1 d2 z, AbsS K H S ∧ Rep K H d1 x ∧ Rep K H d2 y ∧ f S d1 d2 = some z ∧ ∀ v H', Same H H' → Rep K H' z v → Q v H'

theorem seqOf_rep {K : PySem.W.Frag} {H : Hp} {S : SS} {d : D} {v : V} {xs : List D} (hA : AbsS K H S) (r : Rep K H d v) (h : seqOf S d = some xs) : ∃ a vs, v = .ref a ∧ (SqL K H a vs ∨ SqT K H a vs) ∧ RepL K H xs vs := by
  cases d with
  | tup ys =>
    obtain ⟨a, vs, e, q, r⟩ := rep_tup.mp r
    simp only [seqOf, Option.some.injEq] at h
    subst h
    exact ⟨a, vs, e, .inr q, r⟩
  | ref a =>
    rw [rep_ref.mp r]
    simp only [seqOf] at h
    split at h
    · rename_i ys e
      cases h
      obtain ⟨vs, q, r⟩ := hA a _ e
      exact ⟨a, vs, rfl, .inl (.of q), r⟩
    · rename_i ys e
      cases h
      obtain ⟨vs, q, r⟩ := hA a _ e
      exact ⟨a, vs, rfl, .inl (.inl q), r⟩
    · cases h
  | _ => simp [seqOf] at h
theorem RepL.atI {K : PySem.W.Frag} {H : Hp} {ds : List D} {vs : List V} {i : Int} {d : D} (r : RepL K H ds vs) (h : atI ds i = some d) : ∃ v, L2.atI vs i = some v ∧ Rep K H d v := by
  unfold L2.atI at h ⊢
  rw [r.length]
  cases e : ixN ds.length i with
  | none => rw [e] at h; cases h
  | some j =>
    rw [e] at h
    exact r.get h

section
variable {X : Cx}
theorem od_add : OpR X (binaryOp .Add) (rD2 X.K dAdd) := by
  intro pins s σ H x y v u Q I rx ry ⟨S, d1, d2, z, hA, r1, r2, hz, k⟩
  unfold dAdd at hz
  split at hz
  · cases hz
    rw [rep_int] at r1 r2; subst r1; subst r2
    exact op_add pins s σ H _ _ v u Q I rx ry ⟨_, _, rfl, rfl, k _ H (Same.refl H) (rep_int.mpr rfl)⟩
  · rename_i a b
    split at hz
    · rename_i hl
      cases hz
      rw [rep_str] at r1 r2; subst r1; subst r2
      refine op_add_str pins s σ H _ _ v u Q I rx ry ⟨_, _, rfl, rfl, by rw [tx_len, tx_len]; exact hl, k _ H (Same.refl H) (rep_str.mpr ?_)⟩
      congr 1
      show (⟨_⟩ : Str) = _
      simp [tx]
    · cases hz
  · rename_i xs ys
    split at hz
    · rename_i hl
      cases hz
      obtain ⟨a, vs, rfl, h1, q1⟩ := rep_tup.mp r1
      obtain ⟨b, ws, rfl, h2, q2⟩ := rep_tup.mp r2
      refine op_catA pins s σ H _ _ v u Q I rx ry ⟨a, b, vs, ws, rfl, rfl, h1, h2, by rw [q1.length, q2.length]; exact hl, fun e => ?_, fun _ e => ?_, fun _ _ p hp => ?_⟩
      · subst e
        have e0 := q1.length
        have e1 : xs = [] := List.length_eq_zero_iff.mp e0.symm
        subst e1
        exact k _ H (Same.refl H) (.tup h2 (by simpa using q2))
      · subst e
        have e0 := q2.length
        have e1 : ys = [] := List.length_eq_zero_iff.mp e0.symm
        subst e1
        exact k _ H (Same.refl H) (.tup h1 (by simpa using q1))
      · exact k _ _ (Same.new hp) (.newTup hp (q1.append q2))
    · cases hz
  · cases hz
theorem od_int {F : Value → Value → Sem Value} {f : F2} {C : Int → Int → Prop} {g : Int → Int → V} (h : OpR X F (rI C g)) (hf : ∀ S d1 d2 z, f S d1 d2 = some z → ∃ i j, d1 = .int i ∧ d2 = .int j ∧ C i j ∧ ∀ H v, v = g i j → Rep X.K H z v) : OpR X F (rD2 X.K f) := by
  intro pins s σ H x y v u Q I rx ry ⟨S, d1, d2, z, hA, r1, r2, hz, k⟩
  obtain ⟨i, j, rfl, rfl, hc, e⟩ := hf S d1 d2 z hz
  rw [rep_int] at r1 r2; subst r1; subst r2
  exact h pins s σ H _ _ v u Q I rx ry ⟨_, _, rfl, rfl, hc, k _ H (Same.refl H) (e _ _ rfl)⟩
theorem rI0_rI {F : Value → Value → Sem Value} {g : Int → Int → V} (h : OpR X F (rI0 g)) : OpR X F (rI (fun _ _ => True) g) := fun pins s σ H x y v u Q I rx ry ⟨i, j, e1, e2, _, q⟩ => h pins s σ H x y v u Q I rx ry ⟨i, j, e1, e2, q⟩
theorem od_sub : OpR X (binaryOp .Sub) (rD2 X.K dSub) := od_int (rI0_rI op_sub) fun S d1 d2 z h => by
  unfold dSub at h
  split at h
  · cases h; exact ⟨_, _, rfl, rfl, trivial, fun _ _ e => rep_int.mpr e⟩
  · cases h
theorem od_mul : OpR X (binaryOp .Mult) (rD2 X.K dMul) := od_int op_mulW fun S d1 d2 z h => by
  unfold dMul at h
  split at h
  · split at h
    · rename_i c; cases h; exact ⟨_, _, rfl, rfl, c, fun _ _ e => rep_int.mpr e⟩
    · cases h
  · cases h
theorem od_div : OpR X (binaryOp .FloorDiv) (rD2 X.K dDiv) := od_int op_fdivW fun S d1 d2 z h => by
  unfold dDiv at h
  split at h
  · split at h
    · rename_i c; cases h; exact ⟨_, _, rfl, rfl, c, fun _ _ e => rep_int.mpr e⟩
    · cases h
  · cases h
theorem od_mod : OpR X (binaryOp .Mod) (rD2 X.K dMod) := od_int op_mod fun S d1 d2 z h => by
  unfold dMod at h
  split at h
  · split at h
    · rename_i c; cases h; exact ⟨_, _, rfl, rfl, c, fun _ _ e => rep_int.mpr e⟩
    · cases h
  · cases h
theorem od_pow : OpR X (binaryOp .Pow) (rD2 X.K dPow) := od_int op_pow fun S d1 d2 z h => by
  unfold dPow at h
  split at h
  · split at h
    · rename_i c; cases h; exact ⟨_, _, rfl, rfl, c, fun _ _ e => rep_int.mpr e⟩
    · cases h
  · cases h
theorem fin_eq {d1 d2 : D} {x y : V} {H : Hp} {Q : VK} (r1 : Rep X.K H d1 x) (r2 : Rep X.K H d2 y) (hs : scal x y = true) (k : ∀ b, b = decide (x = y) → Q (.bl b) H) : rEq x y H Q := ⟨hs, k _ rfl⟩
theorem dec_tx {a b : List Nat} : decide (V.str (tx a) = V.str (tx b)) = (a == b) := by
  rw [Bool.eq_iff_iff]
  simp [tx_inj]
theorem od_eq (hu : X.A.units + 64 < cLine) : OpR X (compareOp .Eq) (rD2 X.K dEq) := by
  intro pins s σ H x y v u Q I rx ry ⟨S, d1, d2, z, hA, r1, r2, hz, k⟩
  unfold dEq at hz
  split at hz
  · cases hz
    rw [rep_non] at r1 r2; subst r1; subst r2
    exact op_eq pins s σ H _ _ v u Q I rx ry ⟨rfl, k _ H (Same.refl H) (rep_bl.mpr rfl)⟩
  · cases hz
    rw [rep_int] at r1 r2; subst r1; subst r2
    exact op_eq pins s σ H _ _ v u Q I rx ry ⟨rfl, k _ H (Same.refl H) (rep_bl.mpr (by rw [dec_int]))⟩
  · cases hz
    rw [rep_str] at r1 r2; subst r1; subst r2
    exact op_eq pins s σ H _ _ v u Q I rx ry ⟨rfl, k _ H (Same.refl H) (rep_bl.mpr (by rw [dec_tx]))⟩
  · cases hz
    rw [rep_bl] at r1 r2; subst r1; subst r2
    exact op_eq pins s σ H _ _ v u Q I rx ry ⟨rfl, k _ H (Same.refl H) (rep_bl.mpr (by rw [dec_bl]))⟩
  · split at hz
    · rename_i c
      cases hz
      rw [Bool.and_eq_true] at c
      exact op_eqD hu pins s σ H _ _ v u Q I rx ry ⟨_, _, rep_dp 64 _ _ c.1 r1, rep_dp 64 _ _ c.2 r2, flat_shaped c.1, flat_shaped c.2, k _ H (Same.refl H) (rep_bl.mpr (by rw [eqv_deq 64 64 _ _ c.1 c.2]))⟩
    · cases hz
theorem od_ne (hu : X.A.units + 64 < cLine) : OpR X (compareOp .NotEq) (rD2 X.K dNe) := by
  intro pins s σ H x y v u Q I rx ry ⟨S, d1, d2, z, hA, r1, r2, hz, k⟩
  unfold dNe at hz
  split at hz
  · cases hz
    rw [rep_non] at r1 r2; subst r1; subst r2
    exact op_ne pins s σ H _ _ v u Q I rx ry ⟨rfl, k _ H (Same.refl H) (rep_bl.mpr rfl)⟩
  · cases hz
    rw [rep_int] at r1 r2; subst r1; subst r2
    exact op_ne pins s σ H _ _ v u Q I rx ry ⟨rfl, k _ H (Same.refl H) (rep_bl.mpr (by rw [dec_int]))⟩
  · cases hz
    rw [rep_str] at r1 r2; subst r1; subst r2
    exact op_ne pins s σ H _ _ v u Q I rx ry ⟨rfl, k _ H (Same.refl H) (rep_bl.mpr (by rw [dec_tx]))⟩
  · cases hz
    rw [rep_bl] at r1 r2; subst r1; subst r2
    exact op_ne pins s σ H _ _ v u Q I rx ry ⟨rfl, k _ H (Same.refl H) (rep_bl.mpr (by rw [dec_bl]))⟩
  · split at hz
    · rename_i c
      cases hz
      rw [Bool.and_eq_true] at c
      exact op_neD hu pins s σ H _ _ v u Q I rx ry ⟨_, _, rep_dp 64 _ _ c.1 r1, rep_dp 64 _ _ c.2 r2, flat_shaped c.1, flat_shaped c.2, k _ H (Same.refl H) (rep_bl.mpr (by rw [eqv_deq 64 64 _ _ c.1 c.2]))⟩
    · cases hz
theorem od_lt : OpR X (compareOp .Lt) (rD2 X.K dLt) := by
  intro pins s σ H x y v u Q I rx ry ⟨S, d1, d2, z, hA, r1, r2, hz, k⟩
  unfold dLt at hz
  split at hz
  · cases hz
    rw [rep_int] at r1 r2; subst r1; subst r2
    exact op_lt pins s σ H _ _ v u Q I rx ry ⟨_, _, rfl, rfl, k _ H (Same.refl H) (rep_bl.mpr rfl)⟩
  · cases hz
    rw [rep_str] at r1 r2; subst r1; subst r2
    exact op_lt_str pins s σ H _ _ v u Q I rx ry ⟨_, _, rfl, rfl, k _ H (Same.refl H) (rep_bl.mpr (by simp only [tx_cps]))⟩
  · cases hz
theorem od_le : OpR X (compareOp .LtE) (rD2 X.K dLe) := by
  intro pins s σ H x y v u Q I rx ry ⟨S, d1, d2, z, hA, r1, r2, hz, k⟩
  unfold dLe at hz
  split at hz
  · cases hz
    rw [rep_int] at r1 r2; subst r1; subst r2
    exact op_le pins s σ H _ _ v u Q I rx ry ⟨_, _, rfl, rfl, k _ H (Same.refl H) (rep_bl.mpr rfl)⟩
  · cases hz
    rw [rep_str] at r1 r2; subst r1; subst r2
    exact op_le_str pins s σ H _ _ v u Q I rx ry ⟨_, _, rfl, rfl, k _ H (Same.refl H) (rep_bl.mpr (by simp only [tx_cps]))⟩
  · cases hz
theorem od_gt : OpR X (compareOp .Gt) (rD2 X.K dGt) := by
  intro pins s σ H x y v u Q I rx ry ⟨S, d1, d2, z, hA, r1, r2, hz, k⟩
  unfold dGt at hz
  split at hz
  · cases hz
    rw [rep_int] at r1 r2; subst r1; subst r2
    exact op_gt pins s σ H _ _ v u Q I rx ry ⟨_, _, rfl, rfl, k _ H (Same.refl H) (rep_bl.mpr rfl)⟩
  · cases hz
    rw [rep_str] at r1 r2; subst r1; subst r2
    exact op_gt_str pins s σ H _ _ v u Q I rx ry ⟨_, _, rfl, rfl, k _ H (Same.refl H) (rep_bl.mpr (by simp only [tx_cps]))⟩
  · cases hz
theorem od_ge : OpR X (compareOp .GtE) (rD2 X.K dGe) := by
  intro pins s σ H x y v u Q I rx ry ⟨S, d1, d2, z, hA, r1, r2, hz, k⟩
  unfold dGe at hz
  split at hz
  · cases hz
    rw [rep_int] at r1 r2; subst r1; subst r2
    exact op_ge pins s σ H _ _ v u Q I rx ry ⟨_, _, rfl, rfl, k _ H (Same.refl H) (rep_bl.mpr rfl)⟩
  · cases hz
    rw [rep_str] at r1 r2; subst r1; subst r2
    exact op_ge_str pins s σ H _ _ v u Q I rx ry ⟨_, _, rfl, rfl, k _ H (Same.refl H) (rep_bl.mpr (by simp only [tx_cps]))⟩
  · cases hz
theorem isNon_rep {H : Hp} {d : D} {x : V} (r : Rep X.K H d x) : decide (x = .non) = isNon d := by
  cases d with
  | tup xs => obtain ⟨a, vs, rfl, _⟩ := rep_tup.mp r; simp [isNon]
  | non => rw [rep_non] at r; subst r; rfl
  | bl b => rw [rep_bl] at r; subst r; rfl
  | int b => rw [rep_int] at r; subst r; rfl
  | str b => rw [rep_str] at r; subst r; rfl
  | ref b => rw [rep_ref] at r; subst r; rfl
  | exc a dd ks ds => obtain ⟨_, e, _⟩ := r; rw [e]; rfl
  | kl xs => obtain ⟨a, vs, rfl, _⟩ := rep_kl.mp r; rfl
end
end SL
namespace SL
open PySem PySem.Spec L2
section
variable {X : Cx}
theorem od_is : OpR X (compareOp .Is) (rD2 X.K dIs) := by
  intro pins s σ H x y v u Q I rx ry ⟨S, d1, d2, z, hA, r1, r2, hz, k⟩
  unfold dIs at hz
  split at hz
  · cases hz
    rw [rep_non] at r2; subst r2
    exact op_isN pins s σ H _ _ v u Q I rx ry ⟨rfl, k _ H (Same.refl H) (rep_bl.mpr (by rw [isNon_rep r1]))⟩
  · rename_i a b
    cases hz
    rw [rep_bl] at r1 r2; subst r1; subst r2
    cases (show v = Value.bool a from rx)
    cases (show u = Value.bool b from ry)
    by_cases e : a = b
    · subst e
      exact wpAny_is_self rfl ⟨.bl true, H, I, rfl, k _ H (Same.refl H) (rep_bl.mpr (by simp))⟩
    · exact wpAny_is_other rfl (fun z => e (Value.bool.inj z)) ⟨.bl false, H, I, rfl, k _ H (Same.refl H) (rep_bl.mpr (by simp [e]))⟩
  · cases hz
    rw [rep_int] at r1; rw [rep_bl] at r2; subst r1; subst r2
    obtain ⟨t, rfl⟩ := rx
    cases (show u = Value.bool _ from ry)
    exact wpAny_is_other rfl (fun z => nomatch z) ⟨.bl false, H, I, rfl, k _ H (Same.refl H) (rep_bl.mpr rfl)⟩
  · cases hz
    rw [rep_str] at r1; rw [rep_bl] at r2; subst r1; subst r2
    obtain ⟨t, rfl⟩ := rx
    cases (show u = Value.bool _ from ry)
    exact wpAny_is_other rfl (fun z => nomatch z) ⟨.bl false, H, I, rfl, k _ H (Same.refl H) (rep_bl.mpr rfl)⟩
  · cases hz
    rw [rep_non] at r1; rw [rep_bl] at r2; subst r1; subst r2
    cases (show v = Value.none from rx)
    cases (show u = Value.bool _ from ry)
    exact wpAny_is_other rfl (fun z => nomatch z) ⟨.bl false, H, I, rfl, k _ H (Same.refl H) (rep_bl.mpr rfl)⟩
  · cases hz
    obtain ⟨a, vs, rfl, _⟩ := rep_tup.mp r1
    rw [rep_bl] at r2; subst r2
    obtain rfl : v = Value.ref a := rx
    cases (show u = Value.bool _ from ry)
    exact wpAny_is_other rfl (fun z => nomatch z) ⟨.bl false, H, I, rfl, k _ H (Same.refl H) (rep_bl.mpr rfl)⟩
  · cases hz
    rename_i a _
    rw [rep_ref] at r1; rw [rep_bl] at r2; subst r1; subst r2
    obtain rfl : v = Value.ref a := rx
    cases (show u = Value.bool _ from ry)
    exact wpAny_is_other rfl (fun z => nomatch z) ⟨.bl false, H, I, rfl, k _ H (Same.refl H) (rep_bl.mpr rfl)⟩
  · cases hz
theorem od_isnot : OpR X (compareOp .IsNot) (rD2 X.K dIsNot) := by
  intro pins s σ H x y v u Q I rx ry ⟨S, d1, d2, z, hA, r1, r2, hz, k⟩
  unfold dIsNot at hz
  split at hz
  · cases hz
    rw [rep_non] at r2; subst r2
    exact op_notN pins s σ H _ _ v u Q I rx ry ⟨rfl, k _ H (Same.refl H) (rep_bl.mpr (by rw [isNon_rep r1]))⟩
  · rename_i a b
    cases hz
    rw [rep_bl] at r1 r2; subst r1; subst r2
    cases (show v = Value.bool a from rx)
    cases (show u = Value.bool b from ry)
    by_cases e : a = b
    · subst e
      exact wpAny_isNot_self rfl ⟨.bl false, H, I, rfl, k _ H (Same.refl H) (rep_bl.mpr (by simp))⟩
    · exact wpAny_isNot_other rfl (fun z => e (Value.bool.inj z)) ⟨.bl true, H, I, rfl, k _ H (Same.refl H) (rep_bl.mpr (by simp [e]))⟩
  · cases hz
theorem any_eqvL : ∀ (ys : List D) (x : D), flatD 64 x = true → flatL 64 ys = true → ((pdL ys).any fun z => PyData.eqv z (pdD x)) = ys.any fun z => deq z x
  | [], x, _, _ => by simp [pdL]
  | y :: ys, x, hx, h => by
    simp only [flatL, Bool.and_eq_true] at h
    simp only [pdL, List.any_cons]
    rw [eqv_deq 64 64 y x h.1 hx, any_eqvL ys x hx h.2]
def scV : D → Bool
  | .non | .bl _ | .int _ | .str _ => true
  | _ => false
theorem scV_flat {H : Hp} {d : D} {x : V} (r : Rep X.K H d x) (h : scV d = true) : flatV x = true := by
  cases d with
  | non => rw [rep_non] at r; subst r; rfl
  | bl b => rw [rep_bl] at r; subst r; rfl
  | int b => rw [rep_int] at r; subst r; rfl
  | str b => rw [rep_str] at r; subst r; rfl
  | _ => simp [scV] at h
theorem scV_eq {H : Hp} {d e : D} {x y : V} (r : Rep X.K H d x) (q : Rep X.K H e y) (h : scV d = true) (h' : scV e = true) : eqV x y = deq d e := by
  cases d with
  | non => rw [rep_non] at r; subst r; cases e <;> simp [scV] at h' <;> simp only [rep_non, rep_bl, rep_int, rep_str] at q <;> subst q <;> simp [eqV, deq]
  | bl b => rw [rep_bl] at r; subst r; cases e <;> simp [scV] at h' <;> simp only [rep_non, rep_bl, rep_int, rep_str] at q <;> subst q <;> simp [eqV, deq]
  | int b => rw [rep_int] at r; subst r; cases e <;> simp [scV] at h' <;> simp only [rep_non, rep_bl, rep_int, rep_str] at q <;> subst q <;> simp [eqV, deq]
  | str b =>
    rw [rep_str] at r; subst r
    cases e <;> simp [scV] at h' <;> simp only [rep_non, rep_bl, rep_int, rep_str] at q <;> subst q <;> simp [eqV, deq]
    rw [Bool.eq_iff_iff]; simp [tx_inj]
  | _ => simp [scV] at h
theorem repL_flatV {H : Hp} : ∀ {ds : List D} {vs : List V}, RepL X.K H ds vs → ds.all scV = true → vs.all flatV = true
  | [], vs, r, _ => by rw [repL_nil.mp r]; rfl
  | d :: ds, vs, r, h => by
    obtain ⟨v, t, e, h1, h2⟩ := repL_cons.mp r
    subst e
    simp only [List.all_cons, Bool.and_eq_true] at h ⊢
    exact ⟨scV_flat h1 h.1, repL_flatV h2 h.2⟩
theorem repL_inV {H : Hp} {d : D} {x : V} (rx : Rep X.K H d x) (hx : scV d = true) : ∀ {ds : List D} {vs : List V}, RepL X.K H ds vs → ds.all scV = true → inV x vs = ds.any fun z => deq z d
  | [], vs, r, _ => by rw [repL_nil.mp r]; rfl
  | e :: ds, vs, r, h => by
    obtain ⟨v, t, ee, h1, h2⟩ := repL_cons.mp r
    subst ee
    simp only [List.all_cons, Bool.and_eq_true] at h
    show (eqV v x || inV x t) = (deq e d || ds.any fun z => deq z d)
    rw [scV_eq h1 rx h.1 hx, repL_inV rx hx h2 h.2]
end
/-- one sign in a text; in a sequence: scalars, or a flat tree in a list -/
def dIn1 : F2
  | _, .str [c], .str y => some (.bl (decide (c ∈ y)))
  | _, x, .tup ys => if scV x && ys.all scV then some (.bl (ys.any fun z => deq z x)) else none
  | S, x, .ref a => match S a with
    | some (.lst ys) => if scV x && ys.all scV then some (.bl (ys.any fun z => deq z x)) else if flatD 63 x && flatL 63 ys then some (.bl (ys.any fun z => deq z x)) else none
    | some (.rol ys) => if scV x && ys.all scV then some (.bl (ys.any fun z => deq z x)) else if flatD 63 x && flatL 63 ys then some (.bl (ys.any fun z => deq z x)) else none
    | _ => none
  | _, _, _ => none
def dNotIn1 : F2 := fun S x y => (dIn1 S x y).bind dNot
mutual
theorem flat_up : ∀ (n : Nat) (a : D), flatD n a = true → flatD (n + 1) a = true
  | n, .non, _ => by simp [flatD]
  | n, .bl x, _ => by simp [flatD]
  | n, .int x, _ => by simp [flatD]
  | n, .str x, h => by cases n <;> simpa [flatD] using h
  | n, .ref x, h => by cases n <;> simp [flatD] at h
  | n, .exc x y z w, h => by cases n <;> simp [flatD] at h
  | n, .kl x, h => by cases n <;> simp [flatD] at h
  | 0, .tup xs, h => by simp [flatD] at h
  | n + 1, .tup xs, h => by simp only [flatD] at h ⊢; exact flat_upL n xs h
theorem flat_upL : ∀ (n : Nat) (a : List D), flatL n a = true → flatL (n + 1) a = true
  | n, [], _ => by simp [flatL]
  | n, x :: xs, h => by simp only [flatL, Bool.and_eq_true] at h ⊢; exact ⟨flat_up n x h.1, flat_upL n xs h.2⟩
end
section
variable {X : Cx}
theorem shaped_list {ys : List D} (h : flatL 63 ys = true) : SeqAt.shaped (.list (pdL ys)) = true := by
  obtain ⟨h1, h2⟩ := flat_layL 63 ys h
  unfold SeqAt.shaped
  simp only [PyData.canLay0, PyData.depth, h1, Bool.true_and]
  exact decide_eq_true (by omega)
theorem in_core (hu : X.A.units + 65 < cLine) {pins : List (Addr × Obj)} {s : Shared} {σ : St} {H : Hp} {x y : V} {v u : Value} {Q : VK} (neg : Bool) {op : CmpOp} (hop : op = if neg then .NotIn else .In) (I : Inv X pins σ H s) (rx : RelV x v) (ry : RelV y u)
    {S : SS} {d1 d2 : D} {b : Bool} (hA : AbsS X.K H S) (r1 : Rep X.K H d1 x) (r2 : Rep X.K H d2 y) (hz : dIn1 S d1 d2 = some (.bl b)) (k : Q (.bl (if neg then !b else b)) H) : wpAny (model X.prog X.w) X.A (compareOp op v u) (EP X pins σ Q) X.xe s := by
  have seq : ∀ {a : Addr} {vs : List V} {ys : List D}, y = .ref a → (SqL X.K H a vs ∨ SqT X.K H a vs) → RepL X.K H ys vs → scV d1 = true → ys.all scV = true → b = (ys.any fun z => deq z d1) → wpAny (model X.prog X.w) X.A (compareOp op v u) (EP X pins σ Q) X.xe s := by
    intro a vs ys ey hq rr h1 h2 eb
    have e3 := repL_inV r1 h1 rr h2
    cases neg with
    | false => subst hop; exact op_in_seq pins s σ H _ _ v u Q I rx ry ⟨a, vs, ey, hq, scV_flat r1 h1, repL_flatV rr h2, by rw [e3, ← eb]; exact k⟩
    | true => subst hop; exact op_notIn_seq pins s σ H _ _ v u Q I rx ry ⟨a, vs, ey, hq, scV_flat r1 h1, repL_flatV rr h2, by rw [e3, ← eb]; exact k⟩
  have lst : ∀ {a : Addr} {vs : List V} {ys : List D}, y = .ref a → SqL X.K H a vs → RepL X.K H ys vs → (if scV d1 && ys.all scV then some (D.bl (ys.any fun z => deq z d1)) else if flatD 63 d1 && flatL 63 ys then some (.bl (ys.any fun z => deq z d1)) else none) = some (.bl b) →
      wpAny (model X.prog X.w) X.A (compareOp op v u) (EP X pins σ Q) X.xe s := by
    intro a vs ys ey hq rr hz
    split at hz
    · rename_i c
      rw [Bool.and_eq_true] at c
      cases hz
      exact seq ey (.inl hq) rr c.1 c.2 rfl
    · split at hz
      · rename_i c
        rw [Bool.and_eq_true] at c
        cases hz
        have f1 := flat_up _ _ c.1
        have f2 := flat_upL _ _ c.2
        have e := any_eqvL ys d1 f1 f2
        have dp : Dp X.K H y (.list (pdL ys)) := by rw [ey]; exact .lst hq (rep_dpL 64 _ _ f2 rr)
        cases neg with
        | false => subst hop; exact op_inD hu pins s σ H _ _ v u Q I rx ry ⟨_, _, rep_dp 64 _ _ f1 r1, dp, flat_shaped f1, shaped_list c.2, by rw [e]; exact k⟩
        | true => subst hop; exact op_notInD hu pins s σ H _ _ v u Q I rx ry ⟨_, _, rep_dp 64 _ _ f1 r1, dp, flat_shaped f1, shaped_list c.2, by rw [e]; exact k⟩
      · cases hz
  unfold dIn1 at hz
  split at hz
  · cases hz
    rw [rep_str] at r1 r2; subst r1; subst r2
    cases neg with
    | false => subst hop; exact op_in_sign pins s σ H _ _ v u Q I rx ry ⟨_, _, rfl, rfl, by simp only [tx_cps]; exact k⟩
    | true => subst hop; exact op_notIn_sign pins s σ H _ _ v u Q I rx ry ⟨_, _, rfl, rfl, by simp only [tx_cps]; exact k⟩
  · split at hz
    · rename_i c
      rw [Bool.and_eq_true] at c
      cases hz
      obtain ⟨a, vs, ey, hq, rr⟩ := rep_tup.mp r2
      exact seq ey (.inr hq) rr c.1 c.2 rfl
    · cases hz
  · rw [rep_ref] at r2
    split at hz
    · rename_i ys e
      obtain ⟨vs, q, r⟩ := hA _ _ e
      exact lst r2 (.of q) r hz
    · rename_i ys e
      obtain ⟨vs, q, r⟩ := hA _ _ e
      exact lst r2 (.inl q) r hz
    · cases hz
  · cases hz
theorem dIn1_bl {S : SS} {x y z : D} (h : dIn1 S x y = some z) : ∃ b, z = .bl b := by
  unfold dIn1 at h
  split at h
  · cases h; exact ⟨_, rfl⟩
  · split at h
    · cases h; exact ⟨_, rfl⟩
    · cases h
  · split at h
    · split at h
      · cases h; exact ⟨_, rfl⟩
      · split at h
        · cases h; exact ⟨_, rfl⟩
        · cases h
    · split at h
      · cases h; exact ⟨_, rfl⟩
      · split at h
        · cases h; exact ⟨_, rfl⟩
        · cases h
    · cases h
  · cases h
theorem od_in (hu : X.A.units + 65 < cLine) : OpR X (compareOp .In) (rD2 X.K dIn1) := by
  intro pins s σ H x y v u Q I rx ry ⟨S, d1, d2, z, hA, r1, r2, hz, k⟩
  obtain ⟨b, rfl⟩ := dIn1_bl hz
  exact in_core hu false rfl I rx ry hA r1 r2 hz (k _ H (Same.refl H) (rep_bl.mpr rfl))
theorem od_notin (hu : X.A.units + 65 < cLine) : OpR X (compareOp .NotIn) (rD2 X.K dNotIn1) := by
  intro pins s σ H x y v u Q I rx ry ⟨S, d1, d2, z, hA, r1, r2, hz, k⟩
  unfold dNotIn1 at hz
  cases e : dIn1 S d1 d2 with
  | none => rw [e] at hz; cases hz
  | some w =>
    obtain ⟨b, rfl⟩ := dIn1_bl e
    rw [e] at hz
    have hz' : dNot (.bl b) = some z := hz
    simp only [dNot, Option.some.injEq] at hz'
    subst hz'
    exact in_core hu true rfl I rx ry hA r1 r2 e (k _ H (Same.refl H) (rep_bl.mpr rfl))
/-- a[b] -/
theorem od_ix : IxR X (rD2 X.K dIx) := by
  intro value slice pins s σ H x y v u Q I rx ry ⟨S, d1, d2, z, hA, r1, r2, hz, k⟩ hs
  unfold dIx at hz
  split at hz
  · obtain ⟨a, vs, rfl, hq, rr⟩ := rep_tup.mp r1
    rw [rep_int] at r2; subst r2
    obtain ⟨w, e, rw'⟩ := rr.atI hz
    exact ix_tup value slice pins s σ H _ _ v u Q I rx ry ⟨a, vs, _, w, rfl, rfl, hq, e, k _ H (Same.refl H) rw'⟩ hs
  · split at hz
    · rename_i hl
      rw [rep_str] at r1; rw [rep_int] at r2; subst r1; subst r2
      rw [Option.map_eq_some_iff] at hz
      obtain ⟨c, e, rfl⟩ := hz
      refine ix_str value slice pins s σ H _ _ v u Q I rx ry ⟨_, _, c, rfl, rfl, by rw [tx_len]; exact hl, by rw [tx_cps]; exact e, k _ H (Same.refl H) (rep_str.mpr rfl)⟩ hs
    · cases hz
  · rename_i a i
    rw [rep_ref] at r1; rw [rep_int] at r2; subst r1; subst r2
    split at hz
    · rename_i ys e
      obtain ⟨vs, q, r⟩ := hA _ _ e
      obtain ⟨w, e, rw'⟩ := r.atI hz
      exact ix_list value slice pins s σ H _ _ v u Q I rx ry ⟨a, vs, _, w, rfl, rfl, .of q, e, k _ H (Same.refl H) rw'⟩ hs
    · rename_i ys e
      obtain ⟨vs, q, r⟩ := hA _ _ e
      obtain ⟨w, e, rw'⟩ := r.atI hz
      exact ix_list value slice pins s σ H _ _ v u Q I rx ry ⟨a, vs, _, w, rfl, rfl, .inl q, e, k _ H (Same.refl H) rw'⟩ hs
    · cases hz
  · cases hz
end
end SL

set_option Elab.async false
set_option linter.all false
set_option maxRecDepth 100000
set_option maxHeartbeats 4000000
/-! SL3: expressions. -/
namespace SL
open PySem PySem.Spec L2

/-! ### what an expression asks -/
def uVar (i : Nat) : UE := fun env S Q _ => ∃ d, env[i]? = some (some d) ∧ Q d S
def uC (d : D) : UE := fun _ S Q _ => Q d S
def uBin (f : F2) (ua ub : UE) : UE := fun env S Q X => ua env S (fun d1 S1 => ub env S1 (fun d2 S2 => ∃ z, f S2 d1 d2 = some z ∧ Q z S2) X) X
def uChain (f g : F2) (ua ub uc : UE) : UE := fun env S Q X => ua env S (fun d1 S1 => ub env S1 (fun d2 S2 => ∃ k, f S2 d1 d2 = some (.bl k) ∧
  if k = true then uc env S2 (fun d3 S3 => ∃ z, g S3 d2 d3 = some z ∧ Q z S3) X else Q (.bl false) S2) X) X
def dNeg : D → Option D
  | .int i => some (.int (-i))
  | _ => none
def uUn (f : D → Option D) (ua : UE) : UE := fun env S Q X => ua env S (fun d1 S1 => ∃ z, f d1 = some z ∧ Q z S1) X
/-- truth -/
def tru (S : SS) : D → Option Bool
  | .non => some false
  | .bl b => some b
  | .int i => some (i != 0)
  | .str x => if x.length ≤ sizeLine then some (!x.isEmpty) else none
  | .tup xs => some (!xs.isEmpty)
  | .ref a => match S a with
    | some (.lst xs) => some (!xs.isEmpty)
    | some (.rol xs) => some (!xs.isEmpty)
    | _ => none
  | .exc _ _ _ _ => none
  | .kl _ => none
def uTru (u : UE) : UT := fun env S Q X => u env S (fun d S1 => ∃ b, tru S1 d = some b ∧ Q b S1) X
/-- a comparison as a test: its value is a bool -/
def uTb (u : UE) : UT := fun env S Q X => u env S (fun d S1 => ∃ b, d = .bl b ∧ Q b S1) X
def uAnd (a b : UT) : UT := fun env S Q X => a env S (fun c S1 => if c = true then b env S1 Q X else Q false S1) X
def uOr (a b : UT) : UT := fun env S Q X => a env S (fun c S1 => if c = true then Q true S1 else b env S1 Q X) X
def uNot (a : UT) : UT := fun env S Q X => a env S (fun c S1 => Q (!c) S1) X
def uAndV (a b : UE) : UE := fun env S Q X => a env S (fun d S1 => ∃ c, tru S1 d = some c ∧ if c = true then b env S1 Q X else Q d S1) X
def uOrV (a b : UE) : UE := fun env S Q X => a env S (fun d S1 => ∃ c, tru S1 d = some c ∧ if c = true then Q d S1 else b env S1 Q X) X
def uNotV (a : UE) : UE := fun env S Q X => a env S (fun d S1 => ∃ c, tru S1 d = some c ∧ Q (.bl (!c)) S1) X
def uIte (c : UT) (a b : UE) : UE := fun env S Q X => c env S (fun k S1 => if k = true then a env S1 Q X else b env S1 Q X) X
def uNil : UA := fun _ S Q _ => Q [] S
def uCons (a : UE) (r : UA) : UA := fun env S Q X => a env S (fun d S1 => r env S1 (fun ds S2 => Q (d :: ds) S2) X) X
def uTup (r : UA) : UE := fun env S Q X => r env S (fun ds S1 => ds.length ≤ sizeLine ∧ Q (.tup ds) S1) X
/-- a new list -/
def uLst (r : UA) : UE := fun env S Q X => r env S (fun ds S1 => ds.length ≤ sizeLine ∧ ∀ p, S1 p = none → Q (.ref p) (sup S1 p (.lst ds))) X
/-- a slice's part -/
abbrev UO := En → SS → (Option Int → SS → Prop) → QX → Prop
def uNoPart : UO := fun _ S Q _ => Q none S
def uPart (u : UE) : UO := fun env S Q X => u env S (fun d S1 => ∃ i, d = .int i ∧ Q (some i) S1) X
def cut {α : Type} (xs : List α) (lo hi : Option Int) : List α := (xs.drop (HT.sIx xs.length 0 lo)).take (HT.sIx xs.length xs.length hi - HT.sIx xs.length 0 lo)
/-- d[lo:hi] -/
def vSl (d : D) (lo hi : Option Int) (S : SS) (Q : QN) : Prop := match d with
  | .str x => x.length ≤ sizeLine ∧ Q (.str (cut x lo hi)) S
  | .tup xs => Q (.tup (cut xs lo hi)) S
  | .ref a => match S a with
    | some (.lst xs) => ∀ p, S p = none → Q (.ref p) (sup S p (.lst (cut xs lo hi)))
    | some (.rol xs) => ∀ p, S p = none → Q (.ref p) (sup S p (.lst (cut xs lo hi)))
    | _ => False
  | .kl xs => ∀ p, S p = none → Q (.ref p) (sup S p (.lst (cut xs lo hi)))
  | _ => False
def uSl (u : UE) (l h : UO) : UE := fun env S Q X => u env S (fun d S1 => l env S1 (fun lo S2 => h env S2 (fun hi S3 => vSl d lo hi S3 Q) X) X) X

/-- the parts of a lifted reading -/
theorem AbsS.newL {K : PySem.W.Frag} {H : Hp} {S : SS} {ds : List D} {vs : List V} {p : Addr} (h : AbsS K H S) (n : H p = none) (r : RepL K H ds vs) : AbsS K (upd H p (.lst vs)) (sup S p (.lst ds)) :=
  h.new n ⟨vs, upd_same, r.keep (.new n)⟩

section
variable {X : Cx} {a b c e o : Expr} {es : List Expr} {ua ub uc u : UE} {pos : Pos}
theorem de_int {i j} : DE X (.Constant (.int i) j pos) (uC (.int i)) := pe_imp pe_int fun σ H Q ⟨env, S, Qd, W, hE, hA, hT, hu, hk⟩ => hk _ _ _ _ (.refl _ _) (rep_int.mpr rfl) hA hu
theorem de_bl {k j} : DE X (.Constant (.bool k) j pos) (uC (.bl k)) := pe_imp pe_bl fun σ H Q ⟨env, S, Qd, W, hE, hA, hT, hu, hk⟩ => hk _ _ _ _ (.refl _ _) (rep_bl.mpr rfl) hA hu
theorem de_non {j} : DE X (.Constant .none j pos) (uC .non) := pe_imp pe_non fun σ H Q ⟨env, S, Qd, W, hE, hA, hT, hu, hk⟩ => hk _ _ _ _ (.refl _ _) (rep_non.mpr rfl) hA hu
theorem de_str {s : String} {j} : DE X (.Constant (.str (Str.ofString s)) j pos) (uC (.str (cs s))) := pe_imp pe_str fun σ H Q ⟨env, S, Qd, W, hE, hA, hT, hu, hk⟩ => hk _ _ _ _ (.refl _ _) (rep_str.mpr (by rw [tx_cs])) hA hu
theorem de_var (i : Nat) {x : Str} (hN : X.N[i]? = some x := by rfl) (hv : Vis X.env.scope x := by first | exact Or.inl rfl | exact Or.inr (Or.inl rfl) | exact Or.inr (Or.inr rfl)) (hd : (x == ("__debug__" : Str)) = false := by decide)
    (hcd : (x == ("__classdict__" : Str)) = false := by decide) : DE X (.Name x pos) (uVar i) := pe_imp (pe_var hN hv hd hcd) fun σ H Q ⟨env, S, Qd, W, hE, hA, hT, ⟨d, e, q⟩, hk⟩ => by
  obtain ⟨v, ev, r⟩ := hE.2 i d e
  exact ⟨v, ev, hk v d H S (.refl _ _) r hA q⟩
/-- a module's constant -/
theorem de_glob {x : Str} {v : V} {w : Value} {d : D} (hg : Gl X x) (hm : X.mg x = some w) (r : RelV v w) (hr : ∀ H, Rep X.K H d v) (hd : (x == ("__debug__" : Str)) = false := by decide) : DE X (.Name x pos) (uC d) :=
  pe_imp (pe_glob hg hm r hd) fun σ H Q ⟨env, S, Qd, W, hE, hA, hT, hu, hk⟩ => hk _ _ _ _ (.refl _ _) (hr H) hA hu
theorem lift2 {f : F2} {σ : L2.St} {H : Hp} {Q : VK} (h : LE X (uBin f ua ub) σ H Q) : tOp (rD2 X.K f) (LE X ua) (LE X ub) σ H Q := by
  obtain ⟨env, S, Qd, W, hE, hA, hT, hu, hk⟩ := h
  exact ⟨env, S, _, W, hE, hA, hT, hu, fun v1 d1 H1 S1 t1 r1 a1 q1 => ⟨env, S1, _, W, hE.keep t1, a1, tstep hT t1, q1, fun v2 d2 H2 S2 t2 r2 a2 ⟨z, hz, q⟩ =>
    ⟨S2, d1, d2, z, a2, r1.keep t2, r2, hz, fun v H' s r => hk v z H' S2 ((t1.trans t2).trans (.of_same s)) r (a2.same s) q⟩⟩⟩
theorem de_bin {op : Operator} {f : F2} (ho : OpR X (binaryOp op) (rD2 X.K f)) (ha : DE X a ua) (hb : DE X b ub) : DE X (.BinOp a op b pos) (uBin f ua ub) := pe_imp (pe_op ho ha hb) fun σ H Q h => lift2 h
theorem de_cmp {op : CmpOp} {f : F2} (ho : OpR X (compareOp op) (rD2 X.K f)) (ha : DE X a ua) (hb : DE X b ub) (hm : behindInMarks op b = false := by first | exact nobehind _ (by decide) (by decide) | rfl) : DE X (.Compare a [op] [b] pos) (uBin f ua ub) :=
  pe_imp (pe_cmpR ho ha hb hm) fun σ H Q h => lift2 h
theorem de_neg (ha : DE X a ua) : DE X (.UnaryOp .USub a pos) (uUn dNeg ua) := pe_imp (pe_un un_neg ha) fun σ H Q ⟨env, S, Qd, W, hE, hA, hT, hu, hk⟩ =>
  ⟨env, S, _, W, hE, hA, hT, hu, fun v1 d1 H1 S1 t1 r1 a1 ⟨z, hz, q⟩ => by
    unfold dNeg at hz
    split at hz
    · cases hz
      rw [rep_int] at r1; subst r1
      exact ⟨_, rfl, hk _ _ _ _ t1 (rep_int.mpr rfl) a1 q⟩
    · cases hz⟩
theorem lift3 {f g : F2} {σ : L2.St} {H : Hp} {Q : VK} (h : LE X (uChain f g ua ub uc) σ H Q) : tChain (rD2 X.K f) (rD2 X.K g) (LE X ua) (LE X ub) (LE X uc) σ H Q := by
  obtain ⟨env, S, Qd, W, hE, hA, hT, hu, hk⟩ := h
  refine ⟨env, S, _, W, hE, hA, hT, hu, fun v1 d1 H1 S1 t1 r1 a1 q1 => ⟨env, S1, _, W, hE.keep t1, a1, tstep hT t1, q1, fun v2 d2 H2 S2 t2 r2 a2 ⟨k, hz, q⟩ => ⟨S2, d1, d2, _, a2, r1.keep t2, r2, hz, fun v H' s r => ?_⟩⟩⟩
  rw [rep_bl] at r
  refine ⟨k, r, ?_⟩
  have t3 := (t1.trans t2).trans (.of_same s)
  cases k with
  | false => exact hk _ _ _ _ t3 (rep_bl.mpr rfl) (a2.same s) q
  | true => exact ⟨env, S2, _, W, hE.keep t3, a2.same s, tstep hT t3, q, fun v3 d3 H3 S3 t4 r3 a3 ⟨z, hz, q⟩ => ⟨S3, d2, d3, z, a3, r2.keep ((TK.of_same s).trans t4), r3, hz, fun v H' s2 r => hk v z H' S3 ((t3.trans t4).trans (.of_same s2)) r (a3.same s2) q⟩⟩
theorem de_chain {op op' : CmpOp} {f g : F2} (ho : OpR X (compareOp op) (rD2 X.K f)) (ho' : OpR X (compareOp op') (rD2 X.K g)) (ha : DE X a ua) (hb : DE X b ub) (hc : DE X c uc) (hm : lastMarks [op, op'] [b, c] = false := by with_unfolding_all rfl) :
    DE X (.Compare a [op, op'] [b, c] pos) (uChain f g ua ub uc) := pe_imp (pe_chain ho ho' ha hb hc hm) fun σ H Q h => lift3 h
/-! tests -/
theorem dt_cmp {op : CmpOp} {f : F2} (ho : OpR X (compareOp op) (rD2 X.K f)) (ha : DE X a ua) (hb : DE X b ub) (hm : behindInMarks op b = false := by first | exact nobehind _ (by decide) (by decide) | rfl) : DT X (.Compare a [op] [b] pos) (uTb (uBin f ua ub)) :=
  pt_imp (pt_cmpR ho ha hb hm) fun σ H Q ⟨env, S, Qd, W, hE, hA, hT, hu, hk⟩ => lift2 ⟨env, S, _, W, hE, hA, hT, hu, fun v d H' S' t r a ⟨b, e, q⟩ => by subst e; rw [rep_bl] at r; exact ⟨b, r, hk b H' S' t a q⟩⟩
theorem dt_chain {op op' : CmpOp} {f g : F2} (ho : OpR X (compareOp op) (rD2 X.K f)) (ho' : OpR X (compareOp op') (rD2 X.K g)) (ha : DE X a ua) (hb : DE X b ub) (hc : DE X c uc) (hm : lastMarks [op, op'] [b, c] = false := by with_unfolding_all rfl) :
    DT X (.Compare a [op, op'] [b, c] pos) (uTb (uChain f g ua ub uc)) :=
  pt_imp (pt_chain ho ho' ha hb hc hm) fun σ H Q ⟨env, S, Qd, W, hE, hA, hT, hu, hk⟩ => lift3 ⟨env, S, _, W, hE, hA, hT, hu, fun v d H' S' t r a ⟨b, e, q⟩ => by subst e; rw [rep_bl] at r; exact ⟨b, r, hk b H' S' t a q⟩⟩
theorem tru_rep {K : PySem.W.Frag} {H : Hp} {S : SS} {d : D} {v : V} {k : Bool} (hA : AbsS K H S) (r : Rep K H d v) (h : tru S d = some k) : TruV K v H k := by
  have emp : ∀ {ds : List D} {vs : List V}, RepL K H ds vs → vs.isEmpty = ds.isEmpty := fun {ds vs} r => by
    cases ds with
    | nil => rw [repL_nil.mp r]; rfl
    | cons d ds => obtain ⟨v, t, e, _⟩ := repL_cons.mp r; subst e; rfl
  cases d with
  | non => rw [rep_non] at r; subst r; cases h; rfl
  | bl b => rw [rep_bl] at r; subst r; cases h; rfl
  | int i => rw [rep_int] at r; subst r; cases h; rfl
  | str x =>
    rw [rep_str] at r; subst r
    simp only [tru] at h
    split at h
    · rename_i hl
      cases h
      refine ⟨by rw [tx_len]; exact hl, ?_⟩
      rw [tx_len]
      cases x with
      | nil => rfl
      | cons y ys =>
        symm
        show (((y :: ys).length : Int) != 0) = true
        rw [bne_iff_ne, List.length_cons]
        omega
    · cases h
  | tup xs =>
    obtain ⟨a, vs, e, q, rr⟩ := rep_tup.mp r
    subst e
    cases h
    exact .inr (.inl ⟨vs, q, by rw [emp rr]⟩)
  | ref a =>
    rw [rep_ref] at r; subst r
    simp only [tru] at h
    split at h
    · rename_i xs e
      cases h
      obtain ⟨vs, q, r⟩ := hA _ _ e
      exact .inl ⟨vs, .of q, by rw [emp r]⟩
    · rename_i xs e
      cases h
      obtain ⟨vs, q, r⟩ := hA _ _ e
      exact .inl ⟨vs, .inl q, by rw [emp r]⟩
    · cases h
  | exc _ _ _ _ => cases h
  | kl _ => cases h
theorem dt_val (ha : DE X a ua) (he : ∀ whole, isTrue a X.env whole = (do let v ← whole; standAt a.pos; holding [v] (truthy v)) := by intro _; rfl) : DT X a (uTru ua) :=
  pt_imp (pt_truth ha he) fun σ H Q ⟨env, S, Qd, W, hE, hA, hT, hu, hk⟩ => ⟨env, S, _, W, hE, hA, hT, hu, fun v d H' S' t r a ⟨b, e, q⟩ => ⟨b, tru_rep a r e, hk b H' S' t a q⟩⟩
variable {ta tb : UT} {rest : List Expr}
theorem dw_and1 (ha : DT X a ta) : DW X (.BoolOp .And [a] pos) ta := pw_and1 ha
theorem dw_or1 (ha : DT X a ta) : DW X (.BoolOp .Or [a] pos) ta := pw_or1 ha
theorem dw_and (ha : DT X a ta) (hb : DW X (.BoolOp .And (b :: rest) pos) tb) : DW X (.BoolOp .And (a :: b :: rest) pos) (uAnd ta tb) :=
  pw_imp (pw_and ha hb) fun σ H Q ⟨env, S, Qd, W, hE, hA, hT, hu, hk⟩ => ⟨env, S, _, W, hE, hA, hT, hu, fun k H1 S1 t1 a1 q1 => by
    cases k with
    | false => exact hk _ _ _ t1 a1 q1
    | true => exact ⟨env, S1, _, W, hE.keep t1, a1, tstep hT t1, q1, fun b H2 S2 t2 a2 q2 => hk _ _ _ (t1.trans t2) a2 q2⟩⟩
theorem dw_or (ha : DT X a ta) (hb : DW X (.BoolOp .Or (b :: rest) pos) tb) : DW X (.BoolOp .Or (a :: b :: rest) pos) (uOr ta tb) :=
  pw_imp (pw_or ha hb) fun σ H Q ⟨env, S, Qd, W, hE, hA, hT, hu, hk⟩ => ⟨env, S, _, W, hE, hA, hT, hu, fun k H1 S1 t1 a1 q1 => by
    cases k with
    | true => exact hk _ _ _ t1 a1 q1
    | false => exact ⟨env, S1, _, W, hE.keep t1, a1, tstep hT t1, q1, fun b H2 S2 t2 a2 q2 => hk _ _ _ (t1.trans t2) a2 q2⟩⟩
theorem dt_bool (h : DW X e ta) : DT X e ta := PW.pt h
theorem dt_not (ha : DT X a ta) : DT X (.UnaryOp .Not a pos) (uNot ta) :=
  pt_imp (pt_not ha) fun σ H Q ⟨env, S, Qd, W, hE, hA, hT, hu, hk⟩ => ⟨env, S, _, W, hE, hA, hT, hu, fun k H1 S1 t1 a1 q1 => hk _ _ _ t1 a1 q1⟩
theorem de_one {op} (h : DE X a ua) : DE X (.BoolOp op [a] pos) ua := pe_one h
theorem de_and (ha : DE X a ua) (hb : DE X (.BoolOp .And (b :: rest) pos) ub) : DE X (.BoolOp .And (a :: b :: rest) pos) (uAndV ua ub) :=
  pe_imp (pe_andT ha hb) fun σ H Q ⟨env, S, Qd, W, hE, hA, hT, hu, hk⟩ => ⟨env, S, _, W, hE, hA, hT, hu, fun v d H1 S1 t1 r1 a1 ⟨k, hz, q1⟩ => ⟨k, tru_rep a1 r1 hz, by
    cases k with
    | false => exact hk _ _ _ _ t1 r1 a1 q1
    | true => exact ⟨env, S1, _, W, hE.keep t1, a1, tstep hT t1, q1, fun v2 d2 H2 S2 t2 r2 a2 q2 => hk _ _ _ _ (t1.trans t2) r2 a2 q2⟩⟩⟩
theorem de_or (ha : DE X a ua) (hb : DE X (.BoolOp .Or (b :: rest) pos) ub) : DE X (.BoolOp .Or (a :: b :: rest) pos) (uOrV ua ub) :=
  pe_imp (pe_orT ha hb) fun σ H Q ⟨env, S, Qd, W, hE, hA, hT, hu, hk⟩ => ⟨env, S, _, W, hE, hA, hT, hu, fun v d H1 S1 t1 r1 a1 ⟨k, hz, q1⟩ => ⟨k, tru_rep a1 r1 hz, by
    cases k with
    | true => exact hk _ _ _ _ t1 r1 a1 q1
    | false => exact ⟨env, S1, _, W, hE.keep t1, a1, tstep hT t1, q1, fun v2 d2 H2 S2 t2 r2 a2 q2 => hk _ _ _ _ (t1.trans t2) r2 a2 q2⟩⟩⟩
theorem de_not (ha : DE X a ua) : DE X (.UnaryOp .Not a pos) (uNotV ua) :=
  pe_imp (pe_notT ha) fun σ H Q ⟨env, S, Qd, W, hE, hA, hT, hu, hk⟩ => ⟨env, S, _, W, hE, hA, hT, hu, fun v d H1 S1 t1 r1 a1 ⟨k, hz, q1⟩ => ⟨k, tru_rep a1 r1 hz, hk _ _ _ _ t1 (rep_bl.mpr rfl) a1 q1⟩⟩
theorem de_ite (hc : DT X c ta) (ha : DE X a ua) (hb : DE X b ub) : DE X (.IfExp c a b pos) (uIte ta ua ub) :=
  pe_imp (pe_ifExp hc ha hb) fun σ H Q ⟨env, S, Qd, W, hE, hA, hT, hu, hk⟩ => ⟨env, S, _, W, hE, hA, hT, hu, fun k H1 S1 t1 a1 q1 => by
    cases k with
    | true => exact ⟨env, S1, _, W, hE.keep t1, a1, tstep hT t1, q1, fun v2 d2 H2 S2 t2 r2 a2 q2 => hk _ _ _ _ (t1.trans t2) r2 a2 q2⟩
    | false => exact ⟨env, S1, _, W, hE.keep t1, a1, tstep hT t1, q1, fun v2 d2 H2 S2 t2 r2 a2 q2 => hk _ _ _ _ (t1.trans t2) r2 a2 q2⟩⟩
/-! argument lists, displays -/
variable {r : UA}
theorem da_nil : DA X [] uNil := pa_imp pa_nil fun σ H Q ⟨env, S, Qd, W, hE, hA, hT, hu, hk⟩ => hk _ _ _ _ (.refl _ _) .nil hA hu
theorem da_cons (ha : DE X e ua) (hr : DA X es r) (hs : starEach (e :: es) X.env = (false, eval e X.env) :: starEach es X.env := by rfl) : DA X (e :: es) (uCons ua r) :=
  pa_imp (pa_cons ha hr hs) fun σ H Q ⟨env, S, Qd, W, hE, hA, hT, hu, hk⟩ => ⟨env, S, _, W, hE, hA, hT, hu, fun v d H1 S1 t1 r1 a1 q1 => ⟨env, S1, _, W, hE.keep t1, a1, tstep hT t1, q1, fun vs ds H2 S2 t2 r2 a2 q2 =>
    hk _ _ _ _ (t1.trans t2) (.cons (r1.keep t2) r2) a2 q2⟩⟩
theorem de_tup {x1} (h : DA X es r) : DE X (.Tuple es x1 pos) (uTup r) := pe_imp (pe_tup h) fun σ H Q ⟨env, S, Qd, W, hE, hA, hT, hu, hk⟩ => ⟨env, S, _, W, hE, hA, hT, hu, fun vs ds H1 S1 t1 r1 a1 ⟨z, q1⟩ =>
  ⟨by rw [r1.length]; exact z, fun p hp => hk _ _ _ _ (t1.trans (.new hp)) (.newTup hp r1) (a1.same (Same.new hp)) q1⟩⟩
theorem de_lst (h : DA X es r) : DE X (.List es pos) (uLst r) := pe_imp (pe_lst h) fun σ H Q ⟨env, S, Qd, W, hE, hA, hT, hu, hk⟩ => ⟨env, S, _, W, hE, hA, hT, hu, fun vs ds H1 S1 t1 r1 a1 ⟨z, q1⟩ =>
  ⟨by rw [r1.length]; exact z, fun p hp => hk _ _ _ _ (t1.trans (.new hp)) (rep_ref.mpr rfl) (a1.newL hp r1) (q1 p (a1.fresh hp))⟩⟩
/-! subscripts -/
theorem de_ix (ha : DE X a ua) (hb : DE X b ub) (hs : PlainIx b := by exact fun _ _ => rfl) : DE X (.Subscript a b pos) (uBin dIx ua ub) := pe_imp (pe_ix od_ix ha hb hs) fun σ H Q h => lift2 h
structure DO (X : Cx) (e : Option Expr) (u : UO) : Prop where
  po : ∃ t, PO X e t ∧ ∀ σ H Q env S (Qd : Option Int → SS → Prop) W, EnvR X.K H env σ → AbsS X.K H S → L2N.Takes X (lw X.K H W) → u env S Qd (fun c fs S' => W c fs env S') → (∀ o H' S', TK X.K H H' → AbsS X.K H' S' → Qd o S' → Q o H') → t σ H Q
theorem do_none : DO X none uNoPart := ⟨tNoPart, po_none, fun σ H Q env S Qd W hE hA hT hu hk => hk _ _ _ (.refl _ _) hA hu⟩
theorem do_some (h : DE X e u) : DO X (some e) (uPart u) := ⟨_, po_some h, fun σ H Q env S Qd W hE hA hT hu hk => ⟨env, S, _, W, hE, hA, hT, hu, fun v d H' S' t r a ⟨i, ei, q⟩ => by
  subst ei; rw [rep_int] at r; exact ⟨i, r, hk _ _ _ t a q⟩⟩⟩
theorem cut_length {α : Type} (xs : List α) (lo hi : Option Int) : (cut xs lo hi).length ≤ xs.length := by unfold cut; rw [List.length_take, List.length_drop]; omega
theorem RepL.cut {K : PySem.W.Frag} {H : Hp} {ds : List D} {vs : List V} (r : RepL K H ds vs) (lo hi : Option Int) : RepL K H (SL.cut ds lo hi) (cutV vs lo hi) := by
  unfold SL.cut cutV
  rw [r.length]
  exact (r.drop _).take _
theorem cutS_tx (x : List Nat) (lo hi : Option Int) : cutS (tx x) lo hi = tx (SL.cut x lo hi) := by
  unfold cutS SL.cut
  rw [tx_len, tx_cps]
  rfl
def rSD (K : PySem.W.Frag) : V → Option Int → Option Int → Hp → VK → Prop := fun x lo hi H Q => ∃ S d Qd, AbsS K H S ∧ Rep K H d x ∧ vSl d lo hi S Qd ∧ ∀ v d' H' S', TK K H H' → Rep K H' d' v → AbsS K H' S' → Qd d' S' → Q v H'
theorem sl_d : SlR X (rSD X.K) := by
  intro pins s σ H x v vl vu lo hi sl Q I rx hs pl pu ⟨S, d, Qd, hA, r, h, k⟩
  unfold vSl at h
  split at h
  · rw [rep_str] at r; subst r
    exact sl_str pins s σ H _ v vl vu lo hi sl Q I rx hs pl pu ⟨_, rfl, by rw [tx_len]; exact h.1, by rw [cutS_tx]; exact k _ _ _ _ (.refl _ _) (rep_str.mpr rfl) hA h.2⟩
  · obtain ⟨a, vs, e, q, rr⟩ := rep_tup.mp r
    subst e
    refine sl_tupA pins s σ H _ v vl vu lo hi sl Q I rx hs pl pu ⟨a, vs, rfl, q, fun hw => ?_, fun hw p hp => ?_⟩
    · refine k _ _ _ _ (.refl _ _) (.tup q ?_) hA h
      have := rr.cut lo hi
      unfold cutV at this
      rw [hw.1, hw.2] at this
      simpa using this
    · exact k _ _ _ _ (.new hp) (.newTup hp (rr.cut lo hi)) (hA.same (Same.new hp)) h
  · rename_i a
    rw [rep_ref] at r; subst r
    split at h
    · rename_i xs e
      obtain ⟨vs, q, rr⟩ := hA _ _ e
      exact sl_list pins s σ H _ v vl vu lo hi sl Q I rx hs pl pu ⟨a, vs, rfl, .of q, fun p hp => k _ _ _ _ (.new hp) (rep_ref.mpr rfl) (hA.newL hp (rr.cut lo hi)) (h p (hA.fresh hp))⟩
    · rename_i xs e
      obtain ⟨vs, q, rr⟩ := hA _ _ e
      exact sl_list pins s σ H _ v vl vu lo hi sl Q I rx hs pl pu ⟨a, vs, rfl, .inl q, fun p hp => k _ _ _ _ (.new hp) (rep_ref.mpr rfl) (hA.newL hp (rr.cut lo hi)) (h p (hA.fresh hp))⟩
    · exact h.elim
  · obtain ⟨a, vs, e, q, rr⟩ := rep_kl.mp r
    subst e
    exact sl_list pins s σ H _ v vl vu lo hi sl Q I rx hs pl pu ⟨a, vs, rfl, .inr q, fun p hp => k _ _ _ _ (.new hp) (rep_ref.mpr rfl) (hA.newL hp (rr.cut lo hi)) (h p (hA.fresh hp))⟩
  · exact h.elim
theorem de_slice {lo hi : Option Expr} {ul uh : UO} {p2 : Pos} (ha : DE X a ua) (hl : DO X lo ul) (hh : DO X hi uh) : DE X (.Subscript a (.Slice lo hi none p2) pos) (uSl ua ul uh) := by
  obtain ⟨tl, pl, kl⟩ := hl.po
  obtain ⟨th, ph, kh⟩ := hh.po
  refine pe_imp (pe_slice sl_d ha pl ph) fun σ H Q ⟨env, S, Qd, W, hE, hA, hT, hu, hk⟩ => ⟨env, S, _, W, hE, hA, hT, hu, fun v1 d1 H1 S1 t1 r1 a1 q1 => ?_⟩
  refine kl σ H1 _ env S1 _ W (hE.keep t1) a1 (tstep hT t1) q1 fun l H2 S2 t2 a2 q2 => ?_
  refine kh σ H2 _ env S2 _ W (hE.keep (t1.trans t2)) a2 (tstep hT (t1.trans t2)) q2 fun h H3 S3 t3 a3 q3 => ?_
  exact ⟨S3, d1, Qd, a3, r1.keep (t2.trans t3), q3, fun v d' H' S' t r a q => hk v d' H' S' (((t1.trans t2).trans t3).trans t) r a q⟩
end
end SL

set_option Elab.async false
set_option linter.all false
set_option maxRecDepth 100000
set_option maxHeartbeats 4000000
/-! SL4: statements, loops, comprehensions, attributes. -/
namespace SL
open PySem PySem.Spec L2

theorem AbsS.getL {K : PySem.W.Frag} {H : Hp} {S : SS} {a : Addr} {xs : List D} (h : AbsS K H S) (e : S a = some (.lst xs)) : ∃ vs, H a = some (.lst vs) ∧ RepL K H xs vs := h a _ e
theorem AbsS.getR {K : PySem.W.Frag} {H : Hp} {S : SS} {a : Addr} {xs : List D} (h : AbsS K H S) (e : S a = some (.rol xs)) : ∃ vs, Rd H a (.lst vs) ∧ RepL K H xs vs := h a _ e
theorem AbsS.getI {K : PySem.W.Frag} {H : Hp} {S : SS} {a C : Addr} {fs : Fs} (h : AbsS K H S) (e : S a = some (.ins C fs)) : ∃ dx vfs, H a = some (.ins C dx vfs) ∧ FsR K H fs vfs := h a _ e
theorem ObR.mkL {K : PySem.W.Frag} {H : Hp} {a : Addr} {xs : List D} {vs : List V} (e : H a = some (.lst vs)) (r : RepL K H xs vs) : ObR K H a (.lst xs) := ⟨vs, e, r⟩
theorem ObR.mkI {K : PySem.W.Frag} {H : Hp} {a C dx : Addr} {fs : Fs} {vfs : List (Str × V)} (e : H a = some (.ins C dx vfs)) (r : FsR K H fs vfs) : ObR K H a (.ins C fs) := ⟨dx, vfs, e, r⟩
/-- lo, lo + 1, .. -/
def irng (lo : Int) (n : Nat) : List D := (List.range n).map fun k : Nat => D.int (lo + (k : Int))

/-! ### statements -/
def usNil : US := fun D env S => D.nx env S
def usSeq (a b : US) : US := fun D env S => a { D with nx := b D } env S
def usSet (i : Nat) (u : UE) : US := fun D env S => u env S (fun d S1 => D.nx (env.set i (some d)) S1) (fun c fs S1 => D.ex c fs env S1)
def usExpr (u : UE) : US := fun D env S => u env S (fun _ S1 => D.nx env S1) (fun c fs S1 => D.ex c fs env S1)
def usRet (u : UE) : US := fun D env S => u env S D.rt (fun c fs S1 => D.ex c fs env S1)
def usRetN : US := fun D _ S => D.rt .non S
def usIf (c : UT) (a b : US) : US := fun D env S => c env S (fun k S1 => if k = true then a D env S1 else b D env S1) (fun c fs S1 => D.ex c fs env S1)
def usBrk : US := fun D env S => D.bk env S
def usCnt : US := fun D env S => D.ct env S
def usNever : US := fun _ _ _ => False
/-- o[i] = d -/
def vSet (o i d : D) (S : SS) (Q : SS → Prop) : Prop := match o, i with
  | .ref a, .int k => match S a with
    | some (.lst xs) => ∃ j, ixN xs.length k = some j ∧ Q (sup S a (.lst (xs.set j d)))
    | _ => False
  | _, _ => False
def usSub (o i e : UE) : US := fun D env S => e env S (fun d S1 => o env S1 (fun od S2 => i env S2 (fun id S3 => vSet od id d S3 fun S4 => D.nx env S4) (fun c fs S1 => D.ex c fs env S1)) (fun c fs S1 => D.ex c fs env S1)) (fun c fs S1 => D.ex c fs env S1)
/-- an attribute that is the instance's own -/
def FldOk (K : PySem.W.Frag) (C : Addr) (f : Str) : Prop := Cls K C ∧ NoAttr K C f
def vFld (K : PySem.W.Frag) (d : D) (f : Str) (S : SS) (Q : QN) : Prop := match d with
  | .ref a => match S a with
    | some (.ins C fs) => FldOk K C f ∧ ∃ x, fs.lookup f = some x ∧ Q x S
    | _ => False
  | _ => False
def uFld (K : PySem.W.Frag) (f : Str) (u : UE) : UE := fun env S Q X => u env S (fun d S1 => vFld K d f S1 Q) X
def vPut (K : PySem.W.Frag) (o : D) (f : Str) (d : D) (S : SS) (Q : SS → Prop) : Prop := match o with
  | .ref a => match S a with
    | some (.ins C fs) => FldOk K C f ∧ fs.length < 1000 ∧ Q (sup S a (.ins C (putS f d fs)))
    | _ => False
  | _ => False
def usFld (K : PySem.W.Frag) (f : Str) (o e : UE) : US := fun D env S => e env S (fun d S1 => o env S1 (fun od S2 => vPut K od f d S2 fun S3 => D.nx env S3) (fun c fs S1 => D.ex c fs env S1)) (fun c fs S1 => D.ex c fs env S1)
/-- i op= e -/
def usAug (i : Nat) (f : F2) (e : UE) : US := fun D env S => ∃ d, env[i]? = some (some d) ∧ e env S (fun d2 S1 => ∃ z, f S1 d d2 = some z ∧ D.nx (env.set i (some z)) S1) (fun c fs S1 => D.ex c fs env S1)

/-! ### targets -/
abbrev UG := D → SS → En → (En → Prop) → Prop
abbrev UGs := List D → SS → En → (En → Prop) → Prop
def ugName (i : Nat) : UG := fun d _ env Q => Q (env.set i (some d))
def ugNil : UGs := fun ds _ env Q => ds = [] ∧ Q env
def ugCons (g : UG) (r : UGs) : UGs := fun ds S env Q => ∃ d t, ds = d :: t ∧ g d S env fun env' => r t S env' Q
def ugTup (r : UGs) : UG := fun d S env Q => ∃ xs, seqOf S d = some xs ∧ r xs S env Q
def usAsg (g : UG) (u : UE) : US := fun D env S => u env S (fun d S1 => g d S1 env fun env' => D.nx env' S1) (fun c fs S1 => D.ex c fs env S1)
def LG (X : Cx) (u : UG) : TG := fun v σ H Q => ∃ d S env Qd, EnvR X.K H env σ ∧ AbsS X.K H S ∧ Rep X.K H d v ∧ u d S env Qd ∧ ∀ env' σ', EnvR X.K H env' σ' → Qd env' → Q σ' H
def LGs (X : Cx) (u : UGs) : TGs := fun vs σ H Q => ∃ ds S env Qd, EnvR X.K H env σ ∧ AbsS X.K H S ∧ RepL X.K H ds vs ∧ u ds S env Qd ∧ ∀ env' σ', EnvR X.K H env' σ' → Qd env' → Q σ' H
def DG (X : Cx) (e : Expr) (u : UG) : Prop := PG X e (LG X u)
def DGs (X : Cx) (es : List Expr) (u : UGs) : Prop := PGs X es (LGs X u)
theorem pg_imp {X : Cx} {e : Expr} {t t' : TG} (h : PG X e t) (k : ∀ v σ H Q, t' v σ H Q → t v σ H Q) : PG X e t' := ⟨fun pins s σ H v u Q I r q => h.run pins s σ H v u Q I r (k _ _ _ _ q)⟩
theorem pgs_imp {X : Cx} {e : List Expr} {t t' : TGs} (h : PGs X e t) (k : ∀ v σ H Q, t' v σ H Q → t v σ H Q) : PGs X e t' := ⟨fun pins s σ H v u Q I r q => h.run pins s σ H v u Q I r (k _ _ _ _ q)⟩
theorem pg_or {X : Cx} {e : Expr} {t t' : TG} (h : PG X e t) (h' : PG X e t') : PG X e (fun v σ H Q => t v σ H Q ∨ t' v σ H Q) := ⟨fun pins s σ H v u Q I r q => by
  rcases q with q | q
  · exact h.run pins s σ H v u Q I r q
  · exact h'.run pins s σ H v u Q I r q⟩

section
variable {X : Cx} {st : Stmt} {rest : List Stmt} {e o i : Expr} {u uo ui : UE} {a b : US} {pos pos' : Pos}
theorem db_nil : DB X [] usNil := pss_imp pss_nil fun D σ H ⟨env, S, E, hE, hA, hT, hu, hn, hr, hb, hc⟩ => hn _ _ _ _ (.refl _ _) hE hA hu
theorem lift_seq {u : US} {t2 : TS} {D : Ends} {σ : L2.St} {H : Hp} (h : LS X (usSeq a b) D σ H) : LS X a { D with nx := fun σ' H' => LS X b D σ' H' } σ H := by
  obtain ⟨env, S, E, hE, hA, hT, hu, hn, hr, hb, hc⟩ := h
  exact ⟨env, S, { E with nx := b E }, hE, hA, hT, hu, fun σ' H' env' S' t e a q => ⟨env', S', E, e, a, tstep hT t, q, fun σ2 H2 env2 S2 t2 e2 a2 q2 => hn _ _ _ _ (t.trans t2) e2 a2 q2, fun v d H2 S2 t2 r2 a2 q2 => hr _ _ _ _ (t.trans t2) r2 a2 q2,
    fun σ2 H2 env2 S2 t2 e2 a2 q2 => hb _ _ _ _ (t.trans t2) e2 a2 q2, fun σ2 H2 env2 S2 t2 e2 a2 q2 => hc _ _ _ _ (t.trans t2) e2 a2 q2⟩, hr, hb, hc⟩
theorem db_cons (h1 : DS X st a) (h2 : DB X rest b) : DB X (st :: rest) (usSeq a b) := pss_imp (pss_cons h1 h2) fun D σ H h => lift_seq (u := a) (t2 := fun _ _ _ => True) h
theorem db_one (h1 : DS X st a) : DB X [st] a := pss_one h1
theorem ds_pass : DS X (.Pass pos) usNil := ps_imp ps_pass fun D σ H ⟨env, S, E, hE, hA, hT, hu, hn, hr, hb, hc⟩ => hn _ _ _ _ (.refl _ _) hE hA hu
theorem ds_break : DS X (.Break pos) usBrk := ps_imp ps_break fun D σ H ⟨env, S, E, hE, hA, hT, hu, hn, hr, hb, hc⟩ => hb _ _ _ _ (.refl _ _) hE hA hu
theorem ds_continue : DS X (.Continue pos) usCnt := ps_imp ps_continue fun D σ H ⟨env, S, E, hE, hA, hT, hu, hn, hr, hb, hc⟩ => hc _ _ _ _ (.refl _ _) hE hA hu
theorem ds_never : DS X st usNever := ps_imp ps_never fun D σ H ⟨env, S, E, hE, hA, hT, hu, _⟩ => hu.elim
theorem db_never : DB X rest usNever := pss_imp pss_never fun D σ H ⟨env, S, E, hE, hA, hT, hu, _⟩ => hu.elim
theorem ds_expr (he : DE X e u) (hs : swapsWith e none pos.line X.env = pure false := by rfl) : DS X (.Expr e pos) (usExpr u) := ps_imp (ps_expr he hs) fun D σ H ⟨env, S, E, hE, hA, hT, hu, hn, hr, hb, hc⟩ =>
  ⟨env, S, _, E.ex, hE, hA, hT, hu, fun v d H1 S1 t1 r1 a1 q1 => hn _ _ _ _ t1 (hE.keep t1) a1 q1⟩
theorem ds_ret (he : DE X e u) : DS X (.Return (some e) pos) (usRet u) := ps_imp (ps_ret he) fun D σ H ⟨env, S, E, hE, hA, hT, hu, hn, hr, hb, hc⟩ =>
  ⟨env, S, _, E.ex, hE, hA, hT, hu, fun v d H1 S1 t1 r1 a1 q1 => hr _ _ _ _ t1 r1 a1 q1⟩
theorem ds_retN : DS X (.Return none pos) usRetN := ps_imp ps_retN fun D σ H ⟨env, S, E, hE, hA, hT, hu, hn, hr, hb, hc⟩ => hr _ _ _ _ (.refl _ _) (rep_non.mpr rfl) hA hu
theorem ds_if {c : Expr} {uc : UT} {p q : List Stmt} (hc : DT X c uc) (ha : DB X p a) (hb : DB X q b) : DS X (.If c p q pos) (usIf uc a b) := ps_imp (ps_if hc ha hb) fun D σ H ⟨env, S, E, hE, hA, hT, hu, hn, hr, hb, hc⟩ =>
  ⟨env, S, _, E.ex, hE, hA, hT, hu, fun k H1 S1 t1 a1 q1 => by
    have z : ∀ {u : US}, u E env S1 → LS X u D σ H1 := fun {u} q => ⟨env, S1, E, hE.keep t1, a1, tstep hT t1, q, fun σ2 H2 env2 S2 t2 e2 a2 q2 => hn _ _ _ _ (t1.trans t2) e2 a2 q2, fun v d H2 S2 t2 r2 a2 q2 => hr _ _ _ _ (t1.trans t2) r2 a2 q2,
      fun σ2 H2 env2 S2 t2 e2 a2 q2 => hb _ _ _ _ (t1.trans t2) e2 a2 q2, fun σ2 H2 env2 S2 t2 e2 a2 q2 => hc _ _ _ _ (t1.trans t2) e2 a2 q2⟩
    cases k with
    | true => exact z q1
    | false => exact z q1⟩
theorem ds_set (i : Nat) {x : Str} (hN : X.N.Nodup) (he : DE X e u) (hi : X.N[i]? = some x := by rfl) (hx : Loc X.env.scope x := by first | exact Or.inl rfl | exact Or.inr rfl) (hs : swapsWith e (some (.Name x pos')) pos.line X.env = pure false := by rfl) (hf : X.fn x = true ∨ X.env.scope.names.lookup x = some .local := by first | exact .inl rfl | exact .inr rfl) :
    DS X (.Assign [.Name x pos'] e pos) (usSet i u) := ps_imp (ps_set hN hi hx he hs hf) fun D σ H ⟨env, S, E, hE, hA, hT, hu, hn, hr, hb, hc⟩ =>
  ⟨env, S, _, E.ex, hE, hA, hT, hu, fun v d H1 S1 t1 r1 a1 q1 => hn _ _ _ _ t1 ((hE.keep t1).set r1) a1 q1⟩
theorem dg_name (i : Nat) {x : Str} (hN : X.N.Nodup) (hi : X.N[i]? = some x := by rfl) (hx : Loc X.env.scope x := by first | exact Or.inl rfl | exact Or.inr rfl) (hf : X.fn x = true ∨ X.env.scope.names.lookup x = some .local := by first | exact .inl rfl | exact .inr rfl) : DG X (.Name x pos) (ugName i) :=
  pg_imp (pg_name hN hi hx hf) fun v σ H Q ⟨d, S, env, Qd, hE, hA, r, hu, hk⟩ => hk _ _ (hE.set r) hu
theorem dgs_nil : DGs X [] ugNil := pgs_imp pgs_nil fun vs σ H Q ⟨ds, S, env, Qd, hE, hA, r, hu, hk⟩ => by
  obtain ⟨e, q⟩ := hu
  subst e
  exact ⟨repL_nil.mp r, hk _ _ hE q⟩
theorem dgs_cons {es : List Expr} {g : UG} {r : UGs} (h1 : DG X e g) (h2 : DGs X es r) (hs : (assignEach (e :: es) X.env).map (·.2) = assign e X.env :: (assignEach es X.env).map (·.2) := by rfl) : DGs X (e :: es) (ugCons g r) :=
  pgs_imp (pgs_cons h1 h2 hs) fun vs σ H Q ⟨ds, S, env, Qd, hE, hA, rr, hu, hk⟩ => by
    obtain ⟨d, t, e, q⟩ := hu
    subst e
    obtain ⟨v, r, ev, r1, r2⟩ := repL_cons.mp rr
    exact ⟨v, r, ev, d, S, env, _, hE, hA, r1, q, fun env' σ' hE' q' => ⟨t, S, env', Qd, hE', hA, r2, q', hk⟩⟩
theorem ugs_len {n : Nat} {r : UGs} (h : ∀ ds S env Q, r ds S env Q → ds.length = n) : ∀ ds S env Q, r ds S env Q → ds.length = n := h
theorem dg_tup {es : List Expr} {k n : Nat} {r : UGs} (hc : X.calm = true) (h : DGs X es r) (hlen : ∀ ds S env Q, r ds S env Q → ds.length = n)
    (hn : (assignEach es X.env).length = n := by rfl) (hst : (assignEach es X.env).findIdx? (·.1) = none := by rfl) : DG X (.Tuple es k pos) (ugTup r) :=
  pg_imp (pg_or (pg_tup hc h hn hst) (pg_unl hc h hn hst)) fun v σ H Q ⟨d, S, env, Qd, hE, hA, rr, hu, hk⟩ => by
    obtain ⟨xs, e, q⟩ := hu
    have hl := hlen _ _ _ _ q
    obtain ⟨a, vs, ev, hq, r2⟩ := seqOf_rep hA rr e
    have fin : LGs X r vs σ H Q := ⟨xs, S, env, Qd, hE, hA, r2, q, hk⟩
    rcases hq with hq | hq
    · exact .inr ⟨a, vs, ev, hq, by rw [r2.length, hl], fin⟩
    · exact .inl ⟨a, vs, ev, hq, by rw [r2.length, hl], fin⟩
theorem ugs_len_nil : ∀ ds S env Q, ugNil ds S env Q → ds.length = 0 := fun ds S env Q h => by rw [h.1]; rfl
theorem ugs_len_cons {n : Nat} {g : UG} {r : UGs} (h : ∀ ds S env Q, r ds S env Q → ds.length = n) (hg : ∀ d S env Q, g d S env Q → ∃ env', Q env') : ∀ ds S env Q, ugCons g r ds S env Q → ds.length = n + 1 := fun ds S env Q ⟨d, t, e, q⟩ => by
  subst e
  obtain ⟨env', q'⟩ := hg _ _ _ _ q
  rw [List.length_cons, h _ _ _ _ q']
theorem ug_name_to {i : Nat} : ∀ d S env Q, ugName i d S env Q → ∃ env', Q env' := fun _ _ _ _ q => ⟨_, q⟩
theorem ugs_nil_to : ∀ ds S env Q, ugNil ds S env Q → ∃ env', Q env' := fun _ _ _ _ q => ⟨_, q.2⟩
theorem ugs_cons_to {g : UG} {r : UGs} (hg : ∀ d S env Q, g d S env Q → ∃ env', Q env') (hr : ∀ d S env Q, r d S env Q → ∃ env', Q env') : ∀ ds S env Q, ugCons g r ds S env Q → ∃ env', Q env' := fun ds S env Q ⟨d, t, e, q⟩ => by
  obtain ⟨env', q'⟩ := hg _ _ _ _ q
  exact hr _ _ _ _ q'
theorem ug_tup_to {r : UGs} (hr : ∀ d S env Q, r d S env Q → ∃ env', Q env') : ∀ d S env Q, ugTup r d S env Q → ∃ env', Q env' := fun d S env Q ⟨xs, e, q⟩ => hr _ _ _ _ q
theorem ds_asg {tg : Expr} {g : UG} (he : DE X e u) (hg : DG X tg g) (hs : swapsWithSole [tg] e pos.line X.env = pure false := by rfl) (hw : swappedStores [tg] e X.env = pure none := by rfl)
    (h1 : (assignEach [tg] X.env).map (·.2) = [assign tg X.env] := by rfl) : DS X (.Assign [tg] e pos) (usAsg g u) := ps_imp (ps_asg he hg hs hw h1) fun D σ H ⟨env, S, E, hE, hA, hT, hu, hn, hr, hb, hc⟩ =>
  ⟨env, S, _, E.ex, hE, hA, hT, hu, fun v d H1 S1 t1 r1 a1 q1 => ⟨d, S1, env, _, hE.keep t1, a1, r1, q1, fun env' σ' hE' q' => hn _ _ _ _ t1 hE' a1 q'⟩⟩

/-! attributes -/
theorem de_fld {f : Str} (he : DE X e u) (hb : attributeBase e f X.env (eval e X.env) = eval e X.env := by rfl) : DE X (.Attribute e f pos) (uFld X.K f u) := pe_imp (pe_fld he hb) fun σ H Q ⟨env, S, Qd, W, hE, hA, hT, hu, hk⟩ =>
  ⟨env, S, _, W, hE, hA, hT, hu, fun v d H1 S1 t1 r1 a1 q1 => by
    unfold vFld at q1
    split at q1
    · rename_i a
      rw [rep_ref] at r1; subst r1
      split at q1
      · rename_i C fs es
        obtain ⟨hf, x, hx, q⟩ := q1
        obtain ⟨dx, vfs, eh, rf⟩ := a1 a _ es
        obtain ⟨w, ew, rw'⟩ := rf.lookup hx
        exact ⟨a, C, dx, vfs, w, rfl, eh, hf.1, hf.2, ew, hk _ _ _ _ t1 rw' a1 q⟩
      · exact q1.elim
    · exact q1.elim⟩
theorem ds_fld {f : Str} (ho : DE X o uo) (he : DE X e u) (hs : swapsWith e (some (.Attribute o f pos')) pos.line X.env = pure false := by rfl) : DS X (.Assign [.Attribute o f pos'] e pos) (usFld X.K f uo u) :=
  ps_imp (ps_fld ho he hs) fun D σ H ⟨env, S, E, hE, hA, hT, hu, hn, hr, hb, hc⟩ =>
  ⟨env, S, _, E.ex, hE, hA, hT, hu, fun v d H1 S1 t1 r1 a1 q1 => ⟨env, S1, _, E.ex, hE.keep t1, a1, tstep hT t1, q1, fun vo od H2 S2 t2 r2 a2 q2 => by
    unfold vPut at q2
    split at q2
    · rename_i a
      rw [rep_ref] at r2; subst r2
      split at q2
      · rename_i C fs es
        obtain ⟨hf, hl, q⟩ := q2
        obtain ⟨dx, vfs, eh, rf⟩ := a2 a _ es
        have m : Mut (H2 a) := by rw [eh]; exact True.intro
        have t3 : TK X.K H2 (upd H2 a (.ins C dx (putF f v vfs))) := .mut m
        refine ⟨a, C, dx, vfs, rfl, eh, hf.1, hf.2, by rw [rf.length]; exact hl, hn _ _ _ _ ((t1.trans t2).trans t3) ((hE.keep (t1.trans t2)).keep t3) (a2.put m (.mkI upd_same ((rf.put (r1.keep t2)).keep t3))) q⟩
      · exact q2.elim
    · exact q2.elim⟩⟩
/-! o[i] = e over lists -/
theorem ds_sub (ho : DE X o uo) (hi : DE X i ui) (he : DE X e u) (hs : swapsWithSole [.Subscript o i pos'] e pos.line X.env = pure false := by rfl) (hw : swappedStores [.Subscript o i pos'] e X.env = pure none := by rfl)
    (h1 : (assignEach [.Subscript o i pos'] X.env).map (·.2) = [assign (.Subscript o i pos') X.env] := by rfl)
    (ha : ∀ v, assign (.Subscript o i pos') X.env v = (do
      let ov ← holding [v] (eval o X.env)
      let iv ← holding [v, ov] (eval i X.env)
      standAt pos'
      holding [v, ov, iv] (setItem ov iv v)
      release [v, ov, iv] []) := by intro _; rfl) : DS X (.Assign [.Subscript o i pos'] e pos) (usSub uo ui u) :=
  ps_imp (ps_asg he (pg_sub ho hi set_list ha) hs hw h1) fun D σ H ⟨env, S, E, hE, hA, hT, hu, hn, hr, hb, hc⟩ =>
  ⟨env, S, _, E.ex, hE, hA, hT, hu, fun v d H1 S1 t1 r1 a1 q1 => ⟨env, S1, _, E.ex, hE.keep t1, a1, tstep hT t1, q1, fun vo od H2 S2 t2 r2 a2 q2 => ⟨env, S2, _, E.ex, hE.keep (t1.trans t2), a2, tstep hT (t1.trans t2), q2, fun vi di H3 S3 t3 r3 a3 q3 => by
    unfold vSet at q3
    split at q3
    · rename_i a k
      have r2' := r2.keep t3
      rw [rep_ref] at r2'; subst r2'
      rw [rep_int] at r3; subst r3
      split at q3
      · rename_i xs es
        obtain ⟨j, hj, q⟩ := q3
        obtain ⟨vs, eh, rl⟩ := a3 a _ es
        have m : Mut (H3 a) := by rw [eh]; exact True.intro
        have t4 : TK X.K H3 (upd H3 a (.lst (vs.set j v))) := .mut m
        have tt := (t1.trans t2).trans t3
        exact ⟨a, vs, k, j, rfl, rfl, eh, by rw [rl.length]; exact hj, hn _ _ _ _ (tt.trans t4) ((hE.keep tt).keep t4) (a3.put m (.mkL upd_same ((RepL.set j (r1.keep (t2.trans t3)) rl).keep t4))) q⟩
      · exact q3.elim
    · exact q3.elim⟩⟩⟩
/-! i op= e -/
def rDip (K : PySem.W.Frag) (f : F2) : TIp := rD2 K f
theorem ds_aug (i : Nat) {x : Str} {op : Operator} {f : F2} (hN : X.N.Nodup) (hop : OpR X (inplaceOp op) (rD2 X.K f)) (he : DE X e u) (hi : X.N[i]? = some x := by rfl) (hx : Loc X.env.scope x := by first | exact Or.inl rfl | exact Or.inr rfl) (hf : X.fn x = true ∨ X.env.scope.names.lookup x = some .local := by first | exact .inl rfl | exact .inr rfl) :
    DS X (.AugAssign (.Name x pos') op e pos) (usAug i f u) := ps_imp (ps_aug (ti := rD2 X.K f) hN hi hx he (fun pins s σ H x y v u Q I r1 r2 h => hop pins s σ H x y v u Q I r1 r2 h) hf) fun D σ H ⟨env, S, E, hE, hA, hT, hu, hn, hr, hb, hc⟩ => by
  obtain ⟨d, ed, q⟩ := hu
  obtain ⟨v, ev, r⟩ := hE.2 i d ed
  exact ⟨v, ev, env, S, _, E.ex, hE, hA, hT, q, fun v2 d2 H1 S1 t1 r1 a1 ⟨z, hz, q1⟩ => ⟨S1, d, d2, z, a1, r.keep t1, r1, hz, fun w H2 s rz => hn _ _ _ _ (t1.trans (.of_same s)) ((hE.keep (t1.trans (.of_same s))).set rz) (a1.same s) q1⟩⟩
theorem oi_int {F : Value → Value → Sem Value} {f : F2} {C : Int → Int → Prop} {g : Int → Int → V} (h : OpR X F (rI C g)) (hf : ∀ S d1 d2 z, f S d1 d2 = some z → ∃ i j, d1 = .int i ∧ d2 = .int j ∧ C i j ∧ ∀ H v, v = g i j → Rep X.K H z v) : OpR X F (rD2 X.K f) := od_int h hf
/-- += of irng -/
def dAddI : F2
  | _, .int i, .int j => some (.int (i + j))
  | _, _, _ => none
theorem oi_add : OpR X (inplaceOp .Add) (rD2 X.K dAddI) := od_int (rI0_rI iop_add) fun S d1 d2 z h => by
  unfold dAddI at h
  split at h
  · cases h; exact ⟨_, _, rfl, rfl, trivial, fun _ _ e => rep_int.mpr e⟩
  · cases h
theorem oi_sub : OpR X (inplaceOp .Sub) (rD2 X.K dSub) := od_int (rI0_rI iop_sub) fun S d1 d2 z h => by
  unfold dSub at h
  split at h
  · cases h; exact ⟨_, _, rfl, rfl, trivial, fun _ _ e => rep_int.mpr e⟩
  · cases h
end

/-! ### what is walked -/
/-- J walks the items xs as long as gd holds of the state -/
structure ItD (K : PySem.W.Frag) (J : It) (xs : List D) (gd : SS → Prop) (H0 : Hp) : Prop where
  stop : ∀ H S, TK K H0 H → AbsS K H S → gd S → J.stop xs.length H
  go : ∀ i H S, TK K H0 H → AbsS K H S → gd S → i < xs.length → J.go i H
  yld : ∀ i H S x H', TK K H0 H → AbsS K H S → gd S → i < xs.length → J.yld i H x H' → Same H H' ∧ ∃ d, xs[i]? = some d ∧ Rep K H' d x
abbrev IS := En → SS → (List D → (SS → Prop) → SS → Prop) → QX → Prop
def LI (X : Cx) (u : IS) : TI := fun σ H R => ∃ env S Kd W, EnvR X.K H env σ ∧ AbsS X.K H S ∧ L2N.Takes X (lw X.K H W) ∧ u env S Kd (fun c fs S' => W c fs env S') ∧
  ∀ J xs gd H' S', TK X.K H H' → AbsS X.K H' S' → ItD X.K J xs gd H' → Kd xs gd S' → R J H'
def DI (X : Cx) (tg e : Expr) (u : IS) : Prop := PI X tg e (LI X u)
def vSeq (d : D) (S : SS) (K : List D → (SS → Prop) → SS → Prop) : Prop := match d with
  | .tup xs => K xs (fun _ => True) S
  | .str x => K (x.map fun c => .str [c]) (fun _ => True) S
  | .ref a => match S a with
    | some (.lst xs) => K xs (fun S => S a = some (.lst xs)) S
    | some (.rol xs) => K xs (fun S => S a = some (.rol xs)) S
    | _ => False
  | _ => False
def isSeq (u : UE) : IS := fun env S K X => u env S (fun d S1 => vSeq d S1 K) X
def isRng (u : UE) : IS := fun env S K X => u env S (fun d S1 => ∃ n : Int, d = .int n ∧ -(2 ^ 62) ≤ n ∧ n < 2 ^ 62 ∧ K (irng 0 n.toNat) (fun _ => True) S1) X
def isRng2 (u v : UE) : IS := fun env S K X => u env S (fun d S1 => v env S1 (fun d2 S2 => ∃ lo hi : Int, d = .int lo ∧ d2 = .int hi ∧ (-(2 ^ 62) ≤ lo ∧ lo < 2 ^ 62 ∧ -(2 ^ 62) ≤ hi ∧ hi < 2 ^ 62) ∧ K (irng lo (hi - lo).toNat) (fun _ => True) S2) X) X

theorem itd_tup {K : PySem.W.Frag} {H : Hp} {a : Addr} {vs : List V} {xs : List D} (h : SqT K H a vs) (r : RepL K H xs vs) : ItD K (Itt K a) xs (fun _ => True) H where
  stop := fun H' S t hA _ => ⟨vs, t.tup _ _ h, by rw [r.length]; exact Nat.le_refl _⟩
  go := fun i H' S t hA _ hi => ⟨vs, vs[i]'(by rw [r.length]; exact hi), t.tup _ _ h, by simp [r.length, hi]⟩
  yld := fun i H' S x H2 t hA _ hi ⟨e, y⟩ => by
    subst e
    obtain ⟨d, hd, rd⟩ := r.getV (y vs (t.tup _ _ h))
    exact ⟨Same.refl _, d, hd, rd.keep t⟩
theorem itd_lst {K : PySem.W.Frag} {H : Hp} {a : Addr} {xs : List D} {gd : SS → Prop} (hg : ∀ H S, AbsS K H S → gd S → ∃ vs, SqL K H a vs ∧ RepL K H xs vs) : ItD K (Itl K a) xs gd H where
  stop := fun H' S t hA g => by
    obtain ⟨vs, h, r⟩ := hg H' S hA g
    exact ⟨vs, h, by rw [r.length]; exact Nat.le_refl _⟩
  go := fun i H' S t hA g hi => by
    obtain ⟨vs, h, r⟩ := hg H' S hA g
    exact ⟨vs, vs[i]'(by rw [r.length]; exact hi), h, by simp [r.length, hi]⟩
  yld := fun i H' S x H2 t hA g hi ⟨e, y⟩ => by
    subst e
    obtain ⟨vs, h, r⟩ := hg _ S hA g
    obtain ⟨d, hd, rd⟩ := r.getV (y vs h)
    exact ⟨Same.refl _, d, hd, rd⟩
theorem itd_str {K : PySem.W.Frag} {H : Hp} {x : List Nat} : ItD K (Its (tx x)) (x.map fun c => D.str [c]) (fun _ => True) H where
  stop := fun H' S t hA _ => by show (tx x).cps.size ≤ _; simp [tx]
  go := fun i H' S t hA _ hi => by show i < (tx x).cps.size; simpa [tx] using hi
  yld := fun i H' S v H2 t hA _ hi y => by
    obtain ⟨e, c, hc, ev⟩ := y
    subst e ev
    refine ⟨Same.refl _, .str [c], ?_, rep_str.mpr rfl⟩
    have hc' : x[i]? = some c := by simpa [tx] using hc
    simp [hc']
theorem itd_rng {K : PySem.W.Frag} {H : Hp} {lo : Int} {n : Nat} : ItD K (Itr lo n) (irng lo n) (fun _ => True) H where
  stop := fun H' S t hA _ => by show n ≤ _; simp [irng]
  go := fun i H' S t hA _ hi => by show i < n; simpa [irng] using hi
  yld := fun i H' S v H2 t hA _ hi y => by
    obtain ⟨e, ev⟩ := y
    subst e ev
    exact ⟨Same.refl _, .int (lo + (i : Int)), by
      have hi' : i < n := by simpa [irng] using hi
      simp [irng, hi'], rep_int.mpr rfl⟩

section
variable {X : Cx} {tg e a b : Expr} {u v : UE} {pos p : Pos}
theorem di_seq (he : DE X e u) : DI X tg e (isSeq u) := ⟨fun pins s σ H R I ⟨env, S, Kd, W, hE, hA, hT, hu, hk⟩ => by
  refine thn (PE.run he pins s σ H (fun v H1 => ∃ d S1, TK X.K H H1 ∧ Rep X.K H1 d v ∧ AbsS X.K H1 S1 ∧ vSeq d S1 Kd) I ⟨env, S, _, W, hE, hA, hT, hu, fun v d H' S' t r a q => ⟨d, S', t, r, a, q⟩⟩) fun v s1 ⟨x, H1, I1, r1, d, S1, t1, rd, a1, q1⟩ => ?_
  unfold vSeq at q1
  split at q1
  · rename_i xs
    obtain ⟨a, vs, ex, hq, rr⟩ := rep_tup.mp rd
    subst ex
    cases r1
    obtain ⟨its, rv, pp, hz⟩ := I1.tuple hq
    refine wpAny_pyIter_tuple (show s1.heap.IsTuple a its.toArray from pp) ?_
    refine ⟨s1.heap.objs.size, [s1.heap.objs.size], _, _, H1, rfl, I1.kept (t' := s1.toks) fun b o e => Heap.get?_push_of_some _ e, turn_tuple a _, ⟨_, Heap.get?_push_size _ rfl, rfl, rfl⟩, fun b hb => ?_, hk _ _ _ _ _ t1 a1 (itd_tup hq rr) q1⟩
    have e : b = s1.heap.objs.size := by simpa using hb
    subst e
    exact I1.fpOk (Nat.le_refl _) (I1.hok.fresh (Nat.le_refl _))
  · rename_i y
    rw [rep_str] at rd; subst rd
    obtain ⟨t, rfl⟩ := r1
    cases ha : (tx y).cps.all (· < 128)
    · exact wpAny_pyIter_wide ha (pi_one (tk := s1.toks) I1 _ (turn_str _ _ t "str_iterator" (.inr rfl)) ⟨_, Heap.get?_push_size _ rfl, rfl, rfl⟩ (hk _ _ _ _ _ t1 a1 itd_str q1))
    · exact wpAny_pyIter_ascii ha (pi_one (tk := s1.toks) I1 _ (turn_str _ _ t "str_ascii_iterator" (.inl rfl)) ⟨_, Heap.get?_push_size _ rfl, rfl, rfl⟩ (hk _ _ _ _ _ t1 a1 itd_str q1))
  · rename_i a
    rw [rep_ref] at rd; subst rd
    cases r1
    have go : ∀ {vs : List V} {xs : List D} {gd : SS → Prop}, SqL X.K H1 a vs → (∀ H S, AbsS X.K H S → gd S → ∃ vs, SqL X.K H a vs ∧ RepL X.K H xs vs) → Kd xs gd S1 → wpAny (model X.prog X.w) X.A (pyIter (.ref a)) (PIE X pins σ tg R) X.xe s1 := by
      intro vs xs gd hq hg q1
      obtain ⟨its, rv, pp, hz⟩ := I1.list hq
      refine wpAny_pyIter_list pp.isList ?_
      refine ⟨s1.heap.objs.size, [s1.heap.objs.size], _, _, H1, rfl, I1.kept (t' := s1.toks) fun b o e => Heap.get?_push_of_some _ e, turn_list a _, ⟨_, Heap.get?_push_size _ rfl, rfl, rfl⟩, fun b hb => ?_, hk _ _ _ _ _ t1 a1 (itd_lst hg) q1⟩
      have e : b = s1.heap.objs.size := by simpa using hb
      subst e
      exact I1.fpOk (Nat.le_refl _) (I1.hok.fresh (Nat.le_refl _))
    split at q1
    · rename_i xs es
      obtain ⟨vs, hq, rr⟩ := a1 _ _ es
      exact go (.of hq) (fun H S hA g => let ⟨vs, q, r⟩ := hA.getL g; ⟨vs, .of q, r⟩) q1
    · rename_i xs es
      obtain ⟨vs, hq, rr⟩ := a1 _ _ es
      exact go (.inl hq) (fun H S hA g => let ⟨vs, q, r⟩ := hA.getR g; ⟨vs, .inl q, r⟩) q1
    · exact q1.elim
  · exact q1.elim⟩
end
end SL

set_option Elab.async false
set_option linter.all false
set_option maxRecDepth 100000
set_option maxHeartbeats 4000000
/-! SL5: loops, comprehensions, calls, defs. -/
namespace SL
open PySem PySem.Spec L2

/-- the rest of a for loop -/
def forL (g : UG) (body : US) (gd : SS → Prop) (D : EndsS) : List SL.D → En → SS → Prop
  | [], env, S => gd S ∧ D.nx env S
  | x :: r, env, S => gd S ∧ g x S env fun env' => body { nx := forL g body gd D r, ct := forL g body gd D r, bk := D.nx, rt := D.rt, ex := D.ex } env' S
def usFor (src : IS) (g : UG) (body : US) : US := fun D env S => src env S (fun xs gd S1 => forL g body gd D xs env S1) (fun c fs S1 => D.ex c fs env S1)
/-- a while loop, n turns at most -/
def whL (c : UT) (body : US) (D : EndsS) : Nat → En → SS → Prop
  | 0, _, _ => False
  | n + 1, env, S => c env S (fun k S1 => if k = true then body { nx := whL c body D n, ct := whL c body D n, bk := D.nx, rt := D.rt, ex := D.ex } env S1 else D.nx env S1) (fun c fs S1 => D.ex c fs env S1)
def usWh (c : UT) (body : US) : US := fun D env S => ∃ n, whL c body D n env S
def noX : QX := fun _ _ _ => False
def wipeE (env : En) : List Nat → En
  | [] => env
  | i :: r => (wipeE env r).set i none
/-- the rest of a list comprehension: the list so far stands at p -/
def lcL (g : UG) (c : UT) (e : UE) (gd : SS → Prop) (vs : List Nat) (p : Addr) (env : En) (Q : SS → Prop) : List SL.D → SS → Prop
  | [], S => gd S ∧ Q S
  | x :: r, S => gd S ∧ g x S (wipeE env vs) fun env' => c env' S (fun k S1 =>
      if k = true then e env' S1 (fun d S2 => ∃ acc, S2 p = some (.lst acc) ∧ acc.length < sizeLine ∧ lcL g c e gd vs p env Q r (sup S2 p (.lst (acc ++ [d])))) noX else lcL g c e gd vs p env Q r S1) noX
def uLc (src : IS) (g : UG) (c : UT) (e : UE) (vs : List Nat) : UE := fun env S Q X => src env S (fun xs gd S1 => ∀ p, S1 p = none → lcL g c e gd vs p env (fun S2 => Q (.ref p) S2) xs (sup S1 p (.lst []))) X
def utYes : UT := fun _ S Q _ => Q true S

section
variable {X : Cx} {tg iter e a b c : Expr} {u v : UE} {g : UG} {body : US} {src : IS} {ct : UT} {pos p : Pos}
theorem wipe_env {K : PySem.W.Frag} {H : Hp} : ∀ {vs : List Nat} {env : En} {σ : L2.St}, EnvR K H env σ → EnvR K H (wipeE env vs) (wipe σ vs)
  | [], _, _, h => h
  | i :: r, _, _, h => (wipe_env (vs := r) h).unset
theorem di_rng (he : DA X [a] (uCons u uNil)) (hg : Gl X "range") (hm : X.mg "range" = none) (hs : starEach [a] X.env = [(false, eval a X.env)] := by rfl) : DI X tg (.Call (.Name "range" p) [a] [] pos) (isRng u) :=
  ⟨fun pins s σ H R I ⟨env, S, Kd, W, hE, hA, hT, hu, hk⟩ => (pi_range1 hg hm he hs).run pins s σ H R I ⟨env, S, fun ds S1 => ∃ n : Int, ds = [.int n] ∧ -(2 ^ 62) ≤ n ∧ n < 2 ^ 62 ∧ Kd (irng 0 n.toNat) (fun _ => True) S1, W, hE, hA, hT, by
      show u env S _ _
      have e : (fun d S1 => uNil env S1 (fun ds S2 => ∃ n : Int, d :: ds = [.int n] ∧ -(2 ^ 62) ≤ n ∧ n < 2 ^ 62 ∧ Kd (irng 0 n.toNat) (fun _ => True) S2) (fun c fs S' => W c fs env S')) = fun d S1 => ∃ n : Int, d = .int n ∧ -(2 ^ 62) ≤ n ∧ n < 2 ^ 62 ∧ Kd (irng 0 n.toNat) (fun _ => True) S1 := by
        funext d S1
        simp [uNil]
      rw [e]
      exact hu, fun vs ds H' S' t r a1 ⟨n, e, h1, h2, q⟩ => by
        subst e
        obtain ⟨v, t', ev, r1, r2⟩ := repL_cons.mp r
        rw [rep_int] at r1; rw [repL_nil] at r2; subst r1; subst r2
        exact ⟨n, ev, h1, h2, hk _ _ _ _ _ t a1 (itd_rng) q⟩⟩⟩
theorem di_rng2 (he : DA X [a, b] (uCons u (uCons v uNil))) (hg : Gl X "range") (hm : X.mg "range" = none) (hs : starEach [a, b] X.env = [(false, eval a X.env), (false, eval b X.env)] := by rfl) (hs2 : starEach [b] X.env = [(false, eval b X.env)] := by rfl) :
    DI X tg (.Call (.Name "range" p) [a, b] [] pos) (isRng2 u v) :=
  ⟨fun pins s σ H R I ⟨env, S, Kd, W, hE, hA, hT, hu, hk⟩ => (pi_range2 hg hm he hs hs2).run pins s σ H R I ⟨env, S, fun ds S1 => ∃ lo hi : Int, ds = [.int lo, .int hi] ∧ (-(2 ^ 62) ≤ lo ∧ lo < 2 ^ 62 ∧ -(2 ^ 62) ≤ hi ∧ hi < 2 ^ 62) ∧ Kd (irng lo (hi - lo).toNat) (fun _ => True) S1, W, hE, hA, hT, by
      show u env S _ _
      have e : (fun d S1 => uCons v uNil env S1 (fun ds S2 => ∃ lo hi : Int, d :: ds = [.int lo, .int hi] ∧ (-(2 ^ 62) ≤ lo ∧ lo < 2 ^ 62 ∧ -(2 ^ 62) ≤ hi ∧ hi < 2 ^ 62) ∧ Kd (irng lo (hi - lo).toNat) (fun _ => True) S2) (fun c fs S' => W c fs env S')) =
          fun d S1 => v env S1 (fun d2 S2 => ∃ lo hi : Int, d = .int lo ∧ d2 = .int hi ∧ (-(2 ^ 62) ≤ lo ∧ lo < 2 ^ 62 ∧ -(2 ^ 62) ≤ hi ∧ hi < 2 ^ 62) ∧ Kd (irng lo (hi - lo).toNat) (fun _ => True) S2) (fun c fs S' => W c fs env S') := by
        funext d S1
        simp [uNil, uCons, and_assoc]
      rw [e]
      exact hu, fun vs ds H' S' t r a1 ⟨lo, hi, e, hb, q⟩ => by
        subst e
        obtain ⟨v, t', ev, r1, r2⟩ := repL_cons.mp r
        obtain ⟨v', t'', ev', r1', r2'⟩ := repL_cons.mp r2
        rw [rep_int] at r1 r1'; rw [repL_nil] at r2'; subst r1; subst r1'; subst r2'; subst ev'
        exact ⟨lo, hi, ev, hb, hk _ _ _ _ _ t a1 (itd_rng) q⟩⟩⟩

theorem ds_for {sts : List Stmt} (hp : PassesOwn (model X.prog X.w) X.A X.env X.xe) (hc : X.calm = true) (hi : DI X tg iter src) (hg : DG X tg g) (hb : DB X sts body) (hs : ∀ x, foldedSetIterable iter X.env x = pure x := by intro _; rfl) :
    DS X (.For tg iter sts [] pos) (usFor src g body) := ps_imp (ps_for hp hc hi hg hb hs) fun D σ H ⟨env, S, E, hE, hA, hT, hu, hn, hr, hb, hct⟩ => by
  refine ⟨env, S, _, E.ex, hE, hA, hT, hu, fun J xs gd H1 S1 t1 a1 itd q1 => ?_⟩
  refine ⟨fun i m σ' H' => m = xs.length - i ∧ i ≤ xs.length ∧ ∃ env' S', TK X.K H1 H' ∧ EnvR X.K H' env' σ' ∧ AbsS X.K H' S' ∧ forL g body gd E (xs.drop i) env' S', ⟨xs.length, by simp, Nat.zero_le _, env, S1, .refl _ _, hE.keep t1, a1, by simpa using q1⟩, ?_⟩
  rintro i m σ' H' ⟨rfl, hi, env', S', t2, e2, a2, q2⟩
  by_cases hlt : i < xs.length
  · rw [List.drop_eq_getElem_cons hlt] at q2
    obtain ⟨gs, q2⟩ := q2
    refine .inr ⟨itd.go i H' S' t2 a2 gs hlt, fun σ3 H3 => ∃ env3 S3, TK X.K H1 H3 ∧ EnvR X.K H3 env3 σ3 ∧ AbsS X.K H3 S3 ∧ forL g body gd E (xs.drop (i + 1)) env3 S3, fun σ3 H3 w => ⟨xs.length - (i + 1), by omega, rfl, hlt, w⟩, fun x H3 y => ?_⟩
    obtain ⟨s3, d, hd, rd⟩ := itd.yld i H' S' x H3 t2 a2 gs hlt y
    have ed : xs[i] = d := by rw [List.getElem?_eq_getElem hlt] at hd; exact Option.some.inj hd
    subst ed
    have t3 : TK X.K H' H3 := .of_same s3
    refine ⟨_, S', env', _, e2.keep t3, a2.same s3, rd, q2, fun env4 σ4 e4 q4 => ?_⟩
    have tt := (t1.trans t2).trans t3
    refine ⟨env4, S', { nx := forL g body gd E (xs.drop (i + 1)), ct := forL g body gd E (xs.drop (i + 1)), bk := E.nx, rt := E.rt, ex := E.ex }, e4, a2.same s3, tstep hT tt, q4, fun σ5 H5 env5 S5 t5 e5 a5 q5 => ⟨env5, S5, (t2.trans t3).trans t5, e5, a5, q5⟩, fun v d H5 S5 t5 r5 a5 q5 => hr _ _ _ _ (tt.trans t5) r5 a5 q5,
      fun σ5 H5 env5 S5 t5 e5 a5 q5 => hn _ _ _ _ (tt.trans t5) e5 a5 q5, fun σ5 H5 env5 S5 t5 e5 a5 q5 => ⟨env5, S5, (t2.trans t3).trans t5, e5, a5, q5⟩⟩
  · have ei : i = xs.length := by omega
    subst ei
    rw [List.drop_length] at q2
    exact .inl ⟨itd.stop H' S' t2 a2 q2.1, hn _ _ _ _ (t1.trans t2) e2 a2 q2.2⟩
theorem ds_wh {sts : List Stmt} (hp : PassesOwn (model X.prog X.w) X.A X.env X.xe) (hc : DT X c ct) (hb : DB X sts body) : DS X (.While c sts [] pos) (usWh ct body) := ps_imp (ps_while hp hc hb) fun D σ H ⟨env, S, E, hE, hA, hT, ⟨n, hu⟩, hn, hr, hb, hct⟩ => by
  refine ⟨fun m σ' H' => ∃ env' S', TK X.K H H' ∧ EnvR X.K H' env' σ' ∧ AbsS X.K H' S' ∧ whL ct body E m env' S', ⟨n, env, S, .refl _ _, hE, hA, hu⟩, ?_⟩
  rintro m σ' H' ⟨env', S', t1, e1, a1, q1⟩
  cases m with
  | zero => exact q1.elim
  | succ m =>
    refine ⟨env', S', _, E.ex, e1, a1, tstep hT t1, q1, fun k H2 S2 t2 a2 q2 => ?_⟩
    have tt := t1.trans t2
    cases k with
    | false => exact hn _ _ _ _ tt (e1.keep t2) a2 q2
    | true => exact ⟨fun σ3 H3 => ∃ env3 S3, TK X.K H H3 ∧ EnvR X.K H3 env3 σ3 ∧ AbsS X.K H3 S3 ∧ whL ct body E m env3 S3, fun σ3 H3 w => ⟨m, Nat.lt_succ_self m, w⟩, env', S2, { nx := whL ct body E m, ct := whL ct body E m, bk := E.nx, rt := E.rt, ex := E.ex }, e1.keep t2, a2, tstep hT tt, q2,
      fun σ5 H5 env5 S5 t5 e5 a5 q5 => ⟨env5, S5, tt.trans t5, e5, a5, q5⟩, fun v d H5 S5 t5 r5 a5 q5 => hr _ _ _ _ (tt.trans t5) r5 a5 q5, fun σ5 H5 env5 S5 t5 e5 a5 q5 => hn _ _ _ _ (tt.trans t5) e5 a5 q5, fun σ5 H5 env5 S5 t5 e5 a5 q5 => ⟨env5, S5, tt.trans t5, e5, a5, q5⟩⟩
structure DTs (X : Cx) (ifs : List Expr) (u : UT) : Prop where
  run : PTs X ifs (LT X u)
theorem dts_nil : DTs X [] utYes := ⟨⟨fun pins s σ H Q I ⟨env, S, Qd, W, hE, hA, hT, hu, hk⟩ => pts_nil.run pins s σ H Q I (hk _ _ _ (.refl _ _) hA hu)⟩⟩
theorem dts_one {ct : UT} (h : DT X c ct) : DTs X [c] ct := ⟨pts_one h⟩
theorem lw_false {K : PySem.W.Frag} {H : Hp} : L2N.Takes X (lw K H fun _ _ _ _ => False) := fun u s' x => by
  obtain ⟨a, B, sI, pins, σ, H', cls, d, _, _, _, _, _, _, _, _, w⟩ := x
  obtain ⟨_, _, _, _, _, _, _, f⟩ := w
  exact f.elim
theorem wipe_set {x : Option V} {i : Nat} : ∀ {vs : List Nat} {σ : L2.St}, i ∈ vs → wipe (σ.set i x) vs = wipe σ vs
  | [], _, h => by cases h
  | j :: r, σ, h => by
    unfold wipe
    by_cases hj : i ∈ r
    · rw [wipe_set hj]
    · have e : i = j := by
        rcases List.mem_cons.mp h with h | h
        · exact h
        · exact absurd h hj
      subst e
      have key : ∀ {r : List Nat} {σ : L2.St}, i ∉ r → wipe (σ.set i x) r = (wipe σ r).set i x := by
        intro r
        induction r with
        | nil => intro σ _; rfl
        | cons k r ih =>
          intro σ h
          simp only [List.mem_cons, not_or] at h
          unfold wipe
          rw [ih h.2, List.set_comm _ _ h.1]
      rw [key hj, List.set_set]
theorem wipe_wipe : ∀ {vs : List Nat} {σ : L2.St}, wipe (wipe σ vs) vs = wipe σ vs := by
  intro vs
  have key : ∀ {r : List Nat} {i : Nat} {σ : L2.St}, i ∈ r → (wipe σ r).set i none = wipe σ r := by
    intro r
    induction r with
    | nil => intro i σ h; cases h
    | cons j r ih =>
      intro i σ h
      unfold wipe
      by_cases hj : i = j
      · subst hj; rw [List.set_set]
      · rcases List.mem_cons.mp h with h | h
        · exact absurd h hj
        · rw [List.set_comm _ _ (Ne.symm hj), ih h]
  have k2 : ∀ (r : List Nat) (σ : L2.St), (∀ i ∈ r, i ∈ vs) → wipe (wipe σ vs) r = wipe σ vs := by
    intro r
    induction r with
    | nil => intro σ _; rfl
    | cons j r ih =>
      intro σ h
      show (wipe (wipe σ vs) r).set j none = _
      rw [ih σ fun i hi => h i (List.mem_cons_of_mem _ hi), key (h j List.mem_cons_self)]
  intro σ
  exact k2 vs σ fun _ h => h
/-- a target's reading GG serves g: it stores slots of vs alone -/
def GR (K : PySem.W.Frag) (g : UG) (GG : TG) (vs : List Nat) : Prop := ∀ d v S env σ H Qd (Q : L2.St → Hp → Prop), EnvR K H env σ → AbsS K H S → Rep K H d v → g d S env Qd → (∀ σ' env', wipe σ' vs = wipe σ vs → EnvR K H env' σ' → Qd env' → Q σ' H) → GG v σ H Q
def GRs (K : PySem.W.Frag) (g : UGs) (GG : TGs) (vs : List Nat) : Prop := ∀ ds vv S env σ H Qd (Q : L2.St → Hp → Prop), EnvR K H env σ → AbsS K H S → RepL K H ds vv → g ds S env Qd → (∀ σ' env', wipe σ' vs = wipe σ vs → EnvR K H env' σ' → Qd env' → Q σ' H) → GG vv σ H Q
theorem gr_name {K : PySem.W.Frag} {vs : List Nat} {i : Nat} (hv : i ∈ vs := by decide) : GR K (ugName i) (gName i) vs := fun d v S env σ H Qd Q hE hA r q k => k _ _ (wipe_set hv) (hE.set r) q
theorem grs_nil {K : PySem.W.Frag} {vs : List Nat} : GRs K ugNil gNil vs := fun ds vv S env σ H Qd Q hE hA r ⟨e, q⟩ k => by subst e; exact ⟨repL_nil.mp r, k _ _ rfl hE q⟩
theorem grs_cons {K : PySem.W.Frag} {g : UG} {r : UGs} {G1 : TG} {G2 : TGs} {vs : List Nat} (k1 : GR K g G1 vs) (k2 : GRs K r G2 vs) : GRs K (ugCons g r) (gCons G1 G2) vs := fun ds vv S env σ H Qd Q hE hA rr ⟨d, t, e, q⟩ k => by
  subst e
  obtain ⟨v, vr, ev, r1, r2⟩ := repL_cons.mp rr
  exact ⟨v, vr, ev, k1 d v S env σ H _ _ hE hA r1 q fun σ' env' w e' q' => k2 t vr S env' σ' H _ _ e' hA r2 q' fun σ2 env2 w2 e2 q2 => k σ2 env2 (w2.trans w) e2 q2⟩
/-- the target (a, b, ..), of a tuple or a list -/
def gTL (K : PySem.W.Frag) (n : Nat) (t : TGs) : TG := fun v σ H Q => gTup K n t v σ H Q ∨ gUnl K n t v σ H Q
theorem pg_tl {es : List Expr} {k n : Nat} {t : TGs} (hc : X.calm = true) (h : PGs X es t) (hn : (assignEach es X.env).length = n := by rfl) (hst : (assignEach es X.env).findIdx? (·.1) = none := by rfl) : PG X (.Tuple es k pos) (gTL X.K n t) :=
  pg_or (pg_tup hc h hn hst) (pg_unl hc h hn hst)
theorem gr_tup {K : PySem.W.Frag} {n : Nat} {r : UGs} {GG : TGs} {vs : List Nat} (kk : GRs K r GG vs) (hlen : ∀ ds S env Q, r ds S env Q → ds.length = n) : GR K (ugTup r) (gTL K n GG) vs := fun d v S env σ H Qd Q hE hA rr ⟨xs, e, q⟩ k => by
  have hl := hlen _ _ _ _ q
  obtain ⟨a, ws, ev, hq, r2⟩ := seqOf_rep hA rr e
  have fin := kk xs ws S env σ H _ _ hE hA r2 q k
  rcases hq with hq | hq
  · exact .inr ⟨a, ws, ev, hq, by rw [r2.length, hl], fin⟩
  · exact .inl ⟨a, ws, ev, hq, by rw [r2.length, hl], fin⟩
/-- readings within a comprehension: nothing is raised -/
def LE0 (K : PySem.W.Frag) (u : UE) : TE := fun σ H Q => ∃ env S Qd, EnvR K H env σ ∧ AbsS K H S ∧ u env S Qd noX ∧ ∀ v d H' S', TK K H H' → Rep K H' d v → AbsS K H' S' → Qd d S' → Q v H'
def LT0 (K : PySem.W.Frag) (u : UT) : TT := fun σ H Q => ∃ env S Qd, EnvR K H env σ ∧ AbsS K H S ∧ u env S Qd noX ∧ ∀ b H' S', TK K H H' → AbsS K H' S' → Qd b S' → Q b H'
theorem le0 {u : UE} (h : DE X e u) : PE X e (LE0 X.K u) := pe_imp h fun σ H Q ⟨env, S, Qd, hE, hA, hu, hk⟩ => ⟨env, S, Qd, fun _ _ _ _ => False, hE, hA, lw_false, hu, hk⟩
theorem lt0 {ifs : List Expr} {u : UT} (h : DTs X ifs u) : PTs X ifs (LT0 X.K u) := ⟨fun pins s σ H Q I ⟨env, S, Qd, hE, hA, hu, hk⟩ => h.run.run pins s σ H Q I ⟨env, S, Qd, fun _ _ _ _ => False, hE, hA, lw_false, hu, hk⟩⟩
theorem lift_lc {g : UG} {ct : UT} {u : UE} {src : IS} {vs : List Nat} {GG : TG} {σ : L2.St} {H : Hp} {Q : VK} (h : LE X (uLc src g ct u vs) σ H Q) (hG : GR X.K g GG vs) : tLc (LI X src) GG (LT0 X.K ct) (LE0 X.K u) vs σ H Q := by
  obtain ⟨env, S, Qd, W, hE, hA, hT, hu, hk⟩ := h
  refine ⟨env, S, _, W, hE, hA, hT, hu, fun J xs gd H1 S1 t1 a1 itd q1 => fun L hL => ?_⟩
  have q1 := q1 L (a1.fresh hL)
  refine ⟨fun i m H' => m = xs.length - i ∧ i ≤ xs.length ∧ ∃ S', TK X.K H1 H' ∧ AbsS X.K H' S' ∧ lcL g ct u gd vs L env (fun S2 => Qd (.ref L) S2) (xs.drop i) S', ⟨xs.length, by simp, Nat.zero_le _, _, .new hL, a1.newL hL .nil, by simpa using q1⟩, ?_⟩
  rintro i m H' ⟨rfl, hi, S', t2, a2, q2⟩
  by_cases hlt : i < xs.length
  · rw [List.drop_eq_getElem_cons hlt] at q2
    obtain ⟨gs, q2⟩ := q2
    refine .inr ⟨itd.go i H' S' t2 a2 gs hlt, fun H3 => ∃ S3, TK X.K H1 H3 ∧ AbsS X.K H3 S3 ∧ lcL g ct u gd vs L env (fun S2 => Qd (.ref L) S2) (xs.drop (i + 1)) S3, fun H3 w => ⟨xs.length - (i + 1), by omega, rfl, hlt, w⟩, fun x H3 y => ?_⟩
    obtain ⟨s3, d, hd, rd⟩ := itd.yld i H' S' x H3 t2 a2 gs hlt y
    have ed : xs[i] = d := by rw [List.getElem?_eq_getElem hlt] at hd; exact Option.some.inj hd
    subst ed
    have t3 : TK X.K H' H3 := .of_same s3
    have tt := (t1.trans t2).trans t3
    refine hG _ _ S' (wipeE env vs) _ H3 _ _ (wipe_env (hE.keep tt)) (a2.same s3) rd q2 fun σ4 env4 w4 e4 q4 => ⟨?_, env4, S', _, e4, a2.same s3, q4, fun k H5 S5 t5 a5 q5 => ?_⟩
    · rw [w4]
      exact wipe_wipe
    · cases k with
      | false => exact ⟨S5, (t2.trans t3).trans t5, a5, q5⟩
      | true =>
        refine ⟨env4, S5, _, e4.keep t5, a5, q5, fun v d H6 S6 t6 r6 a6 ⟨acc, ha, hl, q6⟩ => ?_⟩
        obtain ⟨ws, ev, rv⟩ := a6.getL ha
        have m : Mut (H6 L) := by rw [ev]; exact True.intro
        have t7 : TK X.K H6 (upd H6 L (.lst (ws ++ [v]))) := .mut m
        exact ⟨ws, ev, by rw [rv.length]; exact hl, _, (((t2.trans t3).trans t5).trans t6).trans t7, a6.put m (.mkL upd_same ((rv.append (.cons r6 .nil)).keep t7)), q6⟩
  · have ei : i = xs.length := by omega
    subst ei
    rw [List.drop_length] at q2
    exact .inl ⟨itd.stop H' S' t2 a2 q2.1, hk _ _ _ _ (t1.trans t2) (rep_ref.mpr rfl) a2 q2.2⟩
/-- [elt for tg in iter if ..] -/
theorem de_lc {elt : Expr} {ifs : List Expr} {scope : Scope} {own : List (Str × Nat)} {ct : UT} {GG : TG} (hc : X.calm = true) (hN : X.N.Nodup) (hi : DI X tg iter src) (ok : BlkOk X.N X.env.scope scope own) (hG : GR X.K g GG (own.map (·.2)))
    (hg : ∀ (s : Shared) (H : Hp) (C : Addr) (cl : List (Str × Addr)) (fp : List Addr), PG (X.blk s H scope (compEnvC scope cl C X.env) fp) tg GG)
    (ht : ∀ (s : Shared) (H : Hp) (C : Addr) (cl : List (Str × Addr)) (fp : List Addr), DTs (X.blk s H scope (compEnvC scope cl C X.env) fp) ifs ct)
    (he : ∀ (s : Shared) (H : Hp) (C : Addr) (cl : List (Str × Addr)) (fp : List Addr), DE (X.blk s H scope (compEnvC scope cl C X.env) fp) elt u) (hs : ∀ x, foldedSetIterable iter X.env x = pure x := by intro _; rfl) :
    DE X (.ListComp elt [⟨tg, iter, ifs, 0⟩] scope pos) (uLc src g ct u (own.map (·.2))) :=
  pe_imp (pe_lc hc hN hi ok hg (fun s H C cl fp => lt0 (ht s H C cl fp)) (fun s H C cl fp => le0 (he s H C cl fp)) hs) fun σ H Q h => lift_lc h hG
/-- name = [..] on one line, the name a local -/
theorem ds_setLc (i : Nat) {y : Str} {py spos : Pos} {elt : Expr} {ifs : List Expr} {scope : Scope} {own : List (Str × Nat)} {ct : UT} {GG : TG} (hc : X.calm = true) (hN : X.N.Nodup) (hi : DI X tg iter src) (ok : BlkOk X.N X.env.scope scope own) (hG : GR X.K g GG (own.map (·.2)))
    (hg : ∀ (s : Shared) (H : Hp) (C : Addr) (cl : List (Str × Addr)) (fp : List Addr), PG (X.blk s H scope (compEnvC scope cl C X.env) fp) tg GG)
    (ht : ∀ (s : Shared) (H : Hp) (C : Addr) (cl : List (Str × Addr)) (fp : List Addr), DTs (X.blk s H scope (compEnvC scope cl C X.env) fp) ifs ct)
    (he : ∀ (s : Shared) (H : Hp) (C : Addr) (cl : List (Str × Addr)) (fp : List Addr), DE (X.blk s H scope (compEnvC scope cl C X.env) fp) elt u)
    (hsw : swapsWith (.ListComp elt [⟨tg, iter, ifs, 0⟩] scope pos) (some (.Name y py)) spos.line X.env = pure true)
    (hy : X.N[i]? = some y := by rfl) (hyl : X.env.scope.names.lookup y = some .local := by rfl) (hs : ∀ x, foldedSetIterable iter X.env x = pure x := by intro _; rfl) :
    DS X (.Assign [.Name y py] (.ListComp elt [⟨tg, iter, ifs, 0⟩] scope pos) spos) (usSet i (uLc src g ct u (own.map (·.2)))) :=
  ps_imp (ps_setLc hc hN hy hyl hsw hi ok hg (fun s H C cl fp => lt0 (ht s H C cl fp)) (fun s H C cl fp => le0 (he s H C cl fp)) hs) fun D σ H ⟨env, S, E, hE, hA, hT, hu, hn, hr, hb, hct⟩ =>
    lift_lc ⟨env, S, _, E.ex, hE, hA, hT, hu, fun v d H1 S1 t1 r1 a1 q1 => hn _ _ _ _ t1 ((hE.keep t1).set r1) a1 q1⟩ hG
end
end SL

set_option Elab.async false
set_option linter.all false
set_option maxRecDepth 100000
set_option maxHeartbeats 4000000
/-! SL6: calls, defs. -/
namespace SL
open PySem PySem.Spec L2

/-- a def's promise over trees -/
abbrev FS := List D → SS → QN → QX → Prop
def lsp (K : PySem.W.Frag) (n : Nat) (sp : FS) : Sp := fun vs H Q E => ∃ ds S Qd Xd, RepL K H ds vs ∧ AbsS K H S ∧ ds.length = n ∧ sp ds S Qd Xd ∧
  (∀ v d H' S', TK K H H' → Rep K H' d v → AbsS K H' S' → Qd d S' → Q v H') ∧ (∀ cls dd fs H' S', TK K H H' → AbsS K H' S' → XR K H' dd fs → Xd cls fs S' → E cls dd H')
abbrev FnD (P : Program) (w : World) (K : PySem.W.Frag) (mg : Str → Option Value) (base : Heap) (k : Nat) (f : Addr) (fd : FuncData) (ps : List Str) (sp : FS) : Prop := FnOk P w K mg base (L2N.CX P w) k f fd ps (lsp K ps.length sp)
def bodyE (Q : QN) (Xq : QX) : EndsS where
  nx := fun _ S => ∃ S', Le S' S ∧ Q .non S'
  rt := fun d S => ∃ S', Le S' S ∧ Q d S'
  bk := fun _ _ => False
  ct := fun _ _ => False
  ex := fun c fs _ S => ∃ S', Le S' S ∧ Xq c fs S'
def startE (N : List Str) (ds : List D) : En := ds.map some ++ List.replicate (N.length - ds.length) none
theorem start_env {K : PySem.W.Frag} {H : Hp} {N : List Str} {ds : List D} {vs : List V} (r : RepL K H ds vs) : EnvR K H (startE N ds) (L2.start N vs) := by
  unfold startE L2.start
  refine ⟨by simp [r.length], fun i d e => ?_⟩
  by_cases hi : i < ds.length
  · rw [List.getElem?_append_left (by simpa using hi), List.getElem?_map] at e
    cases q : ds[i]? with
    | none => rw [q] at e; cases e
    | some d' =>
      rw [q] at e
      cases e
      obtain ⟨v, hv, rv⟩ := r.get q
      exact ⟨v, by rw [List.getElem?_append_left (by simpa [r.length] using hi), List.getElem?_map, hv]; rfl, rv⟩
  · rw [List.getElem?_append_right (by simpa using hi), List.getElem?_replicate] at e
    split at e <;> cases e
section
variable {P : Program} {w : World} {K : PySem.W.Frag} {mg : Str → Option Value} {base : Heap} {x qual : Str} {params : Arguments} {body : List Stmt} {scope : Scope} {dvs : List V} {kws : List (Str × V)} {f : Addr} {fd : FuncData}
/-- THE RULE for a def: u what its body asks -/
theorem fn_d {N ps : List Str} {k : Nat} {sp : FS} (F : FunD K x qual params body scope dvs kws f fd) (S : FnScope N ps scope) (u : US)
    (hder : ∀ (cdv : Value) (A : Around) (outer : List Env) (s : Shared) (H : Hp) (E : XK), Room k (A.deeper (PyProof.Rows.envOfC qual scope s.heap.objs.size f cdv)) → DB (cxOf (L2N.CX P w) P w K mg base N qual scope f cdv A outer s H E) body u)
    (hsp : ∀ ds S Q Xq, ds.length = ps.length → sp ds S Q Xq → u (bodyE Q Xq) (startE N ds) S) : FnD P w K mg base (k + 1) f fd ps sp := by
  refine F.ok S (fun vs H Q E h => ?_) (fun cdv A outer s H vs Q E hr h => ?_)
  · obtain ⟨ds, S0, Qd, Xd, rv, hA, hl, _⟩ := h
    rw [rv.length, hl]
  · obtain ⟨ds, S0, Qd, Xd, rv, hA, hl, hs, hk, hx⟩ := h
    refine ⟨_, hder cdv A outer s H E hr, startE N ds, S0, bodyE Qd Xd, start_env rv, hA, ?_, hsp _ _ _ _ hl hs, ?_, ?_, ?_, ?_⟩
    · refine (L2N.takes_of (E := E) rfl rfl rfl rfl).imp fun c d σ H' ⟨env, S', fs, t, hE, hA', hX, S2, hle, q⟩ => hx _ _ _ _ _ t (hA'.le hle) hX q
    · exact fun σ' H' env' S' t hE hA' ⟨S2, hle, q⟩ => hk _ _ _ _ t (rep_non.mpr rfl) (hA'.le hle) q
    · exact fun v d H' S' t r hA' ⟨S2, hle, q⟩ => hk _ _ _ _ t r (hA'.le hle) q
    · exact fun σ' H' env' S' t hE hA' q => q.elim
    · exact fun σ' H' env' S' t hE hA' q => q.elim
end

/-- how a call of n positional values and keywords ks binds: gD puts them in the parameters' order -/
structure Shp (K : PySem.W.Frag) (fd : FuncData) (ps : List Str) (n : Nat) (ks : List Str) (gD : List D → List D → List D) : Prop where
  to : ∃ g gV, KBn K fd ps n ks g gV ∧ ∀ H ds vs es zs, RepL K H ds vs → RepL K H es zs → ds.length = n → es.length = ks.length → RepL K H (gD ds es) (gV vs zs) ∧ (gD ds es).length = ps.length
theorem shp_plain {K : PySem.W.Frag} {fd : FuncData} {ps : List Str} (b : Binds K fd ps []) : Shp K fd ps ps.length [] (fun ds _ => ds) :=
  ⟨fun us _ => us, fun vs _ => vs, ⟨fun s us ws X l1 l2 => by
    have e : ws = [] := List.length_eq_zero_iff.mp l2
    subst e
    have := b s us X (by simpa using l1)
    rw [List.append_nil] at this
    exact this, fun r _ => r⟩, fun H ds vs es zs r _ l _ => ⟨r, l⟩⟩
theorem shp_dfl {K : PySem.W.Frag} {fd : FuncData} {ps : List Str} {us : List Value} {dvs : List V} {es : List D} (b : Binds K fd ps us) (hd : Vals dvs us) (hr : ∀ H, RepL K H es dvs) (n : Nat) (hn : n + es.length = ps.length) : Shp K fd ps n [] (fun ds _ => ds ++ es) :=
  ⟨fun vs _ => vs ++ us, fun vs _ => vs ++ dvs, ⟨fun s vs ws X l1 l2 => by
    have e : ws = [] := List.length_eq_zero_iff.mp l2
    subst e
    refine b s vs X ?_
    rw [List.length_append, l1, ← hd.length, (hr (fun _ => none)).length, hn], fun r _ => r.append hd⟩, fun H ds vs es' zs r _ l _ => ⟨r.append (hr H), by rw [List.length_append, l, hn]⟩⟩
theorem shp_kw {K : PySem.W.Frag} {fd : FuncData} {ps ks : List Str} {n : Nat} (hn : n + ks.length = ps.length) (h : ∀ us ws : List Value, us.length = n → ws.length = ks.length → bindArgs fd ⟨us, ks.zip ws⟩ = pure (ps.zip (us ++ ws))) : Shp K fd ps n ks (fun ds es => ds ++ es) :=
  ⟨fun us ws => us ++ ws, fun vs zs => vs ++ zs, ⟨fun s us ws X l1 l2 => .of_eq (h us ws l1 l2), fun r q => r.append q⟩, fun H ds vs es zs r q l1 l2 => ⟨r.append q, by rw [List.length_append, l1, l2, hn]⟩⟩

section
variable {X : Cx} {k n : Nat} {f : Addr} {fd : FuncData} {ps ks : List Str} {sp : FS} {gD : List D → List D → List D}
/-- the callee runs -/
theorem run_dC {pins : List (Addr × Obj)} {σ : L2.St} {H : Hp} {s : Shared} {Q : VK} {us ws : List Value} {vs zs : List V} {ds es : List D} {env : En} {S : SS} {Qd : QN} {W : QXE}
    (F : FnD X.prog X.w X.K X.mg X.base k f fd ps sp) (hr : Room k X.A) (sh : Shp X.K fd ps n ks gD) (I : Inv X pins σ H s) (hE : EnvR X.K H env σ) (hA : AbsS X.K H S) (hT : L2N.Takes X (lw X.K H W))
    (r : Vals vs us) (rv : RepL X.K H ds vs) (rz : Vals zs ws) (re : RepL X.K H es zs) (l1 : ds.length = n) (l2 : es.length = ks.length) (h : sp (gD ds es) S Qd (fun c fs S' => W c fs env S'))
    (hk : ∀ v d H' S', TK X.K H H' → Rep X.K H' d v → AbsS X.K H' S' → Qd d S' → Q v H') : codeAny (model X.prog X.w) X.A (.call (.ref f) ⟨us, ks.zip ws⟩) (fun r s' => match r with
      | .ok (.ret v) => EP X pins σ Q v s'
      | .ok _ => False
      | .error e => X.xe e s') s := by
  obtain ⟨g, gV, hb, hg⟩ := sh.to
  have r2 := hb.rel r rz
  obtain ⟨g1, g2⟩ := hg H ds vs es zs rv re l1 l2
  refine (codeAny_mono (F.run X.A X.stack s H ⟨us, ks.zip ws⟩ (g us ws) (gV vs zs) Q (fun cls dd H' => lw X.K H W cls dd σ H') hr I.env0 (hb.to s us ws I.kIn (by rw [← r.length, rv.length, l1]) (by rw [← rz.length, re.length, l2])) r2
    ⟨gD ds es, S, Qd, _, g1, hA, g2, h, hk, fun cls dd fs H' S' t a x q => ⟨env, S', fs, t, hE.keep t, a, x, q⟩⟩) fun r s' hq => ?_)
  cases r with
  | error e => exact hT _ _ (L2N.XE.of_call I (fun _ _ _ h => h) hq)
  | ok fl =>
    cases fl with
    | ret u => exact I.after hq
    | next => exact False.elim hq
    | brk => exact False.elim hq
    | cont => exact False.elim hq
theorem run_d {pins : List (Addr × Obj)} {σ : L2.St} {H : Hp} {s : Shared} {Q : VK} {us ws : List Value} {vs zs : List V} {ds es : List D} {env : En} {S : SS} {Qd : QN} {W : QXE}
    (F : FnD X.prog X.w X.K X.mg X.base k f fd ps sp) (hr : Room k X.A) (sh : Shp X.K fd ps n ks gD) (I : Inv X pins σ H s) (hE : EnvR X.K H env σ) (hA : AbsS X.K H S) (hT : L2N.Takes X (lw X.K H W))
    (r : Vals vs us) (rv : RepL X.K H ds vs) (rz : Vals zs ws) (re : RepL X.K H es zs) (l1 : ds.length = n) (l2 : es.length = ks.length) (h : sp (gD ds es) S Qd (fun c fs S' => W c fs env S'))
    (hk : ∀ v d H' S', TK X.K H H' → Rep X.K H' d v → AbsS X.K H' S' → Qd d S' → Q v H') : wpAny (model X.prog X.w) X.A (call (.ref f) us (ks.zip ws)) (EP X pins σ Q) X.xe s :=
  wpAny_call (codeAny_mono (run_dC F hr sh I hE hA hT r rv rz re l1 l2 h hk) fun r s' hq => by
    cases r with
    | error e => exact hq
    | ok fl => cases fl <;> exact hq)
end

/-- nothing is let out -/
theorem passN {X : Cx} : Passes (L2N.CX X.prog X.w) X (fun _ _ _ => False) := fun _ _ _ _ _ _ _ c => by
  obtain ⟨_, _, _, _, _, _, _, _, _, _, _, _, z⟩ := c
  exact z.elim
theorem passNn {X : Cx} : Passes (L2N.CX X.prog X.w) X.nox E0 := fun _ _ _ _ _ _ _ c => by
  obtain ⟨_, _, _, _, _, _, _, _, _, _, _, _, z⟩ := c
  exact z.elim
/-! ### arguments -/
abbrev UAK := En → SS → (List D → List D → SS → Prop) → QX → Prop
def uA0 : UAK := fun _ S Q _ => Q [] [] S
def uA1 (n : Nat) (ra : UA) : UAK := fun env S Q X => ra env S (fun ds S1 => ds.length = n ∧ Q ds [] S1) X
def uA2 (n m : Nat) (ra rk : UA) : UAK := fun env S Q X => ra env S (fun ds S1 => rk env S1 (fun es S2 => ds.length = n ∧ es.length = m ∧ Q ds es S2) X) X
def uA3 (m : Nat) (rk : UA) : UAK := fun env S Q X => rk env S (fun es S2 => es.length = m ∧ Q [] es S2) X
def DK (X : Cx) (kws : List Keyword) (u : UA) : Prop := PK X kws (LA X u)
structure DArgs (X : Cx) (es : List Expr) (kws : List Keyword) (pos : Pos) (n : Nat) (ks : List Str) (u : UAK) : Prop where
  run : ∀ (fv : Value) (first : List Value) (pins : List (Addr × Obj)) (s : Shared) (σ : L2.St) (H : Hp) (env : En) (S : SS) (Qk : List D → List D → SS → Prop) (W : QXE) (Qf : Value → Shared → Prop), PySem.W.keepIn X.K fv = true → Inv X pins σ H s → EnvR X.K H env σ → AbsS X.K H S → L2N.Takes X (lw X.K H W) →
    u env S Qk (fun c fs S' => W c fs env S') →
    (∀ us vs ws zs ds es' s1 H1 S1, Inv X pins σ H1 s1 → TK X.K H H1 → AbsS X.K H1 S1 → Vals vs us → RepL X.K H1 ds vs → Vals zs ws → RepL X.K H1 es' zs → ds.length = n → es'.length = ks.length → Qk ds es' S1 → wpAny (model X.prog X.w) X.A (call fv (first ++ us) (ks.zip ws)) Qf X.xe s1) →
    wpAny (model X.prog X.w) X.A (callWith pos fv first (backTo pos (starEach es X.env)) (backToKw pos (keywordEach kws X.env))) Qf X.xe s
section
variable {X : Cx} {e : Expr} {es : List Expr} {kws : List Keyword} {pos kpos : Pos} {n m : Nat} {ks : List Str} {ra rk : UA} {ue : UE} {nm : Option Str}
theorem dk_nil : DK X [] uNil := ⟨fun pos pins s σ H Q I ⟨env, S, Qd, W, hE, hA, hT, hu, hk⟩ => (pk_nil (X := X)).run pos pins s σ H Q I (hk _ _ _ _ (.refl _ _) .nil hA hu)⟩
theorem dk_cons (ha : DE X e ue) (hr : DK X kws rk) : DK X (⟨nm, e, kpos⟩ :: kws) (uCons ue rk) := ⟨fun pos pins s σ H Q I ⟨env, S, Qd, W, hE, hA, hT, hu, hk⟩ => (pk_cons (nm := nm) (kpos := kpos) ha hr).run pos pins s σ H Q I
  ⟨env, S, _, W, hE, hA, hT, hu, fun v d H1 S1 t1 r1 a1 q1 => ⟨env, S1, _, W, hE.keep t1, a1, tstep hT t1, q1, fun vs ds H2 S2 t2 r2 a2 q2 => hk _ _ _ _ (t1.trans t2) (.cons (r1.keep t2) r2) a2 q2⟩⟩⟩
theorem dar0 : DArgs X [] [] pos 0 [] uA0 := ⟨fun fv first pins s σ H env S Qk W Qf hk I hE hA hT hu h => PySem.W.callWith_K0 I.kIn hk (h [] [] [] [] [] [] s H S I (.refl _ _) hA .nil .nil .nil .nil rfl rfl hu)⟩
theorem dar1 (ha : DA X (e :: es) ra) (he : starEach (e :: es) X.env = (false, eval e X.env) :: starEach es X.env := by rfl) (hpl : (backTo pos (starEach es X.env)).any (·.1) = false := by rfl) : DArgs X (e :: es) [] pos n [] (uA1 n ra) :=
  ⟨fun fv first pins s σ H env S Qk W Qf hk I hE hA hT hu h => PySem.W.callWith_K (h₀ := X.base) I.ok.mod.kin hk (thn (PA.run ha pos pins s σ H (fun vs H1 => ∃ ds S1, TK X.K H H1 ∧ RepL X.K H1 ds vs ∧ AbsS X.K H1 S1 ∧ ds.length = n ∧ Qk ds [] S1) I
    ⟨env, S, _, W, hE, hA, hT, hu, fun vs ds H1 S1 t r a ⟨l, q⟩ => ⟨ds, S1, t, r, a, l, q⟩⟩) fun us s1 ⟨vs, H1, I1, r, ds, S1, t, rr, a, l, q⟩ => ⟨I1.kIn, h us vs [] [] ds [] s1 H1 S1 I1 t a r rr .nil .nil l rfl q⟩) he hpl⟩
theorem dar2 (ha : DA X (e :: es) ra) (hkw : DK X kws rk) (hall : (backToKw pos (keywordEach kws X.env)).all (·.1.isSome) = true := by rfl) (hks : (backToKw pos (keywordEach kws X.env)).filterMap (·.1) = ks := by rfl)
    (he : starEach (e :: es) X.env = (false, eval e X.env) :: starEach es X.env := by rfl) (hpl : ((backTo pos (starEach (e :: es) X.env)).any (·.1) || (backToKw pos (keywordEach kws X.env)).any (·.1.isNone)) = false := by rfl) : DArgs X (e :: es) kws pos n ks (uA2 n ks.length ra rk) :=
  ⟨fun fv first pins s σ H env S Qk W Qf hk I hE hA hT hu h => PySem.W.callWith_KW (h₀ := X.base) I.ok.mod.kin hk hall (thn (PA.run ha pos pins s σ H (fun vs H1 => ∃ ds S1, TK X.K H H1 ∧ RepL X.K H1 ds vs ∧ AbsS X.K H1 S1 ∧ rk env S1 (fun es S2 => ds.length = n ∧ es.length = ks.length ∧ Qk ds es S2) (fun c fs S' => W c fs env S')) I
    ⟨env, S, _, W, hE, hA, hT, hu, fun vs ds H1 S1 t r a q => ⟨ds, S1, t, r, a, q⟩⟩) fun us s1 ⟨vs, H1, I1, r, ds, S1, t, rr, a, q⟩ => thn (PK.run hkw pos pins s1 σ H1 (fun zs H2 => ∃ es' S2, TK X.K H1 H2 ∧ RepL X.K H2 es' zs ∧ AbsS X.K H2 S2 ∧ ds.length = n ∧ es'.length = ks.length ∧ Qk ds es' S2) I1
      ⟨env, S1, _, W, hE.keep t, a, tstep hT t, q, fun zs es' H2 S2 t2 r2 a2 ⟨l1, l2, q2⟩ => ⟨es', S2, t2, r2, a2, l1, l2, q2⟩⟩) fun ws s2 ⟨zs, H2, I2, rz, es', S2, t2, r2, a2, l1, l2, q2⟩ => ⟨I2.kIn, by
        rw [hks]
        exact h us vs ws zs ds es' s2 H2 S2 I2 (t.trans t2) a2 r (rr.keep t2) rz r2 l1 l2 q2⟩) hpl he⟩
theorem dar3 (hkw : DK X kws rk) (hall : (backToKw pos (keywordEach kws X.env)).all (·.1.isSome) = true := by rfl) (hks : (backToKw pos (keywordEach kws X.env)).filterMap (·.1) = ks := by rfl)
    (hpl : ((backTo pos (starEach [] X.env)).any (·.1) || (backToKw pos (keywordEach kws X.env)).any (·.1.isNone)) = false := by rfl) : DArgs X [] kws pos 0 ks (uA3 ks.length rk) :=
  ⟨fun fv first pins s σ H env S Qk W Qf hk I hE hA hT hu h => PySem.W.callWith_KW0 (h₀ := X.base) I.ok.mod.kin hk hall (thn (PK.run hkw pos pins s σ H (fun zs H2 => ∃ es' S2, TK X.K H H2 ∧ RepL X.K H2 es' zs ∧ AbsS X.K H2 S2 ∧ es'.length = ks.length ∧ Qk [] es' S2) I
      ⟨env, S, _, W, hE, hA, hT, hu, fun zs es' H2 S2 t2 r2 a2 ⟨l2, q2⟩ => ⟨es', S2, t2, r2, a2, l2, q2⟩⟩) fun ws s2 ⟨zs, H2, I2, rz, es', S2, t2, r2, a2, l2, q2⟩ => ⟨I2.kIn, by
        rw [hks]
        exact h [] [] ws zs [] es' s2 H2 S2 I2 t2 a2 .nil .nil rz r2 rfl l2 q2⟩) hpl⟩
end

/-! ### calls -/
def uCall (sp : FS) (gD : List D → List D → List D) (ra : UAK) : UE := fun env S Q X => ra env S (fun ds es S1 => sp (gD ds es) S1 Q X) X
/-- o.m(..), o an instance of the class at C -/
def uMeth (C : Addr) (m : Str) (sp : FS) (gD : List D → List D → List D) (uo : UE) (ra : UAK) : UE := fun env S Q X => uo env S (fun d S1 => ∃ a fs, d = .ref a ∧ S1 a = some (.ins C fs) ∧ fs.lookup m = none ∧ ra env S1 (fun ds es S2 => sp (gD (d :: ds) es) S2 Q X) X) X
/-- C(..) -/
def uMake (C : Addr) (sp : FS) (gD : List D → List D → List D) (ra : UAK) : UE := fun env S Q X => ra env S (fun ds es S1 => ∀ p, S1 p = none → sp (gD (.ref p :: ds) es) (sup S1 p (.ins C [])) (fun d S2 => d = .non ∧ Q (.ref p) S2) X) X
/-- o.f, a property -/
def uProp (C : Addr) (sp : FS) (uo : UE) : UE := fun env S Q X => uo env S (fun d S1 => ∃ a fs, d = .ref a ∧ S1 a = some (.ins C fs) ∧ sp [d] S1 Q noX) X
/-- C.m(..), a classmethod -/
def uCMeth (C : Addr) (sp : FS) (uo : UE) (ra : UA) : UE := fun env S Q X => uo env S (fun d S1 => d = .ref C ∧ ra env S1 (fun ds S2 => sp (.ref C :: ds) S2 Q X) X) X
section
variable {X : Cx} {k n : Nat} {f C : Addr} {fd : FuncData} {ps ks : List Str} {sp : FS} {gD : List D → List D → List D} {x m : Str} {p pos apos : Pos} {e o : Expr} {es : List Expr} {kws : List Keyword} {ra : UAK} {uo : UE}
theorem de_call (F : FnD X.prog X.w X.K X.mg X.base k f fd ps sp) (hr : Room k X.A) (hm : X.mg x = some (.ref f)) (hk : PySem.W.keepIn X.K (.ref f) = true) (sh : Shp X.K fd ps n ks gD) (ha : DArgs X es kws pos n ks ra) (hg : Gl X x := by rfl) (hdb : (x == ("__debug__" : Str)) = false := by decide) :
    DE X (.Call (.Name x p) es kws pos) (uCall sp gD ra) := ⟨fun pins s σ H Q I ⟨env, S, Qd, W, hE, hA, hT, hu, hk'⟩ => by
  refine wpAny_Call_Name_kw (ld_glob I hg hm ?_ hdb)
  exact ha.run (.ref f) [] pins s σ H env S _ W _ hk I hE hA hT hu fun us vs ws zs ds es' s1 H1 S1 I1 t a r rr rz re l1 l2 q => run_d F hr sh I1 (hE.keep t) a (tstep hT t) r rr rz re l1 l2 q fun v d H' S' t2 r2 a2 q2 => hk' _ _ _ _ (t.trans t2) r2 a2 q2⟩
theorem de_meth {pl : Sem Bool} (he : DE X o uo) (c : Cls X.K C) (hm : Meth X.K C m f) (F : FnD X.prog X.w X.K X.mg X.base k f fd ps sp) (hr : Room k X.A) (sh : Shp X.K fd ps (n + 1) ks gD) (ha : DArgs X es kws pos n ks ra)
    (ht : eval (.Call (.Attribute o m apos) es kws pos) X.env = (do
      let ov ← eval o X.env
      standAt apos.atName
      let (f, first) ← holding [ov] (getMethod ov m pl)
      callWith pos f first (backTo pos (starEach es X.env)) (backToKw pos (keywordEach kws X.env))) := by rfl) :
    DE X (.Call (.Attribute o m apos) es kws pos) (uMeth C m sp gD uo ra) := ⟨fun pins s σ H Q I ⟨env, S, Qd, W, hE, hA, hT, hu, hk'⟩ => by
  refine PySem.W.methodCall_KW (pl := pl) (thn (PE.run he pins s σ H (fun v H1 => ∃ d S1, TK X.K H H1 ∧ Rep X.K H1 d v ∧ AbsS X.K H1 S1 ∧ ∃ a fs, d = .ref a ∧ S1 a = some (.ins C fs) ∧ fs.lookup m = none ∧ ra env S1 (fun ds es S2 => sp (gD (d :: ds) es) S2 Qd (fun c fs S' => W c fs env S')) (fun c fs S' => W c fs env S')) I
    ⟨env, S, _, W, hE, hA, hT, hu, fun v d H1 S1 t r a q => ⟨d, S1, t, r, a, q⟩⟩) fun u s1 ⟨y, H1, I1, ry, d, S1, t1, rd, a1, a, fs, ed, es1, l, q⟩ => ?_) ht
  subst ed
  rw [rep_ref] at rd; subst rd
  obtain rfl : u = Value.ref a := ry
  obtain ⟨dx, vfs, eh, rf⟩ := a1.getI es1
  refine getmeth_ok I1 eh c hm (rf.lookup_none l) ?_
  refine ha.run (.ref f) [.ref a] pins s1 σ H1 env S1 _ W _ hm.kp I1 (hE.keep t1) a1 (tstep hT t1) q fun us vs ws zs ds es' s2 H2 S2 I2 t2 a2 r rr rz re l1 l2 q2 => ?_
  have tt := t1.trans t2
  exact run_d (us := .ref a :: us) (vs := .ref a :: vs) (ds := .ref a :: ds) F hr sh I2 (hE.keep tt) a2 (tstep hT tt) (.cons rfl r) (.cons (rep_ref.mpr rfl) rr) rz re (by rw [List.length_cons, l1]) l2 q2 fun v d H' S' t3 r3 a3 q3 => hk' _ _ _ _ (tt.trans t3) r3 a3 q3⟩
end
end SL

set_option Elab.async false
set_option linter.all false
set_option maxRecDepth 100000
set_option maxHeartbeats 4000000
/-! SL7: instances made, properties, classmethods; raise, try. -/
namespace SL
open PySem PySem.Spec L2 ClX
section
variable {X : Cx} {k n : Nat} {f C : Addr} {fd : FuncData} {ps ks : List Str} {sp : FS} {gD : List D → List D → List D} {x m : Str} {p pos apos : Pos} {e o : Expr} {es : List Expr} {kws : List Keyword} {ra : UAK} {uo : UE}
theorem AbsS.made {K : PySem.W.Frag} {H : Hp} {S : SS} {x dx : Addr} (h : AbsS K H S) (nx : H x = none) (nd : H dx = none) (ne : dx ≠ x) : AbsS K (upd (upd H dx (.own x)) x (.ins C dx [])) (sup S x (.ins C [])) := by
  have h1 : AbsS K (upd H dx (.own x)) S := h.same (Same.new nd)
  have n2 : (upd H dx (.own x)) x = none := by rw [upd_ne (Ne.symm ne)]; exact nx
  exact h1.new n2 (.mkI upd_same ⟨rfl, .nil⟩)
theorem TK.made {K : PySem.W.Frag} {H : Hp} {x dx : Addr} {o o' : HO} (nx : H x = none) (nd : H dx = none) (ne : dx ≠ x) : TK K H (upd (upd H dx o) x o') :=
  (TK.new nd).trans (.new (by rw [upd_ne (Ne.symm ne)]; exact nx))
theorem run_mk {pins : List (Addr × Obj)} {σ : L2.St} {H : Hp} {s : Shared} {Q : VK} {us ws : List Value} {vs zs : List V} {ds es : List D} {env : En} {S : SS} {Qd : QN} {W : QXE}
    (M : Mk X.K C f) (F : FnD X.prog X.w X.K X.mg X.base k f fd ps sp) (hr : Room (k + 1) X.A) (sh : Shp X.K fd ps (n + 1) ks gD) (I : Inv X pins σ H s) (hE : EnvR X.K H env σ) (hA : AbsS X.K H S) (hT : L2N.Takes X (lw X.K H W))
    (r : Vals vs us) (rv : RepL X.K H ds vs) (rz : Vals zs ws) (re : RepL X.K H es zs) (l1 : ds.length = n) (l2 : es.length = ks.length)
    (h : ∀ p, S p = none → sp (gD (.ref p :: ds) es) (sup S p (.ins C [])) (fun d S2 => d = .non ∧ Qd (.ref p) S2) (fun c fs S' => W c fs env S'))
    (hk : ∀ v d H' S', TK X.K H H' → Rep X.K H' d v → AbsS X.K H' S' → Qd d S' → Q v H') : wpAny (model X.prog X.w) X.A (call (.ref C) us (ks.zip ws)) (EP X pins σ Q) X.xe s := by
  obtain ⟨g, gV, hb, hg⟩ := sh.to
  have nx : H (s.heap.objs.size + 1) = none := I.hok.fresh (Nat.le_succ _)
  have nd : H s.heap.objs.size = none := I.hok.fresh (Nat.le_refl _)
  have ne : s.heap.objs.size ≠ s.heap.objs.size + 1 := Nat.ne_of_lt (Nat.lt_succ_self _)
  have I2 := Inv.made (C := C) I
  have t : TK X.K H (upd (upd H s.heap.objs.size (.own (s.heap.objs.size + 1))) (s.heap.objs.size + 1) (.ins C s.heap.objs.size [])) := .made nx nd ne
  have r' : Vals (V.ref (s.heap.objs.size + 1) :: vs) (Value.ref (s.heap.objs.size + 1) :: us) := .cons rfl r
  have r2 := hb.rel r' rz
  obtain ⟨g1, g2⟩ := hg _ (D.ref (s.heap.objs.size + 1) :: ds) (V.ref (s.heap.objs.size + 1) :: vs) es zs (.cons (rep_ref.mpr rfl) (rv.keep t)) (re.keep t) (by rw [List.length_cons, l1]) l2
  refine wpAny_call (make_map (f := f) I.kIn M.makes M.init (beq_iff_eq.mp M.fn) (codeAny_mono (F.run _ X.stack _ _ ⟨Value.ref (s.heap.objs.size + 1) :: us, ks.zip ws⟩ (g (Value.ref (s.heap.objs.size + 1) :: us) ws) (gV (V.ref (s.heap.objs.size + 1) :: vs) zs)
    (fun v H2 => v = .non ∧ Q (.ref (s.heap.objs.size + 1)) H2) (fun cls dd H' => lw X.K H W cls dd σ H') (hr.make C us (ks.zip ws)) (I2.env0.make C us (ks.zip ws)) (hb.to _ (Value.ref (s.heap.objs.size + 1) :: us) ws I2.kIn (by rw [← r'.length, List.length_cons, rv.length, l1]) (by rw [← rz.length, re.length, l2])) r2
    ⟨gD (.ref (s.heap.objs.size + 1) :: ds) es, _, _, _, g1, hA.made nx nd ne, g2, h _ (hA.fresh nx), fun v d H' S' t2 r2 a2 ⟨ed, q2⟩ => ⟨by subst ed; exact rep_non.mp r2, hk _ _ _ _ (t.trans t2) (rep_ref.mpr rfl) a2 q2⟩, fun cls dd fs H' S' t2 a x q => ⟨env, S', fs, t.trans t2, hE.keep (t.trans t2), a, x, q⟩⟩) fun r s' hq => ?_))
  cases r with
  | error e => exact hT _ _ (L2N.XE.of_call I2 (fun _ _ _ h => h) hq)
  | ok fl =>
    cases fl with
    | ret u =>
      obtain ⟨v, H', I3, rv, ev, q3⟩ := I2.after hq
      subst ev
      exact ⟨rv, ⟨V.ref (s.heap.objs.size + 1), H', I3, rfl, q3⟩⟩
    | next => exact False.elim hq
    | brk => exact False.elim hq
    | cont => exact False.elim hq
theorem de_make (M : Mk X.K C f) (F : FnD X.prog X.w X.K X.mg X.base k f fd ps sp) (hr : Room (k + 1) X.A) (hm : X.mg x = some (.ref C)) (sh : Shp X.K fd ps (n + 1) ks gD) (ha : DArgs X es kws pos n ks ra) (hg : Gl X x := by rfl) (hdb : (x == ("__debug__" : Str)) = false := by decide) :
    DE X (.Call (.Name x p) es kws pos) (uMake C sp gD ra) := ⟨fun pins s σ H Q I ⟨env, S, Qd, W, hE, hA, hT, hu, hk'⟩ => by
  refine wpAny_Call_Name_kw (ld_glob I hg hm ?_ hdb)
  exact ha.run (.ref C) [] pins s σ H env S _ W _ M.kp I hE hA hT hu fun us vs ws zs ds es' s1 H1 S1 I1 t a r rr rz re l1 l2 q => run_mk M F hr sh I1 (hE.keep t) a (tstep hT t) r rr rz re l1 l2 q fun v d H' S' t2 r2 a2 q2 => hk' _ _ _ _ (t.trans t2) r2 a2 q2⟩
/-- C(..), C by a local name: cls(..) -/
def uMakeV (i : Nat) (C : Addr) (sp : FS) (gD : List D → List D → List D) (ra : UAK) : UE := fun env S Q X => env[i]? = some (some (.ref C)) ∧ uMake C sp gD ra env S Q X
theorem de_makeV (i : Nat) (M : Mk X.K C f) (F : FnD X.prog X.w X.K X.mg X.base k f fd ps sp) (hr : Room (k + 1) X.A) (sh : Shp X.K fd ps (n + 1) ks gD) (ha : DArgs X es kws pos n ks ra) (hN : X.N[i]? = some x := by rfl) (hv : Vis X.env.scope x := by first | exact Or.inl rfl | exact Or.inr (Or.inl rfl) | exact Or.inr (Or.inr rfl)) (hd : (x == ("__debug__" : Str)) = false := by decide)
    (hcd : (x == ("__classdict__" : Str)) = false := by decide) :
    DE X (.Call (.Name x p) es kws pos) (uMakeV i C sp gD ra) := ⟨fun pins s σ H Q I ⟨env, S, Qd, W, hE, hA, hT, ⟨he, hu⟩, hk'⟩ => by
  refine wpAny_Call_Name_kw (thn ((pe_var hN hv hd hcd).run pins s σ H (fun v H1 => v = .ref C ∧ H1 = H) I ?_) fun u s1 ⟨v, H1, I1, r1, ev, eh⟩ => ?_)
  · obtain ⟨v, ev, r⟩ := hE.2 i _ he
    exact ⟨v, ev, rep_ref.mp r, rfl⟩
  · subst ev eh
    obtain rfl : u = Value.ref C := r1
    exact ha.run (.ref C) [] pins s1 σ H1 env S _ W _ M.kp I1 hE hA hT hu fun us vs ws zs ds es' s1 H1 S1 I1 t a r rr rz re l1 l2 q => run_mk M F hr sh I1 (hE.keep t) a (tstep hT t) r rr rz re l1 l2 q fun v d H' S' t2 r2 a2 q2 => hk' _ _ _ _ (t.trans t2) r2 a2 q2⟩
theorem de_prop {g pp : Addr} {fN : Str} (he : DE X o uo) (c : Cls X.K C) (hp : PropOf X.K C fN pp g) (F : FnD X.prog X.w X.K X.mg X.base k g fd ps sp) (hr : Room (k + 1) X.A) (hb : Binds X.K fd ps []) (h1 : ps.length = 1)
    (hab : attributeBase o fN X.env (eval o X.env) = eval o X.env := by rfl) : DE X (.Attribute o fN pos) (uProp C sp uo) :=
  pe_imp (pe_prop (E := E0) he c hp F hr hb .nil passNn hab) fun σ H Q ⟨env, S, Qd, W, hE, hA, hT, hu, hk'⟩ => ⟨env, S, _, W, hE, hA, hT, hu, fun v d H1 S1 t1 r1 a1 ⟨a, fs, ed, es, q⟩ => by
    subst ed
    rw [rep_ref] at r1; subst r1
    obtain ⟨dx, vfs, eh, rf⟩ := a1.getI es
    exact ⟨a, dx, vfs, rfl, eh, [.ref a], S1, Qd, noX, .cons (rep_ref.mpr rfl) .nil, a1, h1.symm, q, fun v d H' S' t r a2 q2 => hk' _ _ _ _ (t1.trans t) r a2 q2, fun _ _ _ _ _ _ _ _ z => z.elim⟩⟩
theorem de_cmeth {pl : Sem Bool} {g pp : Addr} {mc : Value} {rb : UA} (he : DE X o uo) (r : CRead X.K C mc) (c : CMet X.K C mc m pp g) (F : FnD X.prog X.w X.K X.mg X.base k g fd ps sp) (hr : Room k X.A) (hb : Binds X.K fd ps []) (ha : DA X (e :: es) rb) (hl : es.length + 2 = ps.length)
    (hst : starEach (e :: es) X.env = (false, eval e X.env) :: starEach es X.env := by rfl) (hpl : (backTo pos (starEach es X.env)).any (·.1) = false := by rfl)
    (ht : eval (.Call (.Attribute o m apos) (e :: es) [] pos) X.env = (do
      let ov ← eval o X.env
      standAt apos.atName
      let (f, first) ← holding [ov] (getMethod ov m pl)
      callWith pos f first (backTo pos (starEach (e :: es) X.env)) (backToKw pos (keywordEach [] X.env))) := by rfl) :
    DE X (.Call (.Attribute o m apos) (e :: es) [] pos) (uCMeth C (fun ds S Q X => ds.length = ps.length ∧ sp ds S Q X) uo rb) := ⟨fun pins s σ H Q I ⟨env, S, Qd, W, hE, hA, hT, hu, hk'⟩ => by
  refine PySem.W.methodCall_KW (pl := pl) (thn (PE.run he pins s σ H (fun v H1 => ∃ d S1, TK X.K H H1 ∧ Rep X.K H1 d v ∧ AbsS X.K H1 S1 ∧ d = .ref C ∧ rb env S1 (fun ds S2 => (D.ref C :: ds).length = ps.length ∧ sp (.ref C :: ds) S2 Qd (fun c fs S' => W c fs env S')) (fun c fs S' => W c fs env S')) I
    ⟨env, S, _, W, hE, hA, hT, hu, fun v d H1 S1 t r a q => ⟨d, S1, t, r, a, q⟩⟩) fun u s1 ⟨y, H1, I1, ry, d, S1, t1, rd, a1, ed, q⟩ => ?_) ht
  subst ed
  rw [rep_ref] at rd; subst rd
  obtain rfl : u = Value.ref C := ry
  refine getmethcm_ok I1 r c fun s2 I2 => ?_
  refine callwith_cm I2 (base_none I1 (Nat.le_refl _)) c.fi (thn (PA.run ha pos _ s2 σ H1 (fun vs H2 => ∃ ds S2, TK X.K H1 H2 ∧ RepL X.K H2 ds vs ∧ AbsS X.K H2 S2 ∧ (D.ref C :: ds).length = ps.length ∧ sp (.ref C :: ds) S2 Qd (fun c fs S' => W c fs env S')) I2
    ⟨env, S1, _, W, hE.keep t1, a1, tstep hT t1, q, fun vs ds H2 S2 t r a q => ⟨ds, S2, t, r, a, q⟩⟩) fun us s3 ⟨vs, H2, I3, rv, ds, S2, t2, rr, a2, l, q2⟩ => ⟨⟨pin_at I3, I3.kIn⟩, ?_⟩) hst hpl
  have tt := t1.trans t2
  have z := run_dC (us := .ref C :: us) (vs := .ref C :: vs) (ds := .ref C :: ds) (ws := []) (zs := []) (es := []) F hr (shp_plain hb) I3 (hE.keep tt) a2 (tstep hT tt) (.cons rfl rv) (.cons (rep_ref.mpr rfl) rr) .nil .nil l rfl q2 fun v d H' S' t3 r3 a3 q3 => hk' _ _ _ _ (tt.trans t3) r3 a3 q3
  have z' : wpAny (model X.prog X.w) X.A (call (.ref s1.heap.objs.size) us) (EP X ((s1.heap.objs.size, PySem.W.methodObj (.ref g) (.ref C)) :: pins) σ Q) X.xe s3 := wpAny_call (PySem.W.method_call (pin_at I3) z)
  exact thn z' fun _ _ y => unpinE y⟩
end
end SL

set_option Elab.async false
set_option linter.all false
set_option maxRecDepth 100000
set_option maxHeartbeats 4000000
/-! SL8: raise, try. -/
namespace SL
open PySem PySem.Spec L2 ClX


/-! ### an own error is made: nothing stands as its context -/
section
variable {X : Cx} {x : Str} {e : Expr} {es : List Expr} {ta : TA} {p pos : Pos} {C fI : Addr} {k : Nat} {fd : FuncData} {ps : List Str} {sp : Sp}
theorem made_end {pins : List (Addr × Obj)} {σ : L2.St} {G1 G2 : Hp} {Q : XK} {m0 m1 m2 : Heap} {y1 y2 : Array GenState} {w1 w2 : Drawn} {n1 n2 : Nat} {o1 o2 : OsState} {a d : Addr} {fs : List (Str × V)} (T : Raises X (.ref C))
    (I1 : Inv X pins σ G1 ⟨m0, y1, w1, n1, o1⟩) (ha : m0.objs.size ≤ a) (kk : ∀ b o, m0.get? b = some o → m1.get? b = some o) (un : Un (frs X.stack) [] (upd G1 a (exo a C none)) G2 m1 m2) (hok : HOk X.prog X.w G2 m2) (ho : o2 = o1) (hb : PyProof.Rows.AllBare y2)
    (ea : G2 a = some (exo a C (some d))) (ed : G2 d = some (exd d fs)) (hd1 : G1 d = none)
    (q : Q (.ref C) (some d) (upd (del G2 a) d (.xd fs))) : L2N.MkP X pins σ Q (.ref a) ⟨m2, y2, w2, n2, o2⟩ := by
  obtain ⟨t0, G, J, kG, ge, hoe, na⟩ := mk_end0 (d2 := w2) (t2 := n2) I1 ha kk un hok ho hb ea ed hd1
  refine ⟨a, _, _, ⟨G, y2, w2, n2, o2⟩, _, .ref C, some d, rfl, J, kG, ge, hoe, ⟨rfl, rfl, fun vs hv => ?_⟩, rfl, rfl, na, rfl, hb, T, q⟩
  cases hv; rfl
theorem pmk_oexN (T : OexC X.K C) (iC : PySem.W.findIn X.K (.ref C) "__init__" = some (some (.ref fI))) (tI : PySem.W.typeIn X.K (.ref fI) = some (.type "function")) (F1 : FnOk X.prog X.w X.K X.mg X.base (L2N.CX X.prog X.w) k fI fd ps sp)
    (hr : Room (k + 1) X.A) (hb : Binds X.K fd ps []) (hg : Gl X x) (hm : X.mg x = some (.ref C)) (ha : PA X (e :: es) ta) (hdb : (x == ("__debug__" : Str)) = false := by decide)
    (he : starEach (e :: es) X.env = (false, eval e X.env) :: starEach es X.env := by rfl) (hpl : (backTo pos (starEach es X.env)).any (·.1) = false := by rfl) : L2N.PMk X (.Call (.Name x p) (e :: es) [] pos) (tMkO C sp [] ta) := by
  intro pins s σ H Q I h
  obtain ⟨nm, q0, N0, bs0, bm, sn, sub, ab, col, dd, j0, j1, j2, j3, j5, hC, hbm⟩ := T.cls
  refine wpAny_Call_Name_kw (ld_glob I hg hm ?_ hdb)
  refine PySem.W.callWith_K (h₀ := X.base) I.ok.mod.kin T.kC (thn (ha.run pos pins s σ H _ I h) fun us s1 ⟨vs, G1, I1, r1, hz, q1⟩ => ⟨I1.kIn, ?_⟩) he hpl
  show wpAny _ _ (call (.ref C) us) _ _ _
  obtain ⟨m0, y1, w1, n1, o1⟩ := s1
  let a : Addr := m0.objs.size + 1
  let m1 : Heap := (m0.push (PySem.W.kdv_tup us)).push (PySem.HandSPX.excO C m0.objs.size)
  have hsz : m0.objs.size ≤ a := Nat.le_succ _
  have hn : G1 a = none := I1.hok.fresh hsz
  have hq := q1 a hn
  rw [List.append_nil] at hq
  have kk : ∀ b o, m0.get? b = some o → m1.get? b = some o := fun b o e => Heap.get?_push_of_some _ (Heap.get?_push_of_some _ e)
  have hget : m1.get? a = some (PySem.HandSPX.excO C m0.objs.size) := by
    show ((m0.push (PySem.W.kdv_tup us)).push (PySem.HandSPX.excO C m0.objs.size)).get? (m0.objs.size + 1) = _
    heap_get
  have I2 : Inv X pins σ (upd G1 a (exo a C none)) ⟨m1, y1, w1, n1, o1⟩ := I1.laid (t' := n1) (a := a) (o := exo a C none) (h' := m1) kk hsz (exo_ok hget)
  have r2 : Vals (V.ref a :: vs) (Value.ref a :: us) := .cons rfl r1
  have hl : (Value.ref a :: us).length = ps.length := by
    have e := r2.length
    rw [F1.len _ _ _ _ hq] at e
    exact e.symm
  have hus : us.length ≤ sizeLine := by rw [← Paired.length r1, sizeLine_eq]; omega
  have hbb := hb ⟨m1, y1, w1, n1, o1⟩ (Value.ref a :: us) I2.kIn (by rw [List.append_nil]; exact hl)
  rw [List.append_nil] at hbb
  have run := F1.run _ X.stack _ _ ⟨Value.ref a :: us, []⟩ (Value.ref a :: us) _ _ (fun _ _ _ => False) (hr.make C us []) (I2.env0.make C us []) hbb r2 hq
  refine wpAny_call (PySem.HandSPX.call_own F.excBase_ValueError (fun Y => PySem.HandSPX.refsVE_contains Y bm hbm) (I1.kIn _ _ hC) (PySem.W.looks_findIn I1.kIn iC) (fun self => PySem.W.bind_fn I1.kIn self tI) hus (codeAny_mono run fun r s' hq' => ?_))
  cases r with
  | error er =>
    obtain ⟨_, _, _, _, _, _, _, _, _, _, _, _, z⟩ := hq'
    exact z.elim
  | ok fl =>
    cases fl with
    | ret u =>
      obtain ⟨v, G2, os2, bare2, un2, hok2, rv, ev, d, fs, ea, ed, hd1, q2⟩ := hq'
      subst ev
      obtain ⟨m2, y2, w2, n2, o2⟩ := s'
      exact ⟨rv, made_end (raises_own T.exC T.tyC) I1 hsz kk un2 hok2 os2 bare2 ea ed hd1 q2⟩
    | next => exact hq'.elim
    | brk => exact hq'.elim
    | cont => exact hq'.elim
end
/-- what the __init__ of an exception's class promises: its arguments become the attributes ns -/
def spIni (C : Addr) (ns : List Str) : Sp := fun vs H Q _ => ∃ (a : Addr) (ys : List V), vs = .ref a :: ys ∧ ys.length = ns.length ∧ H a = some (exo a C none) ∧
  ∀ (dx : Addr) (H' : Hp), H dx = none → dx ≠ a → (∀ b, b ≠ dx → b ≠ a → H' b = H b) → H' dx = some (exd dx ((ns.zip ys).reverse)) → H' a = some (exo a C (some dx)) → Q .non H'
/-- a class of exceptions that keeps its arguments as the attributes ns -/
structure ExF (P : Program) (w : World) (K : PySem.W.Frag) (mg : Str → Option Value) (base : Heap) (x : Str) (C : Addr) (ns : List Str) : Prop where
  oex : OexC K C
  gC : mg x = some (.ref C)
  ini : ∃ fI fd ps, PySem.W.findIn K (.ref C) "__init__" = some (some (.ref fI)) ∧ PySem.W.typeIn K (.ref fI) = some (.type "function") ∧ FnOk P w K mg base (L2N.CX P w) 1 fI fd ps (spIni C ns) ∧ Binds K fd ps []
def usRaise (C : Addr) (ns : List Str) (ra : UA) : US := fun D env S => ra env S (fun ds S1 => ds.length = ns.length ∧ ns.length ≤ 1000 ∧ D.ex (.ref C) ((ns.zip ds).reverse) env S1) (fun c fs S1 => D.ex c fs env S1)
theorem fsr_zip {K : PySem.W.Frag} {H : Hp} : ∀ {ns : List Str} {ds : List D} {vs : List V}, RepL K H ds vs → ds.length = ns.length → FsR K H (ns.zip ds) (ns.zip vs)
  | [], ds, vs, r, l => ⟨rfl, .nil⟩
  | n :: ns, [], vs, r, l => by cases l
  | n :: ns, d :: ds, vs, r, l => by
    obtain ⟨v, t, e, h1, h2⟩ := repL_cons.mp r
    subst e
    have ih := fsr_zip (ns := ns) h2 (by simpa using l)
    exact ⟨by simp [ih.1], .cons h1 ih.2⟩
theorem FsR.rev {K : PySem.W.Frag} {H : Hp} {fs : Fs} {vfs : List (Str × V)} (h : FsR K H fs vfs) : FsR K H fs.reverse vfs.reverse :=
  ⟨by rw [List.map_reverse, List.map_reverse, h.1], by rw [List.map_reverse, List.map_reverse]; exact h.2.reverse⟩
section
variable {X : Cx} {k : Nat} {C : Addr} {x : Str} {ns : List Str} {p pos pos2 : Pos} {e : Expr} {es : List Expr} {ra : UA}
theorem ds_raise (hc : X.calm = true) (T : ExF X.prog X.w X.K X.mg X.base x C ns) (hr : Room 2 X.A) (ha : DA X (e :: es) ra) (hg : Gl X x := by rfl) (hdb : (x == ("__debug__" : Str)) = false := by decide)
    (he : starEach (e :: es) X.env = (false, eval e X.env) :: starEach es X.env := by rfl) (hpl : (backTo pos (starEach es X.env)).any (·.1) = false := by rfl) :
    DS X (.Raise (some (.Call (.Name x p) (e :: es) [] pos)) none pos2) (usRaise C ns ra) := by
  obtain ⟨fI, fd, ps, iC, tI, F1, hb⟩ := T.ini
  refine ⟨fun pins s σ H D I ⟨env, S, E, hE, hA, hT, hu, hn, hrt, hbk, hct⟩ => ?_⟩
  refine (L2N.ps_raise (W := lw X.K H E.ex) hc hT (pmk_oexN T.oex iC tI F1 hr hb hg T.gC ha hdb he hpl)).run pins s σ H D I ?_
  refine ⟨env, S, _, E.ex, hE, hA, hT, hu, fun vs ds H1 S1 t1 r1 a1 ⟨l1, l2, q⟩ => ⟨by rw [r1.length, l1]; exact l2, fun a na => ?_⟩⟩
  refine ⟨a, vs, by simp, by rw [r1.length, l1], upd_same, fun dx H2 ndx hne hoth hdx ha2 => ⟨rfl, dx, _, ha2, hdx, ?_, ?_⟩⟩
  · rw [upd_ne hne] at ndx; exact ndx
  · rw [upd_ne hne] at ndx
    have hs : Same H1 (upd (del H2 a) dx (.xd ((ns.zip vs).reverse))) := fun b o eb => by
      have hb1 : b ≠ a := ne_of_none eb na
      have hb2 : b ≠ dx := ne_of_none eb ndx
      rw [upd_ne hb2, del_ne hb1, hoth b hb2 hb1, upd_ne hb1]
      exact eb
    have t2 : TK X.K H1 _ := .of_same hs
    exact ⟨env, S1, _, t1.trans t2, (hE.keep t1).keep t2, a1.same hs, ⟨_, upd_same, ((fsr_zip r1 l1).keep t2).rev⟩, q⟩
end

/-! ### try -/
/-- the readings of a suite: nothing is raised there -/
def LS0 (K : PySem.W.Frag) (u : US) : TS := fun D σ H => ∃ env S E, EnvR K H env σ ∧ AbsS K H S ∧ (∀ c fs env S, E.ex c fs env S → False) ∧ u E env S ∧
  (∀ σ' H' env' S', TK K H H' → EnvR K H' env' σ' → AbsS K H' S' → E.nx env' S' → D.nx σ' H') ∧
  (∀ v d H' S', TK K H H' → Rep K H' d v → AbsS K H' S' → E.rt d S' → D.rt v H') ∧
  (∀ σ' H' env' S', TK K H H' → EnvR K H' env' σ' → AbsS K H' S' → E.bk env' S' → D.bk σ' H') ∧
  (∀ σ' H' env' S', TK K H H' → EnvR K H' env' σ' → AbsS K H' S' → E.ct env' S' → D.ct σ' H')
theorem ls0 {X : Cx} {b : List Stmt} {u : US} (h : DB X b u) : PSs X b (LS0 X.K u) := pss_imp h fun D σ H ⟨env, S, E, hE, hA, hF, hu, r⟩ => ⟨env, S, E, hE, hA, fun u s' x => by
  obtain ⟨a, B, sI, pins, σ, H', cls, d, _, _, _, _, _, _, _, _, w⟩ := x
  obtain ⟨_, _, _, _, _, _, _, f⟩ := w
  exact (hF _ _ _ _ f).elim, hu, r⟩
/-- the readings of a try's body: W what its exceptions are to do -/
def LSt (K : PySem.W.Frag) (u : US) (W : WX) : TS := fun D σ H => ∃ env S E, EnvR K H env σ ∧ AbsS K H S ∧ (∀ c d σ' H', lw K H E.ex c d σ' H' → W c d σ' H') ∧ u E env S ∧
  (∀ σ' H' env' S', TK K H H' → EnvR K H' env' σ' → AbsS K H' S' → E.nx env' S' → D.nx σ' H') ∧
  (∀ v d H' S', TK K H H' → Rep K H' d v → AbsS K H' S' → E.rt d S' → D.rt v H') ∧
  (∀ σ' H' env' S', TK K H H' → EnvR K H' env' σ' → AbsS K H' S' → E.bk env' S' → D.bk σ' H') ∧
  (∀ σ' H' env' S', TK K H H' → EnvR K H' env' σ' → AbsS K H' S' → E.ct env' S' → D.ct σ' H')
theorem lst_of {X : Cx} {b : List Stmt} {u : US} {W : WX} (h : DB X b u) (tk : L2N.Takes X W) : PSs X b (LSt X.K u W) := pss_imp h fun D σ H ⟨env, S, E, hE, hA, hF, hu, r⟩ => ⟨env, S, E, hE, hA, tk.imp hF, hu, r⟩
/-- what becomes of an exception: h the suite -/
def tryX (K : PySem.W.Frag) (c : Value) (D : EndsS) (h : Addr → Value → Option Addr → Fs → En → SS → Prop) : QXE := fun cls fs env' S' =>
  ∃ b, PySem.W.exmOne K cls c = some b ∧ (b = true → ∀ a dd, h a cls dd fs env' S') ∧ (b = false → D.ex cls fs env' S')
def tryD (D : EndsS) (q : QXE) : EndsS := { nx := D.nx, rt := D.rt, bk := D.bk, ct := D.ct, ex := q }
def asD (i : Nat) (D : EndsS) : EndsS := { nx := fun env2 S2 => D.nx (env2.set i none) S2, rt := D.rt, bk := fun env2 S2 => D.bk (env2.set i none) S2, ct := fun env2 S2 => D.ct (env2.set i none) S2, ex := fun _ _ _ _ => False }
/-- try: ub except C as i: us -/
def usTryAs (K : PySem.W.Frag) (c : Value) (i : Nat) (ub : US) (us : Addr → Value → Option Addr → US) : US := fun D env S =>
  ub (tryD D (tryX K c D fun a cls dd fs env' S' => us a cls dd (asD i D) (env'.set i (some (.exc a dd (fs.map (·.1)) (fs.map (·.2))))) S')) env S
/-- try: ub except C: us -/
def usTry (K : PySem.W.Frag) (c : Value) (ub : US) (us : Addr → Value → Option Addr → US) : US := fun D env S =>
  ub (tryD D (tryX K c D fun a cls dd fs env' S' => us a cls dd (tryD D fun _ _ _ _ => False) env' S')) env S
/-- e.f, e the exception that is handled, its own dict dd -/
def uExF (a C : Addr) (cls : Value) (dd : Option Addr) (f : Str) (u : UE) : UE := fun env S Q X => cls = .ref C ∧ u env S (fun d S1 => ∃ ks ds y, d = .exc a dd ks ds ∧ (ks.zip ds).lookup f = some y ∧ Q y S1) X
theorem rep_exc {K : PySem.W.Frag} {H : Hp} {a : Addr} {d : Option Addr} {fs : Fs} (h : XR K H d fs) : Rep K H (.exc a d (fs.map (·.1)) (fs.map (·.2))) (.ref a) := by
  cases d with
  | none => subst h; exact ⟨[], rfl, (fun _ => rfl), (fun _ z => by cases z), rfl, .nil⟩
  | some dx =>
    obtain ⟨vfs, e, r⟩ := h
    exact ⟨vfs, rfl, (fun z => by cases z), (fun dx' ed => by cases ed; exact e), r.1, r.2⟩
section
variable {X : Cx} {x n : Str} {c : Value} {body suite : List Stmt} {b₀ : Stmt} {np pos pos' : Pos} {ub : US} {us : Addr → Value → Option Addr → US}
theorem hot_of {X : Cx} {a : Addr} {oe : Obj} {cls : Value} {d : Option Addr} {pn : List (Addr × Obj)} (hz : L2N.Zn cls d oe) (hd : ∃ vs, oe.data = .fields vs) : L2H.HotC (X.suite a ((a, oe) :: pn)) :=
  let ⟨vs, e⟩ := hd; ⟨(a, oe), ⟨rfl, vs, e, hz.2.2 vs e⟩, List.mem_cons_self⟩
theorem ds_try_as (i : Nat) (hs : X.stack = X.env :: X.outer) (hf : X.env.frame = some X.env.locals) (hN : X.N.Nodup) (hc : Names X x c)
    (hb : ∀ (pn : List (Addr × Obj)) (xe : Value → Shared → Prop), PassesOwn (model X.prog X.w) X.A X.env xe → DB (X.tr pn xe) body ub)
    (hsu : ∀ (a : Addr) (oe : Obj) (cls : Value) (d : Option Addr) (pn : List (Addr × Obj)), Zc cls d oe → (∃ vs, oe.data = .fields vs) → L2H.HotC (X.suite a ((a, oe) :: pn)) → DB (X.suite a ((a, oe) :: pn)) (b₀ :: suite) (us a cls d)) (hi : X.N[i]? = some n := by rfl) (hln : X.env.kindOf n = some .local := by rfl) :
    DS X (.Try body [.ExceptHandler (some (.Name x np)) (some n) (b₀ :: suite) pos'] [] [] pos) (usTryAs X.K c i ub us) := ⟨fun pins s σ H D I ⟨env, S, E, hE, hA, hT, hu, hn, hr, hbk, hct⟩ =>
  (L2N.ps_try_as (i := i) (tb := fun W => LSt X.K ub W) (ts := fun a cls d => LS0 X.K (us a cls d)) (Wout := lw X.K H E.ex) hs hf hN hi hln hc hT (fun W pn xe tk po => lst_of (X := X.tr pn xe) (hb pn xe po) tk) (fun a oe cls d pn hz hd => ls0 (hsu a oe cls d pn hz.zc hd (hot_of hz hd)))).run pins s σ H D I
    ⟨env, S, _, hE, hA, fun cls d σ' H' ⟨env', S', fs, t, hE', hA', hX, hw⟩ => let ⟨b, eb, h1, h2⟩ := hw; ⟨b, eb, fun hb a na => ⟨_, S', _, hE'.set (rep_exc hX), hA', fun _ _ _ _ z => z, h1 hb a d,
        fun σ2 H2 env2 S2 t2 e2 a2 q => hn _ _ _ _ (t.trans t2) e2.unset a2 q, fun v d2 H2 S2 t2 r2 a2 q => hr _ _ _ _ (t.trans t2) r2 a2 q, fun σ2 H2 env2 S2 t2 e2 a2 q => hbk _ _ _ _ (t.trans t2) e2.unset a2 q, fun σ2 H2 env2 S2 t2 e2 a2 q => hct _ _ _ _ (t.trans t2) e2.unset a2 q⟩,
      fun hb => ⟨env', S', fs, t, hE', hA', hX, h2 hb⟩⟩, hu, hn, hr, hbk, hct⟩⟩
theorem ds_try (hs : X.stack = X.env :: X.outer) (hf : X.env.frame = some X.env.locals) (hc : Names X x c)
    (hb : ∀ (pn : List (Addr × Obj)) (xe : Value → Shared → Prop), PassesOwn (model X.prog X.w) X.A X.env xe → DB (X.tr pn xe) body ub)
    (hsu : ∀ (a : Addr) (oe : Obj) (cls : Value) (d : Option Addr) (pn : List (Addr × Obj)), Zc cls d oe → (∃ vs, oe.data = .fields vs) → L2H.HotC (X.suite a ((a, oe) :: pn)) → DB (X.suite a ((a, oe) :: pn)) (b₀ :: suite) (us a cls d)) :
    DS X (.Try body [.ExceptHandler (some (.Name x np)) none (b₀ :: suite) pos'] [] [] pos) (usTry X.K c ub us) := ⟨fun pins s σ H D I ⟨env, S, E, hE, hA, hT, hu, hn, hr, hbk, hct⟩ =>
  (L2N.ps_try_many (tb := fun W => LSt X.K ub W) (l := [(c, fun a cls d => LS0 X.K (us a cls d))]) (Wout := lw X.K H E.ex) hs hf hT (fun W pn xe tk po => lst_of (X := X.tr pn xe) (hb pn xe po) tk) (.cons hc (fun a oe cls d pn hz hd => ls0 (hsu a oe cls d pn hz.zc hd (hot_of hz hd))) .nil)).run pins s σ H D I
    ⟨env, S, _, hE, hA, fun cls d σ' H' ⟨env', S', fs, t, hE', hA', hX, hw⟩ => let ⟨b, eb, h1, h2⟩ := hw; ⟨b, eb, fun hb a na => ⟨_, S', _, hE', hA', fun _ _ _ _ z => z, h1 hb a d,
        fun σ2 H2 env2 S2 t2 e2 a2 q => hn _ _ _ _ (t.trans t2) e2 a2 q, fun v d2 H2 S2 t2 r2 a2 q => hr _ _ _ _ (t.trans t2) r2 a2 q, fun σ2 H2 env2 S2 t2 e2 a2 q => hbk _ _ _ _ (t.trans t2) e2 a2 q, fun σ2 H2 env2 S2 t2 e2 a2 q => hct _ _ _ _ (t.trans t2) e2 a2 q⟩,
      fun hb => ⟨env', S', fs, t, hE', hA', hX, h2 hb⟩⟩, hu, hn, hr, hbk, hct⟩⟩
/-- what the written part says of an exception's class, for reading attributes of one that is handled -/
structure ExG (K : PySem.W.Frag) (C : Addr) (f : Str) : Prop where
  ga : PySem.W.findIn K (.ref C) "__getattribute__" = some (some (.builtin "BaseException.__getattribute__"))
  gg : PySem.W.findIn K (.ref C) "__getattr__" = some none
  no : PySem.W.findIn K (.ref C) f = some none
  exC : PySem.W.subIn K (.ref C) (.type "BaseException") = some true
  hd : PySem.W.hasDictIn K C = true
/-- e.f in a suite -/
theorem de_exf {a C : Addr} {oe : Obj} {cls : Value} {d : Option Addr} {pn : List (Addr × Obj)} {e : Expr} {f : Str} {u : UE} {pos : Pos} (T : ExG X.K C f) (hz : Zc cls d oe) (hf : ∃ vs, oe.data = .fields vs) (he : DE (X.suite a ((a, oe) :: pn)) e u)
    (hb : attributeBase e f X.env (eval e X.env) = eval e X.env := by rfl) :
    DE (X.suite a ((a, oe) :: pn)) (.Attribute e f pos) (uExF a C cls d f u) := ⟨fun pins s σ H Q I ⟨env, S, Qd, W, hE, hA, hT, ⟨ec, hu⟩, hk⟩ => by
  refine attr_of hb (thn (PE.run he pins s σ H (fun v H1 => ∃ dv S1, TK X.K H H1 ∧ Rep X.K H1 dv v ∧ AbsS X.K H1 S1 ∧ ∃ ks ds y, dv = .exc a d ks ds ∧ (ks.zip ds).lookup f = some y ∧ Qd y S1) I ⟨env, S, _, W, hE, hA, hT, hu, fun v dv H1 S1 t r a q => ⟨dv, S1, t, r, a, q⟩⟩)
    fun w s1 ⟨x, H1, I1, rx, dv, S1, t1, rd, a1, ks, ds, y, ed, hl, q⟩ => ?_)
  subst ed ec
  obtain ⟨vfs, ex, h0, h1, h2, h3⟩ := rd
  subst ex
  obtain rfl : w = Value.ref a := rx
  obtain ⟨ha, _⟩ := I1.pin (a, oe) (List.mem_append_left _ List.mem_cons_self)
  obtain ⟨ws, hd⟩ := hf
  have hfs : FsR X.K H1 (ks.zip ds) vfs := by
    have l : ds.length = ks.length := by rw [← h2, ← h3.length]; simp
    refine ⟨?_, ?_⟩
    · rw [List.map_fst_zip (by omega), h2]
    · rw [List.map_snd_zip (by omega)]; exact h3
  obtain ⟨v, hv, rv⟩ := hfs.lookup hl
  cases d with
  | none =>
    have := h0 rfl
    subst this
    simp at hl
  | some dd =>
    have ea := h1 dd rfl
    have hx : ObjOk X.prog X.w H1 s1.heap dd (.xd vfs) := I1.hok dd _ ea
    obtain ⟨mA, hns, hr⟩ := hx
    obtain ⟨od, ho, hlk⟩ := lookIn_ns hns
    obtain ⟨u2, hu2, ru⟩ := RelO.some_of (v := v) (o := mA f) (by rw [← hv]; exact hr f)
    have J : PySem.W.InstAt s1.heap a oe C (some od) := ⟨ha, hz.1, by unfold PySem.W.notCls; rw [hd] <;> rfl, by rw [hz.2]; exact ho⟩
    exact HandSPX.exc_get I1.kIn J T.ga T.gg T.exC (PySem.W.findObj_own T.hd T.no rfl (by rw [hlk, hu2])) (handed_of ru) ⟨v, H1, I1.tok _, ru, hk _ _ _ _ t1 rv a1 q⟩⟩
end
end SL

set_option Elab.async false
set_option linter.all false
set_option maxRecDepth 100000
set_option maxHeartbeats 4000000
/-! SL9: built-in functions, methods of texts and lists. -/
namespace SL
open PySem PySem.Spec L2

/-! ### built-in functions -/
abbrev GF := List D → SS → QN → Prop
def rDV (K : PySem.W.Frag) (g : GF) : List V → Hp → VK → Prop := fun xs H Q => ∃ S ds Qd, AbsS K H S ∧ RepL K H ds xs ∧ g ds S Qd ∧ ∀ v d H' S', TK K H H' → Rep K H' d v → AbsS K H' S' → Qd d S' → Q v H'
def uFn (g : GF) (ra : UA) : UE := fun env S Q X => ra env S (fun ds S1 => g ds S1 Q) X
/-- a pure one -/
def gP (f : SS → List D → Option D) : GF := fun ds S Q => ∃ z, f S ds = some z ∧ Q z S
def lenD (S : SS) : D → Option Int
  | .str x => if x.length ≤ sizeLine then some x.length else none
  | .tup xs => some xs.length
  | .ref a => match S a with
    | some (.lst xs) => some xs.length
    | some (.rol xs) => some xs.length
    | _ => none
  | _ => none
def fLen : SS → List D → Option D
  | S, [d] => (lenD S d).map .int
  | _, _ => none
def fInt : SS → List D → Option D
  | _, [.int i] => some (.int i)
  | _, [.bl b] => some (.int (if b then 1 else 0))
  | _, [.str x] => if x.length ≤ 640 then (PySem.intText? (tx x)).map .int else none
  | _, _ => none
/-- the figures of a number -/
def dig (i : Int) : List Nat := cs (toString i)
def fStr : SS → List D → Option D
  | _, [.int i] => if i.natAbs.log2 < 1920 then some (.str (dig i)) else none
  | _, _ => none
def fTup : SS → List D → Option D
  | S, [d] => (seqOf S d).map .tup
  | _, _ => none
def gLst : GF := fun ds S Q => ∃ d xs, ds = [d] ∧ seqOf S d = some xs ∧ ∀ p, S p = none → Q (.ref p) (sup S p (.lst xs))
def fMin : SS → List D → Option D
  | _, [.int i, .int j] => some (.int (if j < i then j else i))
  | _, _ => none
def fMax : SS → List D → Option D
  | _, [.int i, .int j] => some (.int (if j > i then j else i))
  | _, _ => none
def fAbs : SS → List D → Option D
  | _, [.int i] => some (.int (if i < 0 then -i else i))
  | _, _ => none
def intsOf : List D → Option (List Int)
  | [] => some []
  | .int i :: r => (intsOf r).map (i :: ·)
  | _ => none
def fSum : SS → List D → Option D
  | S, [d] => ((seqOf S d).bind intsOf).map fun l => .int l.sum
  | _, _ => none
section
variable {X : Cx}
theorem gp_of {fv : Value} {f : SS → List D → Option D} (h : ∀ (pins : List (Addr × Obj)) (s : Shared) (σ : L2.St) (H : Hp) (xs : List V) (us : List Value) (Q : VK) (S : SS) (ds : List D) (z : D), Inv X pins σ H s → Vals xs us → AbsS X.K H S → RepL X.K H ds xs → f S ds = some z →
    (∀ v H', Same H H' → Rep X.K H' z v → Q v H') → wpAny (model X.prog X.w) X.A (call fv us) (EP X pins σ Q) X.xe s) : CallR X fv (rDV X.K (gP f)) := fun pins s σ H xs us Q I r ⟨S, ds, Qd, hA, rr, ⟨z, hz, q⟩, hk⟩ =>
  h pins s σ H xs us Q S ds z I r hA rr hz fun v H' sm rz => hk v z H' S (.of_same sm) rz (hA.same sm) q
theorem rep1 {K : PySem.W.Frag} {H : Hp} {d : D} {xs : List V} (h : RepL K H [d] xs) : ∃ v, xs = [v] ∧ Rep K H d v := by
  obtain ⟨v, r, e, h1, h2⟩ := repL_cons.mp h
  rw [repL_nil] at h2; subst h2
  exact ⟨v, e, h1⟩
theorem rep2 {K : PySem.W.Frag} {H : Hp} {d d' : D} {xs : List V} (h : RepL K H [d, d'] xs) : ∃ v v', xs = [v, v'] ∧ Rep K H d v ∧ Rep K H d' v' := by
  obtain ⟨v, r, e, h1, h2⟩ := repL_cons.mp h
  obtain ⟨v', e', h3⟩ := rep1 h2
  subst e'
  exact ⟨v, v', e, h1, h3⟩
theorem cd_len : CallR X (.builtin "len") (rDV X.K (gP fLen)) := gp_of fun pins s σ H xs us Q S ds z I r hA rr hz k => by
  unfold fLen at hz
  split at hz
  · rename_i S' d
    obtain ⟨v, rfl, rv⟩ := rep1 rr
    rw [Option.map_eq_some_iff] at hz
    obtain ⟨n, hn, rfl⟩ := hz
    cases d with
    | str x =>
      rw [rep_str] at rv; subst rv
      simp only [lenD] at hn
      split at hn
      · rename_i hl
        cases hn
        exact call_len_str pins s σ H _ us Q I r ⟨_, rfl, by rw [tx_len]; exact hl, k _ H (Same.refl H) (rep_int.mpr (by rw [tx_len]))⟩
      · cases hn
    | tup ys =>
      obtain ⟨a, vs, rfl, q, r2⟩ := rep_tup.mp rv
      cases hn
      exact call_len_seq pins s σ H _ us Q I r ⟨a, vs, rfl, .inr q, k _ H (Same.refl H) (rep_int.mpr (by rw [r2.length]))⟩
    | ref a =>
      rw [rep_ref] at rv; subst rv
      simp only [lenD] at hn
      split at hn
      · rename_i ys e
        cases hn
        obtain ⟨vs, q, r2⟩ := hA.getL e
        exact call_len_seq pins s σ H _ us Q I r ⟨a, vs, rfl, .inl (.of q), k _ H (Same.refl H) (rep_int.mpr (by rw [r2.length]))⟩
      · rename_i ys e
        cases hn
        obtain ⟨vs, q, r2⟩ := hA.getR e
        exact call_len_seq pins s σ H _ us Q I r ⟨a, vs, rfl, .inl (.inl q), k _ H (Same.refl H) (rep_int.mpr (by rw [r2.length]))⟩
      · cases hn
    | _ => simp [lenD] at hn
  · cases hz
theorem cd_int : CallR X (.type "int") (rDV X.K (gP fInt)) := gp_of fun pins s σ H xs us Q S ds z I r hA rr hz k => by
  unfold fInt at hz
  split at hz
  · cases hz
    obtain ⟨v, rfl, rv⟩ := rep1 rr
    rw [rep_int] at rv; subst rv
    exact call_int1 pins s σ H _ us Q I r (.inl ⟨_, rfl, k _ H (Same.refl H) (rep_int.mpr rfl)⟩)
  · cases hz
    obtain ⟨v, rfl, rv⟩ := rep1 rr
    rw [rep_bl] at rv; subst rv
    exact call_int1 pins s σ H _ us Q I r (.inr ⟨_, rfl, k _ H (Same.refl H) (rep_int.mpr rfl)⟩)
  · split at hz
    · rename_i hl
      rw [Option.map_eq_some_iff] at hz
      obtain ⟨n, hn, rfl⟩ := hz
      obtain ⟨v, rfl, rv⟩ := rep1 rr
      rw [rep_str] at rv; subst rv
      exact call_int_str pins s σ H _ us Q I r ⟨_, _, rfl, hn, by rw [tx_len]; exact hl, k _ H (Same.refl H) (rep_int.mpr rfl)⟩
    · cases hz
  · cases hz
theorem cd_str : CallR X (.type "str") (rDV X.K (gP fStr)) := gp_of fun pins s σ H xs us Q S ds z I r hA rr hz k => by
  unfold fStr at hz
  split at hz
  · split at hz
    · rename_i hl
      cases hz
      obtain ⟨v, rfl, rv⟩ := rep1 rr
      rw [rep_int] at rv; subst rv
      exact call_str_int pins s σ H _ us Q I r ⟨_, rfl, hl, k _ H (Same.refl H) (rep_str.mpr (by unfold dig; rw [tx_cs]))⟩
    · cases hz
  · cases hz
theorem cd_tup : CallR X (.type "tuple") (rDV X.K (gP fTup)) := gp_of fun pins s σ H xs us Q S ds z I r hA rr hz k => by
  unfold fTup at hz
  split at hz
  · rename_i S' d
    obtain ⟨v, rfl, rv⟩ := rep1 rr
    rw [Option.map_eq_some_iff] at hz
    obtain ⟨ys, hn, rfl⟩ := hz
    obtain ⟨a, vs, rfl, q, r2⟩ := seqOf_rep hA rv hn
    rcases q with q | q
    · exact call_tuple_of pins s σ H _ us Q I r ⟨a, vs, rfl, .inl ⟨q, fun l hl => k _ _ (Same.new hl) (.newTup hl r2)⟩⟩
    · exact call_tuple_of pins s σ H _ us Q I r ⟨a, vs, rfl, .inr ⟨q, k _ H (Same.refl H) (.tup q r2)⟩⟩
  · cases hz
theorem cd_list : CallR X (.type "list") (rDV X.K gLst) := fun pins s σ H xs us Q I r ⟨S, ds, Qd, hA, rr, ⟨d, ys, e, hn, q⟩, hk⟩ => by
  subst e
  obtain ⟨v, rfl, rv⟩ := rep1 rr
  obtain ⟨a, vs, rfl, q2, r2⟩ := seqOf_rep hA rv hn
  exact call_list_of pins s σ H _ us Q I r ⟨a, vs, rfl, q2, fun l hl => hk _ _ _ _ (.new hl) (rep_ref.mpr rfl) (hA.newL hl r2) (q l (hA.fresh hl))⟩
theorem cd_min (hc : X.calm = true) : CallR X (.builtin "min") (rDV X.K (gP fMin)) := gp_of fun pins s σ H xs us Q S ds z I r hA rr hz k => by
  unfold fMin at hz
  split at hz
  · cases hz
    obtain ⟨v, v', rfl, rv, rv'⟩ := rep2 rr
    rw [rep_int] at rv rv'; subst rv; subst rv'
    exact call_min2 hc pins s σ H _ us Q I r ⟨_, _, rfl, k _ H (Same.refl H) (rep_int.mpr rfl)⟩
  · cases hz
theorem cd_max (hc : X.calm = true) : CallR X (.builtin "max") (rDV X.K (gP fMax)) := gp_of fun pins s σ H xs us Q S ds z I r hA rr hz k => by
  unfold fMax at hz
  split at hz
  · cases hz
    obtain ⟨v, v', rfl, rv, rv'⟩ := rep2 rr
    rw [rep_int] at rv rv'; subst rv; subst rv'
    exact call_max2 hc pins s σ H _ us Q I r ⟨_, _, rfl, k _ H (Same.refl H) (rep_int.mpr rfl)⟩
  · cases hz
theorem cd_abs : CallR X (.builtin "abs") (rDV X.K (gP fAbs)) := gp_of fun pins s σ H xs us Q S ds z I r hA rr hz k => by
  unfold fAbs at hz
  split at hz
  · cases hz
    obtain ⟨v, rfl, rv⟩ := rep1 rr
    rw [rep_int] at rv; subst rv
    exact call_abs pins s σ H _ us Q I r ⟨_, rfl, k _ H (Same.refl H) (rep_int.mpr rfl)⟩
  · cases hz
variable {x : Str} {p pos apos cpos : Pos} {e o : Expr} {es : List Expr} {ra : UA} {uo u : UE} {g : GF} {id T : String}
theorem de_fnB (hc : CallR X (.builtin id) (rDV X.K g)) (hm : X.mg x = none) (hv : bootBuiltins x = some (.builtin id)) (ha : DA X (e :: es) ra) (hg : Gl X x := by rfl) (hn : x ≠ "__name__" := by decide) (hdb : (x == ("__debug__" : Str)) = false := by decide)
    (he : starEach (e :: es) X.env = (false, eval e X.env) :: starEach es X.env := by rfl) (hpl : (backTo pos (starEach es X.env)).any (·.1) = false := by rfl) : DE X (.Call (.Name x p) (e :: es) [] pos) (uFn g ra) :=
  pe_imp (pe_callB hc hg hm hv ha hn hdb he hpl) fun σ H Q ⟨env, S, Qd, W, hE, hA, hT, hu, hk⟩ => ⟨env, S, _, W, hE, hA, hT, hu, fun vs ds H1 S1 t1 r1 a1 q1 => ⟨S1, ds, Qd, a1, r1, q1, fun v d H' S' t r a q => hk _ _ _ _ (t1.trans t) r a q⟩⟩
theorem de_fnT (hc : CallR X (.type T) (rDV X.K g)) (hm : X.mg x = none) (hv : bootBuiltins x = some (.type T)) (ha : DA X (e :: es) ra) (hg : Gl X x := by rfl) (hn : x ≠ "__name__" := by decide) (hdb : (x == ("__debug__" : Str)) = false := by decide)
    (he : starEach (e :: es) X.env = (false, eval e X.env) :: starEach es X.env := by rfl) (hpl : (backTo pos (starEach es X.env)).any (·.1) = false := by rfl) : DE X (.Call (.Name x p) (e :: es) [] pos) (uFn g ra) :=
  pe_imp (pe_callTy hc hg hm hv ha hn hdb he hpl) fun σ H Q ⟨env, S, Qd, W, hE, hA, hT, hu, hk⟩ => ⟨env, S, _, W, hE, hA, hT, hu, fun vs ds H1 S1 t1 r1 a1 q1 => ⟨S1, ds, Qd, a1, r1, q1, fun v d H' S' t r a q => hk _ _ _ _ (t1.trans t) r a q⟩⟩
end

/-! ### isinstance of built-in types -/
def tyOf (S : SS) : D → Option String
  | .non => some "NoneType"
  | .bl _ => some "bool"
  | .int _ => some "int"
  | .str _ => some "str"
  | .tup _ => some "tuple"
  | .ref a => match S a with
    | some (.lst _) => some "list"
    | some (.rol _) => some "list"
    | _ => none
  | _ => none
def isT (t T : String) : Bool := t == T || (t == "bool" && T == "int")
def tyS : List String := ["NoneType", "bool", "int", "str", "list", "tuple", "dict"]
theorem kit_isT (T : String) (h2 : T ∈ ["int", "str", "bool", "tuple", "list"]) : ∀ t ∈ tyS, kitB t T = some (isT t T) := by
  have : ∀ T ∈ ["int", "str", "bool", "tuple", "list"], ∀ t ∈ tyS, kitB t T = some (isT t T) := by decide +kernel
  exact this T h2
theorem tyOf_rep {K : PySem.W.Frag} {H : Hp} {S : SS} {d : D} {v : V} {t : String} (hA : AbsS K H S) (r : Rep K H d v) (h : tyOf S d = some t) : TyX K H v (.type t) ∧ t ∈ tyS := by
  have lst : ∀ {a : Addr} {vs : List V}, Rd H a (.lst vs) → TyX K H (.ref a) (.type "list") := fun {a vs} h => by
    rcases h with h | ⟨o, h⟩
    · exact .base (.lst h)
    · exact .base (.frz h)
  cases d with
  | non => rw [rep_non] at r; subst r; cases h; exact ⟨.base .non, by decide⟩
  | bl b => rw [rep_bl] at r; subst r; cases h; exact ⟨.base (.bl _), by decide⟩
  | int b => rw [rep_int] at r; subst r; cases h; exact ⟨.base (.int _), by decide⟩
  | str b => rw [rep_str] at r; subst r; cases h; exact ⟨.base (.str _), by decide⟩
  | tup xs =>
    obtain ⟨a, vs, rfl, q, rr⟩ := rep_tup.mp r
    cases h
    refine ⟨?_, by decide⟩
    rcases q with (q | ⟨o, q⟩) | ⟨o, its, n, q, hc, _⟩
    · exact .base (.tup q)
    · exact .fTuple q
    · exact .kTuple q hc
  | ref a =>
    rw [rep_ref] at r; subst r
    simp only [tyOf] at h
    split at h
    · rename_i xs e
      cases h
      obtain ⟨vs, q, _⟩ := hA.getL e
      exact ⟨lst (.inl q), by decide⟩
    · rename_i xs e
      cases h
      obtain ⟨vs, q, _⟩ := hA.getR e
      exact ⟨lst q, by decide⟩
    · cases h
  | exc _ _ _ _ => cases h
  | kl _ => cases h
def uIsi (Ts : List String) (u : UE) : UE := fun env S Q X => u env S (fun d S1 => ∃ t, tyOf S1 d = some t ∧ Q (.bl (Ts.any (isT t))) S1) X
section
variable {X : Cx} {p p2 p3 pos : Pos} {e : Expr} {u : UE} {T T2 : String} {x x2 : Str}
theorem de_isi (he : DE X e u) (hm : X.mg "isinstance" = none) (hmT : X.mg x = none) (hv : bootBuiltins x = some (.type T)) (hT : T ∈ ["int", "str", "bool", "tuple", "list"] := by decide) (hg : Gl X "isinstance" := by rfl) (hgT : Gl X x := by rfl) (hn : x ≠ "__name__" := by decide) (hd : (x == ("__debug__" : Str)) = false := by decide)
    (hs1 : starEach [e, .Name x p2] X.env = (false, eval e X.env) :: starEach [.Name x p2] X.env := by rfl) (hs2 : starEach [.Name x p2] X.env = (false, eval (.Name x p2) X.env) :: starEach [] X.env := by rfl) (hpl : (backTo pos (starEach [.Name x p2] X.env)).any (·.1) = false := by rfl) :
    DE X (.Call (.Name "isinstance" p) [e, .Name x p2] [] pos) (uIsi [T] u) :=
  pe_imp (pe_callB call_isi hg hm (by decide +kernel) (pa_cons he (pa_cons (pe_bltn (v := .ty T) hgT hmT hv rfl hn hd) pa_nil hs2) hs1) (by decide) (by decide) hs1 hpl) fun σ H Q ⟨env, S, Qd, W, hE, hA, hT', hu, hk⟩ =>
    ⟨env, S, _, W, hE, hA, hT', hu, fun v d H1 S1 t1 r1 a1 ⟨t, ht, q⟩ => ⟨v, .ty T, .type t, .type T, isT t T, rfl, .ty T, (tyOf_rep a1 r1 ht).1, kit_ty (kit_isT T hT t (tyOf_rep a1 r1 ht).2), hk _ _ _ _ t1 (rep_bl.mpr (by simp)) a1 q⟩⟩
theorem de_isi2 (he : DE X e u) (hm : X.mg "isinstance" = none) (hmT : X.mg x = none) (hv : bootBuiltins x = some (.type T)) (hmT2 : X.mg x2 = none) (hv2 : bootBuiltins x2 = some (.type T2)) (hT : T ∈ ["int", "str", "bool", "tuple", "list"] := by decide) (hT2 : T2 ∈ ["int", "str", "bool", "tuple", "list"] := by decide)
    (hg : Gl X "isinstance" := by rfl) (hgT : Gl X x := by rfl) (hgT2 : Gl X x2 := by rfl) (hn : x ≠ "__name__" := by decide) (hd : (x == ("__debug__" : Str)) = false := by decide) (hn2 : x2 ≠ "__name__" := by decide) (hd2 : (x2 == ("__debug__" : Str)) = false := by decide) {k : Nat} {p4 : Pos}
    (hs1 : starEach [e, .Tuple [.Name x p2, .Name x2 p3] k p4] X.env = (false, eval e X.env) :: starEach [.Tuple [.Name x p2, .Name x2 p3] k p4] X.env := by rfl)
    (hs2 : starEach [.Tuple [.Name x p2, .Name x2 p3] k p4] X.env = (false, eval (.Tuple [.Name x p2, .Name x2 p3] k p4) X.env) :: starEach [] X.env := by rfl)
    (hs3 : starEach [.Name x p2, .Name x2 p3] X.env = (false, eval (.Name x p2) X.env) :: starEach [.Name x2 p3] X.env := by rfl) (hs4 : starEach [.Name x2 p3] X.env = (false, eval (.Name x2 p3) X.env) :: starEach [] X.env := by rfl) (hpl : (backTo pos (starEach [.Tuple [.Name x p2, .Name x2 p3] k p4] X.env)).any (·.1) = false := by rfl) :
    DE X (.Call (.Name "isinstance" p) [e, .Tuple [.Name x p2, .Name x2 p3] k p4] [] pos) (uIsi [T, T2] u) :=
  pe_imp (pe_callB call_isiT hg hm (by decide +kernel) (pa_cons he (pa_cons (pe_tup (pa_cons (pe_bltn (v := .ty T) hgT hmT hv rfl hn hd) (pa_cons (pe_bltn (v := .ty T2) hgT2 hmT2 hv2 rfl hn2 hd2) pa_nil hs4) hs3)) pa_nil hs2) hs1) (by decide) (by decide) hs1 hpl) fun σ H Q ⟨env, S, Qd, W, hE, hA, hT', hu, hk⟩ =>
    ⟨env, S, _, W, hE, hA, hT', hu, fun v d H1 S1 t1 r1 a1 ⟨t, ht, q⟩ => ⟨(by show 2 ≤ sizeLine; rw [sizeLine_eq]; decide), fun tp htp => by
      have sm := Same.new (o := HO.tup [V.ty T, V.ty T2]) htp
      have z := tyOf_rep (a1.same sm) (r1.keep (.of_same sm)) ht
      exact ⟨v, tp, _, .type t, [.type T, .type T2], [T, T2].any (isT t), rfl, upd_same, .cons (.ty T) (.cons (.ty T2) .nil), z.1, kitAny_cons (kit_ty (kit_isT T hT t z.2)) (fun hb => by
        rw [List.any_cons, hb, Bool.false_or]
        exact kitAny_cons (kit_ty (kit_isT T2 hT2 t z.2)) (fun hb => by rw [List.any_cons, hb]; exact kitAny_nil) (fun hb => by rw [List.any_cons, hb]; rfl)) (fun hb => by rw [List.any_cons, hb]; rfl), hk _ _ _ _ (t1.trans (.of_same sm)) (rep_bl.mpr rfl) (a1.same sm) q⟩⟩⟩
end

/-! ### methods of built-in types -/
abbrev GM := D → List D → SS → QN → Prop
def rDM (K : PySem.W.Frag) (g : GM) : V → List V → Hp → VK → Prop := fun x xs H Q => ∃ S d ds Qd, AbsS K H S ∧ Rep K H d x ∧ RepL K H ds xs ∧ g d ds S Qd ∧ ∀ v d' H' S', TK K H H' → Rep K H' d' v → AbsS K H' S' → Qd d' S' → Q v H'
def isTy (S : SS) (T : String) : D → Prop
  | .str _ => T = "str"
  | .ref a => match S a with
    | some (.lst _) => T = "list"
    | some (.rol _) => T = "list"
    | _ => False
  | _ => False
theorem isTy_rep {K : PySem.W.Frag} {H : Hp} {S : SS} {d : D} {v : V} {T : String} (hA : AbsS K H S) (r : Rep K H d v) (h : isTy S T d) : tyV K T v H := by
  cases d with
  | str x => rw [rep_str] at r; subst r; exact h
  | ref a =>
    rw [rep_ref] at r; subst r
    simp only [isTy] at h
    split at h
    · rename_i xs e
      obtain ⟨vs, q, _⟩ := hA.getL e
      exact .inl ⟨h, vs, .of q⟩
    · rename_i xs e
      obtain ⟨vs, q, _⟩ := hA.getR e
      exact .inl ⟨h, vs, .inl q⟩
    · exact h.elim
  | _ => exact h.elim
def uBM0 (T : String) (g : GM) (uo : UE) : UE := fun env S Q X => uo env S (fun d S1 => isTy S1 T d ∧ g d [] S1 Q) X
def uBM (T : String) (g : GM) (uo : UE) (ra : UA) : UE := fun env S Q X => uo env S (fun d S1 => isTy S1 T d ∧ ra env S1 (fun ds S2 => g d ds S2 Q) X) X
section
variable {X : Cx} {o e : Expr} {es : List Expr} {uo : UE} {ra : UA} {name : Str} {apos cpos : Pos} {T id : String} {g : GM}
theorem de_bm0 (pa : PlainAttrs T) (slot : Slot T name id) (hty : typeOf (.builtin id) = pure (.type "method_descriptor")) (hm : MtR X id (rDM X.K g)) (ho : DE X o uo)
    (hbase : attributeBase o name X.env (eval o X.env) = eval o X.env := by rfl) (hline : (apos.endLine == cpos.line) = true := by rfl) : DE X (.Call (.Attribute o name apos) [] [] cpos) (uBM0 T g uo) :=
  pe_imp (pe_bm0 pa slot hty hm ho hbase hline) fun σ H Q ⟨env, S, Qd, W, hE, hA, hT, hu, hk⟩ => ⟨env, S, _, W, hE, hA, hT, hu, fun v d H1 S1 t1 r1 a1 ⟨ht, q1⟩ => ⟨isTy_rep a1 r1 ht, S1, d, [], Qd, a1, r1, .nil, q1, fun v d H' S' t r a q => hk _ _ _ _ (t1.trans t) r a q⟩⟩
theorem de_bm (pa : PlainAttrs T) (slot : Slot T name id) (hty : typeOf (.builtin id) = pure (.type "method_descriptor")) (hm : MtR X id (rDM X.K g)) (ho : DE X o uo) (ha : DA X (e :: es) ra)
    (hbase : attributeBase o name X.env (eval o X.env) = eval o X.env := by rfl)
    (hfew : ((backTo cpos (starEach (e :: es) X.env)).all (fun x => !x.1) && (backToKw cpos (keywordEach [] X.env)).all (fun x => x.1.isSome)
      && decide ((e :: es).length + ([] : List Keyword).length + (if ([] : List Keyword).isEmpty then 0 else 1) < 30)) = true := by rfl)
    (hline : (apos.endLine == cpos.line) = true := by rfl) (hs : starEach (e :: es) X.env = (false, eval e X.env) :: starEach es X.env := by rfl) (hplain : (backTo cpos (starEach es X.env)).any (·.1) = false := by rfl) :
    DE X (.Call (.Attribute o name apos) (e :: es) [] cpos) (uBM T g uo ra) :=
  pe_imp (pe_bm pa slot hty hm ho ha hbase hfew hline hs hplain) fun σ H Q ⟨env, S, Qd, W, hE, hA, hT, hu, hk⟩ => ⟨env, S, _, W, hE, hA, hT, hu, fun v d H1 S1 t1 r1 a1 ⟨ht, q1⟩ => ⟨isTy_rep a1 r1 ht, env, S1, _, W, hE.keep t1, a1, tstep hT t1, q1, fun vs ds H2 S2 t2 r2 a2 q2 =>
    ⟨S2, d, ds, Qd, a2, r1.keep t2, r2, q2, fun v d H' S' t r a q => hk _ _ _ _ ((t1.trans t2).trans t) r a q⟩⟩⟩
/-! lists -/
def gAppend : GM := fun d ds S Q => ∃ a xs y, d = .ref a ∧ ds = [y] ∧ S a = some (.lst xs) ∧ xs.length < sizeLine ∧ Q .non (sup S a (.lst (xs ++ [y])))
def gExtend : GM := fun d ds S Q => ∃ a b xs ys, d = .ref a ∧ ds = [.ref b] ∧ S a = some (.lst xs) ∧ S b = some (.lst ys) ∧ xs.length + ys.length ≤ sizeLine ∧ Q .non (sup S a (.lst (xs ++ ys)))
def gPop : GM := fun d ds S Q => ∃ a xs y, d = .ref a ∧ ds = [] ∧ S a = some (.lst xs) ∧ xs[xs.length - 1]? = some y ∧ Q y (sup S a (.lst xs.dropLast))
def gPopAt : GM := fun d ds S Q => ∃ a xs i k y, d = .ref a ∧ ds = [.int i] ∧ S a = some (.lst xs) ∧ -(2 ^ 63) ≤ i ∧ i < 2 ^ 63 ∧ seqIndex? i xs.length = some k ∧ xs[k]? = some y ∧ Q y (sup S a (.lst (xs.eraseIdx k)))
theorem RepL.dropLast {K : PySem.W.Frag} {H : Hp} {ds : List D} {vs : List V} (r : RepL K H ds vs) : RepL K H ds.dropLast vs.dropLast := by
  rw [List.dropLast_eq_take, List.dropLast_eq_take, r.length]
  exact r.take _
theorem RepL.eraseIdx {K : PySem.W.Frag} {H : Hp} : ∀ {ds : List D} {vs : List V} (k : Nat), RepL K H ds vs → RepL K H (ds.eraseIdx k) (vs.eraseIdx k)
  | [], vs, _, h => by rw [repL_nil.mp h]; simp [RepL]
  | d :: ds, vs, k, h => by
    obtain ⟨v, r, ev, h1, h2⟩ := repL_cons.mp h
    subst ev
    cases k with
    | zero => exact h2
    | succ k => exact .cons h1 (RepL.eraseIdx k h2)
theorem md_append : MtR X "list.append" (rDM X.K gAppend) := fun pins s σ H x xs v us Q I rx rv ⟨S, d, ds, Qd, hA, r, rr, ⟨a, ys, y, ed, eds, es, hl, q⟩, hk⟩ => by
  subst ed eds
  rw [rep_ref] at r; subst r
  obtain ⟨w, rfl, rw'⟩ := rep1 rr
  obtain ⟨vs, eh, r2⟩ := hA.getL es
  have m : Mut (H a) := by rw [eh]; exact True.intro
  have t : TK X.K H (upd H a (.lst (vs ++ [w]))) := .mut m
  exact mt_append pins s σ H _ _ v us Q I rx rv ⟨a, vs, w, rfl, rfl, eh, by rw [r2.length]; exact hl, hk _ _ _ _ t (rep_non.mpr rfl) (hA.put m (.mkL upd_same ((r2.append (.cons rw' .nil)).keep t))) q⟩
theorem md_extend : MtR X "list.extend" (rDM X.K gExtend) := fun pins s σ H x xs v us Q I rx rv ⟨S, d, ds, Qd, hA, r, rr, ⟨a, b, ys, zs, ed, eds, es, eb, hl, q⟩, hk⟩ => by
  subst ed eds
  rw [rep_ref] at r; subst r
  obtain ⟨w, rfl, rw'⟩ := rep1 rr
  rw [rep_ref] at rw'; subst rw'
  obtain ⟨vs, eh, r2⟩ := hA.getL es
  obtain ⟨ws, ew, r3⟩ := hA.getL eb
  have m : Mut (H a) := by rw [eh]; exact True.intro
  have t : TK X.K H (upd H a (.lst (vs ++ ws))) := .mut m
  exact mt_extend pins s σ H _ _ v us Q I rx rv ⟨a, b, vs, ws, rfl, rfl, eh, ew, by rw [r2.length, r3.length]; exact hl, hk _ _ _ _ t (rep_non.mpr rfl) (hA.put m (.mkL upd_same ((r2.append r3).keep t))) q⟩
theorem md_pop : MtR X "list.pop" (rDM X.K gPop) := fun pins s σ H x xs v us Q I rx rv ⟨S, d, ds, Qd, hA, r, rr, ⟨a, ys, y, ed, eds, es, hy, q⟩, hk⟩ => by
  subst ed eds
  rw [rep_ref] at r; subst r
  rw [repL_nil] at rr; subst rr
  obtain ⟨vs, eh, r2⟩ := hA.getL es
  obtain ⟨w, hw, rw'⟩ := r2.get hy
  have m : Mut (H a) := by rw [eh]; exact True.intro
  have t : TK X.K H (upd H a (.lst vs.dropLast)) := .mut m
  exact mt_pop pins s σ H _ _ v us Q I rx rv ⟨a, vs, w, rfl, rfl, eh, by rw [r2.length]; exact hw, hk _ _ _ _ t (rw'.keep t) (hA.put m (.mkL upd_same (r2.dropLast.keep t))) q⟩
theorem md_popAt : MtR X "list.pop" (rDM X.K gPopAt) := fun pins s σ H x xs v us Q I rx rv ⟨S, d, ds, Qd, hA, r, rr, ⟨a, ys, i, k, y, ed, eds, es, h1, h2, h3, hy, q⟩, hk⟩ => by
  subst ed eds
  rw [rep_ref] at r; subst r
  obtain ⟨w0, rfl, rw0⟩ := rep1 rr
  rw [rep_int] at rw0; subst rw0
  obtain ⟨vs, eh, r2⟩ := hA.getL es
  obtain ⟨w, hw, rw'⟩ := r2.get hy
  have m : Mut (H a) := by rw [eh]; exact True.intro
  have t : TK X.K H (upd H a (.lst (vs.eraseIdx k))) := .mut m
  exact mt_popAt pins s σ H _ _ v us Q I rx rv ⟨a, vs, i, k, w, rfl, rfl, eh, h1, h2, by rw [r2.length]; exact h3, hw, hk _ _ _ _ t (rw'.keep t) (hA.put m (.mkL upd_same ((r2.eraseIdx k).keep t))) q⟩
/-! texts -/
def gM (f : D → List D → Option D) : GM := fun d ds S Q => ∃ z, f d ds = some z ∧ Q z S
def sFind (x y : List Nat) : Int := Txt.find (tx x) (tx y)
def sRfind (x y : List Nat) : Int := Txt.rfind (tx x) (tx y)
def sSplit (x y : List Nat) : List (List Nat) := (Txt.split (tx x) (tx y)).map (·.cps.toList)
def sPart (x y : List Nat) : List Nat × List Nat × List Nat := ((Txt.partition (tx x) (tx y)).1.cps.toList, (Txt.partition (tx x) (tx y)).2.1.cps.toList, (Txt.partition (tx x) (tx y)).2.2.cps.toList)
def sLstrip (x y : List Nat) : List Nat := (Txt.lstripChars (tx x) (tx y)).cps.toList
def mFind : D → List D → Option D
  | .str x, [.str y] => some (.int (sFind x y))
  | _, _ => none
def mRfind : D → List D → Option D
  | .str x, [.str y] => some (.int (sRfind x y))
  | _, _ => none
def mPart : D → List D → Option D
  | .str x, [.str y] => if y ≠ [] ∧ x.length ≤ sizeLine then some (.tup [.str (sPart x y).1, .str (sPart x y).2.1, .str (sPart x y).2.2]) else none
  | _, _ => none
def mLstrip : D → List D → Option D
  | .str x, [.str y] => if x.length ≤ sizeLine then some (.str (sLstrip x y)) else none
  | _, _ => none
def gSplit : GM := fun d ds S Q => ∃ x y, d = .str x ∧ ds = [.str y] ∧ y ≠ [] ∧ x.length + 2 ≤ sizeLine ∧ ∀ p, S p = none → Q (.ref p) (sup S p (.lst ((sSplit x y).map .str)))
def strsOf : List D → Option (List (List Nat))
  | [] => some []
  | .str x :: r => (strsOf r).map (x :: ·)
  | _ => none
def sJoin (x : List Nat) (ys : List (List Nat)) : List Nat := (Txt.join (tx x) (ys.map tx)).cps.toList
end
end SL

set_option Elab.async false
set_option linter.all false
set_option maxRecDepth 100000
set_option maxHeartbeats 4000000
/-! SL10: methods of texts. -/
namespace SL
open PySem PySem.Spec L2
section
variable {X : Cx}
theorem gm_of {id : String} {f : D → List D → Option D} (h : ∀ (pins : List (Addr × Obj)) (s : Shared) (σ : L2.St) (H : Hp) (x : V) (xs : List V) (v : Value) (us : List Value) (Q : VK) (d : D) (ds : List D) (z : D), Inv X pins σ H s → RelV x v → Vals xs us → Rep X.K H d x → RepL X.K H ds xs → f d ds = some z →
    (∀ w H', Same H H' → Rep X.K H' z w → Q w H') → wpAny (model X.prog X.w) X.A (call (.builtin id) (v :: us)) (EP X pins σ Q) X.xe s) : MtR X id (rDM X.K (gM f)) := fun pins s σ H x xs v us Q I rx rv ⟨S, d, ds, Qd, hA, r, rr, ⟨z, hz, q⟩, hk⟩ =>
  h pins s σ H x xs v us Q d ds z I rx rv r rr hz fun w H' sm rz => hk w z H' S (.of_same sm) rz (hA.same sm) q
theorem md_find : MtR X "str.find" (rDM X.K (gM mFind)) := gm_of fun pins s σ H x xs v us Q d ds z I rx rv r rr hz k => by
  unfold mFind at hz
  split at hz
  · cases hz
    rw [rep_str] at r; subst r
    obtain ⟨w, rfl, rw'⟩ := rep1 rr
    rw [rep_str] at rw'; subst rw'
    exact mt_find pins s σ H _ _ v us Q I rx rv ⟨_, _, rfl, rfl, k _ H (Same.refl H) (rep_int.mpr rfl)⟩
  · cases hz
theorem md_rfind : MtR X "str.rfind" (rDM X.K (gM mRfind)) := gm_of fun pins s σ H x xs v us Q d ds z I rx rv r rr hz k => by
  unfold mRfind at hz
  split at hz
  · cases hz
    rw [rep_str] at r; subst r
    obtain ⟨w, rfl, rw'⟩ := rep1 rr
    rw [rep_str] at rw'; subst rw'
    exact mt_rfind pins s σ H _ _ v us Q I rx rv ⟨_, _, rfl, rfl, k _ H (Same.refl H) (rep_int.mpr rfl)⟩
  · cases hz
theorem md_lstrip : MtR X "str.lstrip" (rDM X.K (gM mLstrip)) := gm_of fun pins s σ H x xs v us Q d ds z I rx rv r rr hz k => by
  unfold mLstrip at hz
  split at hz
  · split at hz
    · rename_i hl
      cases hz
      rw [rep_str] at r; subst r
      obtain ⟨w, rfl, rw'⟩ := rep1 rr
      rw [rep_str] at rw'; subst rw'
      exact mt_lstripChars pins s σ H _ _ v us Q I rx rv ⟨_, _, rfl, rfl, by rw [tx_len]; exact hl, k _ H (Same.refl H) (rep_str.mpr (by unfold sLstrip; rw [tx_of]))⟩
    · cases hz
  · cases hz
theorem tx_ne {y : List Nat} (h : y ≠ []) : ((tx y).length == 0) = false := by
  rw [tx_len, beq_eq_false_iff_ne]
  exact fun e => h (List.length_eq_zero_iff.mp e)
theorem md_part : MtR X "str.partition" (rDM X.K (gM mPart)) := gm_of fun pins s σ H x xs v us Q d ds z I rx rv r rr hz k => by
  unfold mPart at hz
  split at hz
  · split at hz
    · rename_i hl
      cases hz
      rw [rep_str] at r; subst r
      obtain ⟨w, rfl, rw'⟩ := rep1 rr
      rw [rep_str] at rw'; subst rw'
      refine mt_partition pins s σ H _ _ v us Q I rx rv ⟨_, _, rfl, rfl, tx_ne hl.1, by rw [tx_len]; exact hl.2, fun p hp => k _ _ (Same.new hp) (.newTup hp ?_)⟩
      refine .cons (rep_str.mpr ?_) (.cons (rep_str.mpr ?_) (.cons (rep_str.mpr ?_) .nil)) <;> (unfold sPart; rw [tx_of])
    · cases hz
  · cases hz
theorem rep_strs {K : PySem.W.Frag} {H : Hp} : ∀ l : List Str, RepL K H ((l.map (·.cps.toList)).map D.str) (l.map V.str)
  | [] => .nil
  | x :: r => .cons (rep_str.mpr (by rw [tx_of])) (rep_strs r)
theorem md_split : MtR X "str.split" (rDM X.K gSplit) := fun pins s σ H x xs v us Q I rx rv ⟨S, d, ds, Qd, hA, r, rr, ⟨y, z, ed, eds, hne, hl, q⟩, hk⟩ => by
  subst ed eds
  rw [rep_str] at r; subst r
  obtain ⟨w, rfl, rw'⟩ := rep1 rr
  rw [rep_str] at rw'; subst rw'
  refine mt_split pins s σ H _ _ v us Q I rx rv ⟨_, _, rfl, rfl, tx_ne hne, by rw [tx_len]; exact hl, fun p hp => hk _ _ _ _ (.new hp) (rep_ref.mpr rfl) (hA.newL hp ?_) (q p (hA.fresh hp))⟩
  exact rep_strs _
theorem strs_rep {K : PySem.W.Frag} {H : Hp} : ∀ {ds : List D} {vs : List V} {l : List (List Nat)}, RepL K H ds vs → strsOf ds = some l → vs = (l.map tx).map V.str
  | [], vs, l, r, h => by cases h; exact repL_nil.mp r
  | d :: ds, vs, l, r, h => by
    obtain ⟨v, t, e, h1, h2⟩ := repL_cons.mp r
    subst e
    cases d with
    | str x =>
      simp only [strsOf, Option.map_eq_some_iff] at h
      obtain ⟨m, hm, rfl⟩ := h
      rw [rep_str] at h1; subst h1
      rw [strs_rep h2 hm]
      rfl
    | _ => simp [strsOf] at h
/-- sep.join(xs) -/
def gJoin : GM := fun d ds S Q => ∃ x e xs l, d = .str x ∧ ds = [e] ∧ seqOf S e = some xs ∧ strsOf xs = some l ∧ (l.map List.length).sum + x.length * l.length ≤ 16777216 ∧ Q (.str (sJoin x l)) S
end
end SL
namespace SL
open PySem PySem.Spec L2
section
variable {X : Cx}
def gJoin' : GM := fun d ds S Q => ∃ x e xs l, d = .str x ∧ ds = [e] ∧ seqOf S e = some xs ∧ strsOf xs = some l ∧ (l.map List.length).sum + l.length * x.length ≤ 16777216 ∧ Q (.str (sJoin x l)) S
theorem md_join : MtR X "str.join" (rDM X.K gJoin') := fun pins s σ H x xs v us Q I rx rv ⟨S, d, ds, Qd, hA, r, rr, ⟨y, e, zs, l, ed, eds, hs, hl, hz, q⟩, hk⟩ => by
  subst ed eds
  rw [rep_str] at r; subst r
  obtain ⟨w, rfl, rw'⟩ := rep1 rr
  obtain ⟨a, vs, rfl, hq, r2⟩ := seqOf_rep hA rw' hs
  have ev := strs_rep r2 hl
  subst ev
  refine mt_join pins s σ H _ _ v us Q I rx rv ⟨_, a, l.map tx, rfl, rfl, hq, ?_, hk _ _ _ _ (.refl _ _) (rep_str.mpr (by unfold sJoin; rw [tx_of])) hA q⟩
  rw [tx_len, List.length_map, List.map_map]
  have e2 : ((fun s : Str => s.length) ∘ tx) = List.length := by funext z; exact tx_len z
  rw [e2]
  exact hz
end
end SL

set_option Elab.async false
set_option linter.all false
set_option maxRecDepth 100000
set_option maxHeartbeats 4000000
/-! SL11: facts of a text's defs and classes, as one uses them. -/
namespace SL
open PySem PySem.Spec L2 ClX
abbrev gId : List D → List D → List D := fun ds _ => ds
abbrev gApp : List D → List D → List D := fun ds es => ds ++ es
abbrev gNon : List D → List D → List D := fun ds _ => ds ++ [.non]
section
variable (P : Program) (w : World) (K : PySem.W.Frag) (mg : Str → Option Value) (base : Heap)
/-- the def x keeps sp; called by n values and keywords ks -/
def FF (x : Str) (k : Nat) (ps : List Str) (sp : FS) (n : Nat) (ks : List Str) (gD : List D → List D → List D) : Prop :=
  ∃ f fd, mg x = some (.ref f) ∧ PySem.W.keepIn K (.ref f) = true ∧ FnD P w K mg base k f fd ps sp ∧ Shp K fd ps n ks gD
/-- the method m of C -/
def MF (C : Addr) (m : Str) (k : Nat) (ps : List Str) (sp : FS) (n : Nat) (ks : List Str) (gD : List D → List D → List D) : Prop :=
  ∃ f fd, Cls K C ∧ Meth K C m f ∧ FnD P w K mg base k f fd ps sp ∧ Shp K fd ps (n + 1) ks gD
/-- the class x, made -/
def KF (x : Str) (C : Addr) (k : Nat) (ps : List Str) (sp : FS) (n : Nat) (ks : List Str) (gD : List D → List D → List D) : Prop :=
  ∃ f fd, mg x = some (.ref C) ∧ Mk K C f ∧ FnD P w K mg base k f fd ps sp ∧ Shp K fd ps (n + 1) ks gD
/-- the property m of C -/
def PF (C : Addr) (m : Str) (k : Nat) (ps : List Str) (sp : FS) : Prop :=
  ∃ pp g fd, Cls K C ∧ PropOf K C m pp g ∧ FnD P w K mg base k g fd ps sp ∧ Binds K fd ps [] ∧ ps.length = 1
/-- the classmethod m of C -/
def CF (C : Addr) (m : Str) (k : Nat) (ps : List Str) (sp : FS) (n : Nat) : Prop :=
  ∃ mc pp g fd, CRead K C mc ∧ CMet K C mc m pp g ∧ FnD P w K mg base k g fd ps sp ∧ Binds K fd ps [] ∧ n + 1 = ps.length
/-- the constant x -/
def GC (x : Str) (d : D) : Prop := ∃ v u, mg x = some u ∧ RelV v u ∧ ∀ H, Rep K H d v
end
section
variable {X : Cx} {k j n : Nat} {C : Addr} {ps ks : List Str} {sp : FS} {gD : List D → List D → List D} {x m : Str} {p pos apos : Pos} {e o : Expr} {es : List Expr} {kws : List Keyword} {ra : UAK} {uo : UE}
theorem hu64 (hr : Room k X.A) : X.A.units + 64 < cLine := hr.units
theorem hu65 (hr : Room k X.A) : X.A.units + 65 < cLine := by have := hr.un; omega
theorem de_ff (h : FF X.prog X.w X.K X.mg X.base x k ps sp n ks gD) (hr : Room j X.A) (ha : DArgs X es kws pos n ks ra) (hk : k ≤ j := by decide) (hg : Gl X x := by rfl) (hdb : (x == ("__debug__" : Str)) = false := by decide) : DE X (.Call (.Name x p) es kws pos) (uCall sp gD ra) := by
  obtain ⟨f, fd, h1, h2, h3, h4⟩ := h
  exact de_call h3 (hr.mono hk) h1 h2 h4 ha hg hdb
theorem de_mf {pl : Sem Bool} (he : DE X o uo) (h : MF X.prog X.w X.K X.mg X.base C m k ps sp n ks gD) (hr : Room j X.A) (ha : DArgs X es kws pos n ks ra) (hk : k ≤ j := by decide)
    (ht : eval (.Call (.Attribute o m apos) es kws pos) X.env = (do
      let ov ← eval o X.env
      standAt apos.atName
      let (f, first) ← holding [ov] (getMethod ov m pl)
      callWith pos f first (backTo pos (starEach es X.env)) (backToKw pos (keywordEach kws X.env))) := by rfl) : DE X (.Call (.Attribute o m apos) es kws pos) (uMeth C m sp gD uo ra) := by
  obtain ⟨f, fd, h1, h2, h3, h4⟩ := h
  exact de_meth he h1 h2 h3 (hr.mono hk) h4 ha ht
theorem de_kf (h : KF X.prog X.w X.K X.mg X.base x C k ps sp n ks gD) (hr : Room j X.A) (ha : DArgs X es kws pos n ks ra) (hk : k + 1 ≤ j := by decide) (hg : Gl X x := by rfl) (hdb : (x == ("__debug__" : Str)) = false := by decide) : DE X (.Call (.Name x p) es kws pos) (uMake C sp gD ra) := by
  obtain ⟨f, fd, h1, h2, h3, h4⟩ := h
  exact de_make h2 h3 (hr.mono hk) h1 h4 ha hg hdb
theorem de_kfv (i : Nat) {y : Str} (h : KF X.prog X.w X.K X.mg X.base x C k ps sp n ks gD) (hr : Room j X.A) (ha : DArgs X es kws pos n ks ra) (hk : k + 1 ≤ j := by decide) (hN : X.N[i]? = some y := by rfl) (hv : Vis X.env.scope y := by first | exact Or.inl rfl | exact Or.inr (Or.inl rfl) | exact Or.inr (Or.inr rfl)) (hd : (y == ("__debug__" : Str)) = false := by decide)
    (hcd : (y == ("__classdict__" : Str)) = false := by decide) : DE X (.Call (.Name y p) es kws pos) (uMakeV i C sp gD ra) := by
  obtain ⟨f, fd, h1, h2, h3, h4⟩ := h
  exact de_makeV i h2 h3 (hr.mono hk) h4 ha hN hv hd hcd
theorem de_pf (he : DE X o uo) (h : PF X.prog X.w X.K X.mg X.base C m k ps sp) (hr : Room j X.A) (hk : k + 1 ≤ j := by decide) (hab : attributeBase o m X.env (eval o X.env) = eval o X.env := by rfl) : DE X (.Attribute o m pos) (uProp C sp uo) := by
  obtain ⟨pp, g, fd, h1, h2, h3, h4, h5⟩ := h
  exact de_prop he h1 h2 h3 (hr.mono hk) h4 h5 hab
theorem de_cf {pl : Sem Bool} {rb : UA} (he : DE X o uo) (h : CF X.prog X.w X.K X.mg X.base C m k ps sp n) (hr : Room j X.A) (ha : DA X (e :: es) rb) (hl : es.length + 1 = n := by rfl) (hk : k ≤ j := by decide)
    (hst : starEach (e :: es) X.env = (false, eval e X.env) :: starEach es X.env := by rfl) (hpl : (backTo pos (starEach es X.env)).any (·.1) = false := by rfl)
    (ht : eval (.Call (.Attribute o m apos) (e :: es) [] pos) X.env = (do
      let ov ← eval o X.env
      standAt apos.atName
      let (f, first) ← holding [ov] (getMethod ov m pl)
      callWith pos f first (backTo pos (starEach (e :: es) X.env)) (backToKw pos (keywordEach [] X.env))) := by rfl) :
    DE X (.Call (.Attribute o m apos) (e :: es) [] pos) (uCMeth C (fun ds S Q X => ds.length = ps.length ∧ sp ds S Q X) uo rb) := by
  obtain ⟨mc, pp, g, fd, h1, h2, h3, h4, h5⟩ := h
  exact de_cmeth he h1 h2 h3 (hr.mono hk) h4 ha (by omega) hst hpl ht
theorem de_gc {d : D} (h : GC X.K X.mg x d) (hg : Gl X x := by rfl) (hd : (x == ("__debug__" : Str)) = false := by decide) : DE X (.Name x pos) (uC d) := by
  obtain ⟨v, u, h1, h2, h3⟩ := h
  exact de_glob hg h1 h2 h3 hd
/-- a class as a value -/
theorem de_cls (hm : X.mg x = some (.ref C)) (hg : Gl X x := by rfl) (hd : (x == ("__debug__" : Str)) = false := by decide) : DE X (.Name x pos) (uC (.ref C)) := de_glob hg hm (v := .ref C) rfl (fun _ => rep_ref.mpr rfl) hd
end
section
variable {P : Program} {w : World} {K : PySem.W.Frag} {mg : Str → Option Value} {base : Heap}
theorem ff_of {x : Str} {f : Addr} {fd : FuncData} {k n : Nat} {ps ks : List Str} {sp : FS} {gD : List D → List D → List D} (hm : mg x = some (.ref f)) (hk : PySem.W.keepIn K (.ref f) = true) (F : FnD P w K mg base k f fd ps sp) (sh : Shp K fd ps n ks gD) : FF P w K mg base x k ps sp n ks gD := ⟨f, fd, hm, hk, F, sh⟩
end
end SL

set_option Elab.async false
set_option linter.all false
set_option maxRecDepth 100000
set_option maxHeartbeats 4000000
/-! SL12: dicts of ints and texts, a text many times, isinstance of an error. -/
namespace SL
open PySem PySem.Spec L2 ClX

/-! ### dicts -/
def dvl (k : Key) : List (Key × D) → Option D
  | [] => none
  | (j, d) :: r => if j = k then some d else dvl k r
def dhas (k : Key) (kvs : List (Key × D)) : Bool := kvs.any fun kv => decide (kv.1 = k)
def dput (k : Key) (d : D) (kvs : List (Key × D)) : List (Key × D) :=
  if dhas k kvs = true then kvs.map (fun kv => if kv.1 = k then (kv.1, d) else kv) else kvs ++ [(k, d)]
theorem dhas_dvl {k : Key} : ∀ {kvs : List (Key × D)}, dhas k kvs = (dvl k kvs).isSome
  | [] => rfl
  | (j, d) :: r => by
    unfold dhas dvl
    rw [List.any_cons]
    by_cases e : j = k
    · simp [e]
    · rw [if_neg e]
      simp only [e, decide_false, Bool.false_or]
      exact dhas_dvl (kvs := r)
section
variable {K : PySem.W.Frag} {H : Hp} {k : Key}
theorem dicR_cons {j : Key} {d : D} {r : List (Key × D)} {vk : List (Key × V)} : DicR K H ((j, d) :: r) vk ↔ ∃ v t, vk = (j, v) :: t ∧ Rep K H d v ∧ DicR K H r t := by
  constructor
  · rintro ⟨h1, h2⟩
    cases vk with
    | nil => simp at h1
    | cons p t =>
      obtain ⟨j', v⟩ := p
      simp only [List.map_cons, List.cons.injEq] at h1
      obtain ⟨e1, h1⟩ := h1
      simp only [List.map_cons] at h2
      obtain ⟨r1, r2⟩ := h2.uncons
      subst e1
      exact ⟨v, t, rfl, r1, h1, r2⟩
  · rintro ⟨v, t, rfl, r1, r2⟩
    exact ⟨by simp [r2.1], .cons r1 r2.2⟩
theorem dicR_nil {vk : List (Key × V)} : DicR K H [] vk ↔ vk = [] := by
  constructor
  · rintro ⟨h1, h2⟩; simpa using h1
  · rintro rfl; exact ⟨rfl, .nil⟩
theorem DicR.val : ∀ {kvs : List (Key × D)} {vk : List (Key × V)} {d : D}, DicR K H kvs vk → dvl k kvs = some d → ∃ v, valV vk k = some v ∧ Rep K H d v
  | [], vk, d, h, e => by cases e
  | (j, x) :: r, vk, d, h, e => by
    obtain ⟨v, t, rfl, r1, r2⟩ := dicR_cons.mp h
    unfold dvl at e
    by_cases q : j = k
    · rw [if_pos q] at e; cases e; exact ⟨v, valV_pos q, r1⟩
    · rw [if_neg q] at e; rw [valV_neg q]; exact DicR.val r2 e
theorem DicR.any : ∀ {kvs : List (Key × D)} {vk : List (Key × V)}, DicR K H kvs vk → (vk.any fun kv => decide (kv.1 = k)) = dhas k kvs
  | [], vk, h => by rw [dicR_nil.mp h]; rfl
  | (j, x) :: r, vk, h => by
    obtain ⟨v, t, rfl, r1, r2⟩ := dicR_cons.mp h
    unfold dhas
    rw [List.any_cons, List.any_cons, DicR.any r2]
    rfl
theorem DicR.repl {y : D} {v : V} (ry : Rep K H y v) : ∀ {kvs : List (Key × D)} {vk : List (Key × V)}, DicR K H kvs vk → DicR K H (kvs.map fun kv => if kv.1 = k then (kv.1, y) else kv) (vk.map fun kv => if kv.1 = k then (kv.1, v) else kv)
  | [], vk, h => by rw [dicR_nil.mp h]; exact dicR_nil.mpr rfl
  | (j, x) :: r, vk, h => by
    obtain ⟨w, t, rfl, r1, r2⟩ := dicR_cons.mp h
    rw [List.map_cons, List.map_cons]
    have ih := DicR.repl ry r2
    by_cases q : j = k
    · simp only [q, if_true]; exact dicR_cons.mpr ⟨_, _, rfl, ry, by simpa [q] using ih⟩
    · simp only [q, if_false]; exact dicR_cons.mpr ⟨_, _, rfl, r1, by simpa [q] using ih⟩
theorem DicR.app : ∀ {kvs kvs' : List (Key × D)} {vk vk' : List (Key × V)}, DicR K H kvs vk → DicR K H kvs' vk' → DicR K H (kvs ++ kvs') (vk ++ vk')
  | [], _, vk, _, h, h' => by rw [dicR_nil.mp h]; exact h'
  | (j, x) :: r, _, vk, _, h, h' => by
    obtain ⟨w, t, rfl, r1, r2⟩ := dicR_cons.mp h
    exact dicR_cons.mpr ⟨_, _, rfl, r1, r2.app h'⟩
theorem DicR.put {y : D} {v : V} {kvs : List (Key × D)} {vk : List (Key × V)} (ry : Rep K H y v) (h : DicR K H kvs vk) : DicR K H (dput k y kvs) (putK vk k v) := by
  unfold dput putK
  rw [h.any]
  split
  · exact h.repl ry
  · exact h.app (dicR_cons.mpr ⟨_, _, rfl, ry, dicR_nil.mpr rfl⟩)
theorem DicR.length {kvs : List (Key × D)} {vk : List (Key × V)} (h : DicR K H kvs vk) : vk.length = kvs.length := by
  have := congrArg List.length h.1
  simpa using this
end
theorem AbsS.getD {K : PySem.W.Frag} {H : Hp} {S : SS} {a : Addr} {kvs : List (Key × D)} (h : AbsS K H S) (e : S a = some (.dic kvs)) : ∃ vk, H a = some (.dK vk) ∧ DicR K H kvs vk := h a _ e
theorem ObR.mkD {K : PySem.W.Frag} {H : Hp} {a : Addr} {kvs : List (Key × D)} {vk : List (Key × V)} (e : H a = some (.dK vk)) (r : DicR K H kvs vk) : ObR K H a (.dic kvs) := ⟨vk, e, r⟩
def keyOf : D → Option Key
  | .int i => some (.inl i)
  | .str x => some (.inr (tx x))
  | _ => none
theorem keyOf_rep {K : PySem.W.Frag} {H : Hp} {d : D} {v : V} {k : Key} (r : Rep K H d v) (h : keyOf d = some k) : v = kV k := by
  cases d <;> simp only [keyOf] at h <;> cases h
  · rw [rep_int] at r; exact r
  · rw [rep_str] at r; exact r
/-- o[k], o a dict -/
def uDGet (uo uk : UE) : UE := fun env S Q X => uo env S (fun o S1 => uk env S1 (fun i S2 => ∃ a kvs k d, o = .ref a ∧ S2 a = some (.dic kvs) ∧ keyOf i = some k ∧ dvl k kvs = some d ∧ Q d S2) X) X
/-- o[k] = e -/
def usDPut (uo uk ue : UE) : US := fun D env S => ue env S (fun d S1 => uo env S1 (fun o S2 => uk env S2 (fun i S3 => ∃ a kvs k, o = .ref a ∧ S3 a = some (.dic kvs) ∧ keyOf i = some k ∧ kvs.length < 1000 ∧ D.nx env (sup S3 a (.dic (dput k d kvs)))) (fun c fs S1 => D.ex c fs env S1)) (fun c fs S1 => D.ex c fs env S1)) (fun c fs S1 => D.ex c fs env S1)
/-- the pairs of a display with written keys -/
def uDsp (ks : List Key) (ra : UA) : UE := fun env S Q X => ∀ p, S p = none → ra env (sup S p (.dic [])) (fun ds S1 => S1 p = some (.dic []) ∧ ds.length = ks.length ∧ Q (.ref p) (sup S1 p (.dic ((ks.zip ds).foldl (fun a kv => dput kv.1 kv.2 a) [])))) X
section
variable {X : Cx} {k : Nat} {o i e : Expr} {uo ui u : UE} {pos pos' : Pos}
theorem hu1 (hr : Room k X.A) : X.A.units + 1 < cLine := by have := hr.un; omega
theorem de_dget (hr : Room k X.A) (ho : DE X o uo) (hi : DE X i ui) (hs : NoSl i := by intro _ _; rfl) : DE X (.Subscript o i pos) (uDGet uo ui) :=
  pe_imp (pe_dget (hu1 hr) ho hi hs) fun σ H Q ⟨env, S, Qd, W, hE, hA, hT, hu, hk⟩ => ⟨env, S, _, W, hE, hA, hT, hu, fun v od H1 S1 t1 r1 a1 q1 => ⟨env, S1, _, W, hE.keep t1, a1, tstep hT t1, q1, fun v2 id H2 S2 t2 r2 a2 ⟨a, kvs, k, d, eo, es, ek, ed, q2⟩ => by
    subst eo
    rw [rep_ref] at r1; subst r1
    obtain ⟨vk, eh, rk⟩ := a2.getD es
    obtain ⟨w, ew, rw'⟩ := rk.val ed
    have := keyOf_rep r2 ek
    subst this
    exact ⟨a, w, rfl, by rw [← ew]; exact .k eh, hk _ _ _ _ (t1.trans t2) rw' a2 q2⟩⟩⟩
theorem ds_dput (hr : Room k X.A) (ho : DE X o uo) (hi : DE X i ui) (he : DE X e u) (hs : swapsWith e (some (.Subscript o i pos')) pos.line X.env = pure false := by rfl) : DS X (.Assign [.Subscript o i pos'] e pos) (usDPut uo ui u) :=
  ps_imp (ps_dput (hu1 hr) ho hi he hs) fun D σ H ⟨env, S, E, hE, hA, hT, hu, hn, hr, hb, hc⟩ => ⟨env, S, _, E.ex, hE, hA, hT, hu, fun v d H1 S1 t1 r1 a1 q1 => ⟨env, S1, _, E.ex, hE.keep t1, a1, tstep hT t1, q1, fun vo od H2 S2 t2 r2 a2 q2 =>
    ⟨env, S2, _, E.ex, hE.keep (t1.trans t2), a2, tstep hT (t1.trans t2), q2, fun vi id H3 S3 t3 r3 a3 ⟨a, kvs, k, eo, es, ek, hl, q3⟩ => by
    subst eo
    rw [rep_ref] at r2; subst r2
    obtain ⟨vk, eh, rk⟩ := a3.getD es
    have := keyOf_rep r3 ek
    subst this
    have m : Mut (H3 a) := by rw [eh]; exact True.intro
    have tt := (t1.trans t2).trans t3
    have t4 : TK X.K H3 (upd H3 a (.dK (putK vk k v))) := .mut m
    refine ⟨a, _, rfl, .k eh (by rw [rk.length, sizeLine_eq]; omega), hn _ _ _ _ (tt.trans t4) (hE.keep (tt.trans t4)) (a3.put m (.mkD upd_same ((rk.put (r1.keep (t2.trans t3))).keep t4))) q3⟩⟩⟩⟩
end
/-- the values of a display, each behind a key that is written -/
structure DPs (X : Cx) (pos : Pos) (keys : List (Option Expr)) (es : List Expr) (ks : List Key) (u : UA) : Prop where
  run : ∃ trs, PPs X pos keys es trs ∧ keys.all (·.isSome) = true ∧ keys.length = es.length ∧ ks.length = keys.length ∧ ∀ σ H (Q : List (V × V) → Hp → Prop), LA X u σ H (fun vs H' => Q ((ks.map kV).zip vs) H') → tPairs trs σ H Q
section
variable {X : Cx} {pos : Pos} {p : Nat} {keys : List (Option Expr)} {es : List Expr} {ks : List Key} {ra : UA} {e : Expr} {u : UE}
theorem dps_nil : DPs X pos [] [] [] uNil := ⟨[], pps_nil, rfl, rfl, rfl, fun σ H Q ⟨env, S, Qd, W, hE, hA, hT, hu, hk⟩ => hk _ _ _ _ (.refl _ _) .nil hA hu⟩
theorem dps_str {x : Str} {pp : Pos} (he : DE X e u) (h : DPs X pos keys es ks ra) : DPs X pos (some (.Constant (.str x) p pp) :: keys) (e :: es) (Sum.inr x :: ks) (uCons u ra) := by
  obtain ⟨trs, h1, h2, h3, h4, h5⟩ := h.run
  refine ⟨_, pps_cons pe_str he h1, by simpa using h2, by simp [h3], by simp [h4], fun σ H Q ⟨env, S, Qd, W, hE, hA, hT, hu, hk⟩ => ?_⟩
  refine ⟨env, S, _, W, hE, hA, hT, hu, fun v d H1 S1 t1 r1 a1 q1 => h5 _ _ _ ⟨env, S1, _, W, hE.keep t1, a1, tstep hT t1, q1, fun vs ds H2 S2 t2 r2 a2 q2 => hk _ _ _ _ (t1.trans t2) (.cons (r1.keep t2) r2) a2 q2⟩⟩
theorem DicR.merge {K : PySem.W.Frag} {H : Hp} : ∀ {ks : List Key} {ds : List D} {vs : List V} {kvs : List (Key × D)} {vk : List (Key × V)}, RepL K H ds vs → DicR K H kvs vk → DicR K H ((ks.zip ds).foldl (fun a kv => dput kv.1 kv.2 a) kvs) (mergeK vk (ks.zip vs))
  | [], ds, vs, kvs, vk, r, h => h
  | k :: ks, [], vs, kvs, vk, r, h => by rw [repL_nil.mp r]; exact h
  | k :: ks, d :: ds, vs, kvs, vk, r, h => by
    obtain ⟨v, t, rfl, r1, r2⟩ := repL_cons.mp r
    exact DicR.merge (ks := ks) r2 (h.put r1)
theorem de_dsp (h : DPs X pos keys es ks ra) (h0 : keys ≠ [] := by intro z; cases z) (h15 : ks.length ≤ 15 := by decide) : DE X (.Dict keys es pos) (uDsp ks ra) := by
  obtain ⟨trs, h1, h2, h3, h4, h5⟩ := h.run
  refine pe_imp (pe_disp h1 h2 h3 h0 (by omega)) fun σ H Q ⟨env, S, Qd, W, hE, hA, hT, hu, hk⟩ => fun p hp => ?_
  have t0 : TK X.K H (upd H p (.dK [])) := .new hp
  have hu := hu p (hA.fresh hp)
  refine h5 _ _ _ ⟨env, _, _, W, hE.keep t0, hA.new hp (.mkD upd_same (dicR_nil.mpr rfl)), tstep hT t0, hu, fun vs ds H2 S2 t2 r2 a2 ⟨es2, l2, q2⟩ => ?_⟩
  obtain ⟨vk, eh, rk⟩ := a2.getD es2
  rw [dicR_nil.mp rk] at eh
  have m : Mut (H2 p) := by rw [eh]; exact True.intro
  have t3 : TK X.K H2 (upd H2 p (.dK (mergeK [] (ks.zip vs)))) := .mut m
  refine ⟨eh, ks.zip vs, ?_, by rw [List.length_zip]; omega, hk _ _ _ _ ((t0.trans t2).trans t3) (rep_ref.mpr rfl) (a2.put m (.mkD upd_same (((dicR_nil.mpr rfl).merge (ks := ks) r2).keep t3))) q2⟩
  · rw [List.zip_map_left]; rfl
end

/-! ### a text many times -/
def dMulS : F2
  | _, .str x, .int n => if n.toNat ≤ 1000 ∧ x.length ≤ 1000 ∧ -(2 ^ 62) ≤ n then some (.str (List.replicate n.toNat x).flatten) else none
  | _, _, _ => none
def rMulS : R2 := fun x y H Q => ∃ (a : List Nat) (n : Int), x = .str (tx a) ∧ y = .int n ∧ n.toNat ≤ 1000 ∧ a.length ≤ 1000 ∧ -(2 ^ 62) ≤ n ∧ Q (.str (tx (List.replicate n.toNat a).flatten)) H
theorem foldl_app {a : List Nat} : ∀ {n : Nat} {acc : List Nat}, List.foldl (fun (x1 x2 : Array Nat) => x1 ++ x2) acc.toArray (List.replicate n a.toArray) = (acc ++ (List.replicate n a).flatten).toArray
  | 0, acc => by simp
  | n + 1, acc => by
    rw [List.replicate_succ, List.foldl_cons, List.replicate_succ, List.flatten_cons, ← List.append_assoc]
    have e : acc.toArray ++ a.toArray = (acc ++ a).toArray := by simp
    rw [e]
    exact foldl_app
theorem op_mulS {X : Cx} : OpR X (binaryOp .Mult) rMulS := by
  intro pins s σ H x y v u Q I rx ry h
  obtain ⟨a, n, rfl, rfl, hn, ha, hlo, q⟩ := h
  obtain ⟨t, rfl⟩ := rx
  obtain ⟨tu, rfl⟩ := ry
  refine P.mul_str (x := tx a) (n := n) (t := t) (u := tu) ?_ ?_ ?_ ?_
  · rw [decide_eq_false (by omega), decide_eq_false (by omega)]; rfl
  · intro h1 h2
    rw [tx_len]
    have h3 : (2 ^ 63 - 1 : Int) / 1000 ≤ (2 ^ 63 - 1) / n := by
      rw [Int.le_ediv_iff_mul_le (by omega)]
      have : (2 ^ 63 - 1 : Int) / 1000 * n ≤ (2 ^ 63 - 1 : Int) / 1000 * 1000 := Int.mul_le_mul_of_nonneg_left (by omega) (by decide)
      omega
    omega
  · intro h1 h2
    rw [tx_len]
    have : a.length * n.toNat ≤ 1000 * 1000 := Nat.mul_le_mul ha hn
    exact decide_eq_false (by rw [sizeLine_eq]; omega)
  · by_cases h1 : n < 1
    · rw [if_pos h1]
      have e : n.toNat = 0 := by omega
      rw [e] at q
      refine ⟨by decide, .str _, H, I.tok _, ⟨_, rfl⟩, q⟩
    · rw [if_neg h1]
      split
      · rename_i h2
        simp only [Bool.or_eq_true, beq_iff_eq, tx_len] at h2
        have e : (List.replicate n.toNat a).flatten = a := by
          rcases h2 with h2 | h2
          · subst h2; simp
          · have := List.length_eq_zero_iff.mp h2; subst this; simp
        rw [e] at q
        exact ⟨.str (tx a), H, I, ⟨_, rfl⟩, q⟩
      · have e : (⟨(List.replicate n.toNat (tx a).cps).foldl (· ++ ·) #[]⟩ : Str) = tx (List.replicate n.toNat a).flatten := by
          unfold tx
          have := foldl_app (a := a) (n := n.toNat) (acc := [])
          simp only [List.nil_append] at this
          exact congrArg Str.mk this
        rw [e]
        have hz : (tx (List.replicate n.toNat a).flatten).length ≤ 1000 * 1000 := by
          rw [tx_len]
          have e : (List.replicate n.toNat a).flatten.length = n.toNat * a.length := by simp
          rw [e]
          exact Nat.mul_le_mul hn ha
        refine ⟨by rw [sizeLine_eq]; omega, .str _, H, I.tok _, ⟨_, rfl⟩, q⟩
theorem od_mulS {X : Cx} : OpR X (binaryOp .Mult) (rD2 X.K dMulS) := by
  intro pins s σ H x y v u Q I rx ry ⟨S, d1, d2, z, hA, r1, r2, hz, k⟩
  unfold dMulS at hz
  split at hz
  · split at hz
    · rename_i c
      cases hz
      rw [rep_str] at r1; rw [rep_int] at r2; subst r1; subst r2
      exact op_mulS pins s σ H _ _ v u Q I rx ry ⟨_, _, rfl, rfl, c.1, c.2.1, c.2.2, k _ H (Same.refl H) (rep_str.mpr rfl)⟩
    · cases hz
  · cases hz

/-! ### isinstance of an error -/
theorem excC_kit {K : PySem.W.Frag} {D x : Addr} {ox : Obj} {od : Option Obj} (C : ExcC K D) : PySem.W.KitX K (.ref x) (.ref D) (fun h => PySem.W.InstAt h x ox D od) :=
  PySem.W.kitx_exc (by obtain ⟨cd, hc, _⟩ := PySem.W.any_some C.hd; rw [hc]; rfl) C.hg C.hk C.hs C.ha C.hn C.ht C.hm
/-- isinstance(e, c), e the exception that is handled, its class the one at C -/
def uIsE (K : PySem.W.Frag) (a C : Addr) (dd : Option Addr) (cls cv : Value) (u : UE) : UE := fun env S Q X => cls = .ref C ∧ u env S (fun d S1 => ∃ ks ds b, d = .exc a dd ks ds ∧ PySem.W.kitOne K (.ref C) cv = some b ∧ Q (.bl b) S1) X
def rIsEx (K : PySem.W.Frag) (D a : Addr) : List V → Hp → VK → Prop := fun xs H Q => ∃ (c : V) (cv : Value) (b : Bool), xs = [.ref a, c] ∧ (∀ u, RelV c u → u = cv) ∧ PySem.W.kitOne K (.ref D) cv = some b ∧ Q (.bl b) H
theorem call_isEx {X : Cx} {a D : Addr} {dd : Option Addr} {oe : Obj} {pn : List (Addr × Obj)} {r : List V → Hp → VK → Prop} (C : ExcC X.K D) (hz : Zc (.ref D) dd oe) (hf : ∃ vs, oe.data = .fields vs)
    (hr : ∀ xs H Q, r xs H Q → rIsEx X.K D a xs H Q ∧ ∀ dx, dd = some dx → ∃ vfs, H dx = some (.xd vfs)) : CallR (X.suite a ((a, oe) :: pn)) (.builtin "isinstance") r := by
  intro pins s σ H xs us Q I r h
  obtain ⟨⟨c, cv, b, rfl, hcv, e, q⟩, hxd⟩ := hr _ _ _ h
  cases r with
  | cons rx rr =>
    cases rr with
    | cons rt rr =>
      cases rr
      cases rx
      have ec := hcv _ rt
      subst ec
      obtain ⟨hget, _⟩ := I.pin (a, oe) (List.mem_append.mpr (.inl List.mem_cons_self))
      obtain ⟨vs, hv⟩ := hf
      have J : ∃ od, PySem.W.InstAt s.heap a oe D od := by
        cases dd with
        | none => exact ⟨none, hget, hz.1, by unfold PySem.W.notCls; rw [hv] <;> rfl, by rw [hz.2]; trivial⟩
        | some dx =>
          obtain ⟨vfs, ea⟩ := hxd dx rfl
          have hx : ObjOk X.prog X.w H s.heap dx (.xd vfs) := I.hok dx _ ea
          obtain ⟨mA, hns, hr⟩ := hx
          obtain ⟨od, ho, hlk⟩ := lookIn_ns hns
          exact ⟨some od, hget, hz.1, by unfold PySem.W.notCls; rw [hv] <;> rfl, by rw [hz.2]; exact ho⟩
      obtain ⟨od, J⟩ := J
      exact PySem.W.kia_one (excC_kit C) I.kIn J e (fun z => nomatch z) fun tk => ⟨.bl b, H, I.kept (t' := tk) fun _ _ z => z, rfl, q⟩
section
variable {X : Cx} {a D : Addr} {dd : Option Addr} {oe : Obj} {cls : Value} {pn : List (Addr × Obj)} {e : Expr} {u : UE} {p p2 pos : Pos} {x : Str}
theorem de_isE (hC : ExcC X.K D) (hz : Zc cls dd oe) (hf : ∃ vs, oe.data = .fields vs) (he : DE (X.suite a ((a, oe) :: pn)) e u) (hm : X.mg "isinstance" = none) {cv : Value} {c : V} (hc : PE (X.suite a ((a, oe) :: pn)) (.Name x p2) (tC c)) (hcv : ∀ u, RelV c u ↔ u = cv)
    (hg : Gl X "isinstance" := by rfl)
    (hs1 : starEach [e, .Name x p2] X.env = (false, eval e X.env) :: starEach [.Name x p2] X.env := by rfl) (hs2 : starEach [.Name x p2] X.env = (false, eval (.Name x p2) X.env) :: starEach [] X.env := by rfl) (hpl : (backTo pos (starEach [.Name x p2] X.env)).any (·.1) = false := by rfl) :
    DE (X.suite a ((a, oe) :: pn)) (.Call (.Name "isinstance" p) [e, .Name x p2] [] pos) (uIsE X.K a D dd cls cv u) := by
  by_cases hcl : cls = .ref D
  · subst hcl
    refine pe_imp (pe_callB (X := X.suite a ((a, oe) :: pn)) (call_isEx (r := fun xs H Q => rIsEx X.K D a xs H Q ∧ ∀ dx, dd = some dx → ∃ vfs, H dx = some (.xd vfs)) hC hz hf fun _ _ _ z => z) hg hm (by decide +kernel) (pa_cons he (pa_cons hc pa_nil hs2) hs1) (by decide) (by decide) hs1 hpl) fun σ H Q ⟨env, S, Qd, W, hE, hA, hT', ⟨_, hu⟩, hk⟩ =>
      ⟨env, S, _, W, hE, hA, hT', hu, fun v d H1 S1 t1 r1 a1 ⟨ks, ds, b, ed, ek, q⟩ => ?_⟩
    subst ed
    obtain ⟨vfs, ev, h0, h1, h2, h3⟩ := r1
    subst ev
    exact ⟨⟨c, cv, b, rfl, fun u hu => (hcv u).mp hu, ek, hk _ _ _ _ t1 (rep_bl.mpr rfl) a1 q⟩, fun dx ed => ⟨vfs, h1 dx ed⟩⟩
  · exact ⟨fun pins s σ H Q I ⟨env, S, Qd, W, hE, hA, hT', ⟨z, _⟩, hk⟩ => absurd z hcl⟩
/-- a class of the text, a built-in one -/
theorem de_isEo {C : Addr} (hC : ExcC X.K D) (hz : Zc cls dd oe) (hf : ∃ vs, oe.data = .fields vs) (he : DE (X.suite a ((a, oe) :: pn)) e u) (hm : X.mg "isinstance" = none) (hc : X.mg x = some (.ref C)) (hgx : Gl X x := by rfl) (hd : (x == ("__debug__" : Str)) = false := by decide)
    (hg : Gl X "isinstance" := by rfl)
    (hs1 : starEach [e, .Name x p2] X.env = (false, eval e X.env) :: starEach [.Name x p2] X.env := by rfl) (hs2 : starEach [.Name x p2] X.env = (false, eval (.Name x p2) X.env) :: starEach [] X.env := by rfl) (hpl : (backTo pos (starEach [.Name x p2] X.env)).any (·.1) = false := by rfl) :
    DE (X.suite a ((a, oe) :: pn)) (.Call (.Name "isinstance" p) [e, .Name x p2] [] pos) (uIsE X.K a D dd cls (.ref C) u) :=
  de_isE hC hz hf he hm (c := .ref C) (pe_glob hgx hc (v := .ref C) rfl hd) (fun u => ⟨fun h => h, fun h => h⟩) hg hs1 hs2 hpl
theorem de_isEb {T : String} (hC : ExcC X.K D) (hz : Zc cls dd oe) (hf : ∃ vs, oe.data = .fields vs) (he : DE (X.suite a ((a, oe) :: pn)) e u) (hm : X.mg "isinstance" = none) (hmT : X.mg x = none) (hv : bootBuiltins x = some (.type T)) (hgx : Gl X x := by rfl) (hn : x ≠ "__name__" := by decide) (hd : (x == ("__debug__" : Str)) = false := by decide)
    (hg : Gl X "isinstance" := by rfl)
    (hs1 : starEach [e, .Name x p2] X.env = (false, eval e X.env) :: starEach [.Name x p2] X.env := by rfl) (hs2 : starEach [.Name x p2] X.env = (false, eval (.Name x p2) X.env) :: starEach [] X.env := by rfl) (hpl : (backTo pos (starEach [.Name x p2] X.env)).any (·.1) = false := by rfl) :
    DE (X.suite a ((a, oe) :: pn)) (.Call (.Name "isinstance" p) [e, .Name x p2] [] pos) (uIsE X.K a D dd cls (.type T) u) :=
  de_isE hC hz hf he hm (c := .ty T) (pe_bltn (v := .ty T) hgx hmT hv rfl hn hd) (fun u => ⟨fun h => h, fun h => h⟩) hg hs1 hs2 hpl
theorem names_own {X : Cx} {C : Addr} {x : Str} (hm : X.mg x = some (.ref C)) (hg : Gl X x := by rfl) (hd : (x == ("__debug__" : Str)) = false := by decide) : Names X x (.ref C) := ⟨hg, hd, .inl hm⟩
end

/-! ### comprehensions, their names told first -/
section
variable {X : Cx} {tg iter : Expr} {src : IS} {g : UG} {u : UE} {pos : Pos} {vs : List Nat}
theorem de_lcv (own : List (Str × Nat)) {elt : Expr} {ifs : List Expr} {scope : Scope} {ct : UT} {GG : TG} (hc : X.calm = true) (hN : X.N.Nodup) (hi : DI X tg iter src) (ok : BlkOk X.N X.env.scope scope own) (hG : GR X.K g GG vs)
    (hg : ∀ (s : Shared) (H : Hp) (C : Addr) (cl : List (Str × Addr)) (fp : List Addr), PG (X.blk s H scope (compEnvC scope cl C X.env) fp) tg GG)
    (ht : ∀ (s : Shared) (H : Hp) (C : Addr) (cl : List (Str × Addr)) (fp : List Addr), DTs (X.blk s H scope (compEnvC scope cl C X.env) fp) ifs ct)
    (he : ∀ (s : Shared) (H : Hp) (C : Addr) (cl : List (Str × Addr)) (fp : List Addr), DE (X.blk s H scope (compEnvC scope cl C X.env) fp) elt u) (hvs : own.map (·.2) = vs := by rfl) (hs : ∀ x, foldedSetIterable iter X.env x = pure x := by intro _; rfl) :
    DE X (.ListComp elt [⟨tg, iter, ifs, 0⟩] scope pos) (uLc src g ct u vs) := by
  subst hvs
  exact de_lc hc hN hi ok hG hg ht he hs
theorem ds_setLcv (own : List (Str × Nat)) (i : Nat) {y : Str} {py spos : Pos} {elt : Expr} {ifs : List Expr} {scope : Scope} {ct : UT} {GG : TG} (hc : X.calm = true) (hN : X.N.Nodup) (hi : DI X tg iter src) (ok : BlkOk X.N X.env.scope scope own) (hG : GR X.K g GG vs)
    (hg : ∀ (s : Shared) (H : Hp) (C : Addr) (cl : List (Str × Addr)) (fp : List Addr), PG (X.blk s H scope (compEnvC scope cl C X.env) fp) tg GG)
    (ht : ∀ (s : Shared) (H : Hp) (C : Addr) (cl : List (Str × Addr)) (fp : List Addr), DTs (X.blk s H scope (compEnvC scope cl C X.env) fp) ifs ct)
    (he : ∀ (s : Shared) (H : Hp) (C : Addr) (cl : List (Str × Addr)) (fp : List Addr), DE (X.blk s H scope (compEnvC scope cl C X.env) fp) elt u)
    (hsw : swapsWith (.ListComp elt [⟨tg, iter, ifs, 0⟩] scope pos) (some (.Name y py)) spos.line X.env = pure true) (hvs : own.map (·.2) = vs := by rfl)
    (hy : X.N[i]? = some y := by rfl) (hyl : X.env.scope.names.lookup y = some .local := by rfl) (hs : ∀ x, foldedSetIterable iter X.env x = pure x := by intro _; rfl) :
    DS X (.Assign [.Name y py] (.ListComp elt [⟨tg, iter, ifs, 0⟩] scope pos) spos) (usSet i (uLc src g ct u vs)) := by
  subst hvs
  exact ds_setLc i hc hN hi ok hG hg ht he hsw hy hyl hs
end
end SL

set_option Elab.async false
set_option linter.all false
set_option maxRecDepth 100000
set_option maxHeartbeats 4000000
/-! SL13: words for the proofs of promises. -/
namespace SL
open PySem PySem.Spec L2
theorem cut_int {α : Type} {l : List α} {a b : Int} (ha : 0 ≤ a) (hb : 0 ≤ b) : cut l (some a) (some b) = (l.drop a.toNat).take (b.toNat - a.toNat) := by
  simp only [cut, HT.sIx]
  rw [if_neg (by omega), if_neg (by omega)]
  rcases Nat.le_total a.toNat l.length with h | h
  · rw [Nat.min_eq_left h]
    rcases Nat.le_total b.toNat l.length with h2 | h2
    · rw [Nat.min_eq_left h2]
    · rw [Nat.min_eq_right h2, List.take_of_length_le (by rw [List.length_drop]; omega), List.take_of_length_le (by rw [List.length_drop]; omega)]
  · rw [Nat.min_eq_right h]
    simp [List.drop_of_length_le h]
theorem cut_to {α : Type} {l : List α} {b : Int} (hb : 0 ≤ b) : cut l none (some b) = l.take b.toNat := by
  simp only [cut, HT.sIx]
  rw [if_neg (by omega)]
  simp only [Nat.sub_zero, List.drop_zero]
  rcases Nat.le_total b.toNat l.length with h | h
  · rw [Nat.min_eq_left h]
  · rw [Nat.min_eq_right h, List.take_of_length_le (Nat.le_refl _), List.take_of_length_le h]
theorem cut_from {α : Type} {l : List α} {a : Int} (ha : 0 ≤ a) : cut l (some a) none = l.drop a.toNat := by
  simp only [cut, HT.sIx]
  rw [if_neg (by omega)]
  rcases Nat.le_total a.toNat l.length with h | h
  · rw [Nat.min_eq_left h, List.take_of_length_le (by rw [List.length_drop]; omega)]
  · rw [Nat.min_eq_right h]; simp [List.drop_of_length_le h]
theorem Le.chg {S0 S : SS} {a : Addr} {o : Ob} (l : Le S0 S) (n : S0 a = none) : Le S0 (SL.sup S a o) := fun b u e => by
  rw [sup_ne (fun z => by rw [z, n] at e; cases e)]; exact l b u e
theorem Le.none_of {S0 S : SS} {a : Addr} (l : Le S0 S) (n : S a = none) : S0 a = none := by
  cases e : S0 a with
  | none => rfl
  | some o => rw [l a o e] at n; cases n
theorem atI_nat {α : Type} {xs : List α} {n : Nat} : L2.atI xs (n : Int) = xs[n]? := by
  unfold L2.atI
  by_cases h : n < xs.length
  · have : ixN xs.length (n : Int) = some n := by unfold ixN; simp; omega
    rw [this]; rfl
  · have : ixN xs.length (n : Int) = none := by unfold ixN; simp; omega
    rw [this]; simp; omega
theorem atI_last {α : Type} {xs : List α} : L2.atI xs (-1) = xs.getLast? := by
  unfold L2.atI
  cases xs with
  | nil => rfl
  | cons a r =>
    have : ixN (a :: r).length (-1) = some r.length := by unfold ixN; rw [if_neg (by omega), if_pos (by simp only [List.length_cons]; omega)]; simp only [List.length_cons]; congr 1; omega
    rw [this, List.getLast?_eq_getElem?]; rfl
theorem lstrip_len {x y : List Nat} : (sLstrip x y).length = x.length - (x.takeWhile fun c => decide (c ∈ y)).length := by
  unfold sLstrip
  rw [Txt.lstripChars, PySem.W.stripBy_eq]
  unfold PySem.W.stripped
  simp only [if_true]
  show (PySem.Builtin.Str.strSub (tx x) _ _).cps.toList.length = _
  unfold PySem.Builtin.Str.strSub
  have e : (tx y).cps.contains = fun c => decide (c ∈ y) := by funext c; simp [tx]
  rw [e, tx_cps]
  simp [tx, Str.length]
end SL

set_option Elab.async false
set_option linter.all false
set_option maxRecDepth 100000
set_option maxHeartbeats 4000000
/-! SL14: the end: defs and errors as the top has written them. -/
namespace SL
open PySem PySem.Spec L2 ClX
section
variable {P : Program} {w : World} {K : PySem.W.Frag} {mg : Str → Option Value} {base h : Heap}
/-- a def of the top -/
def D0 (K : PySem.W.Frag) (mg : Str → Option Value) (x : Str) (st : Stmt) : Prop := ∃ f fd, mg x = some (.ref f) ∧ FunD K x x (defArgs st) (defBody st) (defScope st) [] [] f fd
theorem d0_mk {x : Str} {st : Stmt} {f : Addr} {oc : Value} {od an : Option Addr} {osl : Array (Option Value)} {kV doc pm cdv ct : Value} (X : K.In h) (G : h.Ns mainGlobals mg) (a : PySem.W.nsIn K mainGlobals x = some (some (.ref f)))
    (l : K.lookup f = some ⟨oc, od, .func (PySem.W.fnOf x x (defArgs st) (defBody st) (defScope st) .none kV doc pm an cdv ct), osl⟩) (c : PySem.W.codeIn K cdv x = true) (k : PySem.W.keepIn K (.ref f) = true) : D0 K mg x st :=
  ⟨f, _, PySem.W.mg_of X G a, ⟨⟨oc, od, .none, kV, doc, pm, an, cdv, ct, osl, rfl, l, c, .inl ⟨rfl, rfl⟩, .inl rfl⟩, k⟩⟩
theorem ff_d0 {x : Str} {st : Stmt} {N ps : List Str} {k : Nat} {sp : FS} (d : D0 K mg x st) (S : FnScope N ps (defScope st)) (u : US)
    (hb : ∀ (kV doc pm : Value) (an : Option Addr) (cdv ct : Value) (us : List Value), us.length = ps.length → bindArgs (PySem.W.fnOf x x (defArgs st) (defBody st) (defScope st) .none kV doc pm an cdv ct) ⟨us, []⟩ = pure (ps.zip us))
    (hder : ∀ (f : Addr) (cdv : Value) (A : Around) (outer : List Env) (s : Shared) (H : Hp) (E : XK), Room k (A.deeper (PyProof.Rows.envOfC x (defScope st) s.heap.objs.size f cdv)) → DB (cxOf (L2N.CX P w) P w K mg base N x (defScope st) f cdv A outer s H E) (defBody st) u)
    (hsp : ∀ ds S Q Xq, sp ds S Q Xq → u (bodyE Q Xq) (startE N ds) S) : FF P w K mg base x (k + 1) ps sp ps.length [] gId := by
  obtain ⟨f, fd, hm, F⟩ := d
  exact ff_of hm F.kp (fn_d F S u (hder f) fun ds S Q Xq _ h => hsp ds S Q Xq h) (shp_plain (F.bindsN hb))
/-- of a promise that nobody asks for -/
theorem ff_void {x : Str} {st : Stmt} {ps : List Str} {k : Nat} {sp : FS} (d : D0 K mg x st)
    (hb : ∀ (kV doc pm : Value) (an : Option Addr) (cdv ct : Value) (us : List Value), us.length = ps.length → bindArgs (PySem.W.fnOf x x (defArgs st) (defBody st) (defScope st) .none kV doc pm an cdv ct) ⟨us, []⟩ = pure (ps.zip us))
    (hn : ∀ ds S Q X, ¬ sp ds S Q X) : FF P w K mg base x k ps sp ps.length [] gId := by
  obtain ⟨f, fd, hm, F⟩ := d
  refine ff_of hm F.kp ⟨fun vs H Q E hh => ?_, fun A outer s H args us vs Q E hr e0 hb r hh => ?_⟩ (shp_plain (F.bindsN hb))
  · obtain ⟨ds, S, Qd, Xd, _, _, _, h, _⟩ := hh
    exact (hn _ _ _ _ h).elim
  · obtain ⟨ds, S, Qd, Xd, _, _, _, h, _⟩ := hh
    exact (hn _ _ _ _ h).elim
theorem ff_up {x : Str} {k k' n : Nat} {ps ks : List Str} {sp : FS} {gD : List D → List D → List D} (h : FF P w K mg base x k ps sp n ks gD) (hk : k ≤ k') : FF P w K mg base x k' ps sp n ks gD := by
  obtain ⟨f, fd, h1, h2, h3, h4⟩ := h
  exact ⟨f, fd, h1, h2, ⟨h3.len, fun A outer s H args us vs Q E hr => h3.run A outer s H args us vs Q E (hr.mono hk)⟩, h4⟩

/-! ### errors -/
theorem ini1 {q : Str} {st : Stmt} {f : Addr} {fd : FuncData} {a1 : Str} {C : Addr} (F : FunD K "__init__" q (defArgs st) (defBody st) (defScope st) [] [] f fd) {p1 p2 p3 p4 : Pos} {sf pa : Str} (hbody : defBody st = [.Assign [.Attribute (.Name sf p1) a1 p2] (.Name pa p3) p4])
    (S : FnScope [sf, pa] [sf, pa] (defScope st)) (T : OexC K C) (no : PySem.W.findIn K (.ref C) a1 = some none)
    (hd : ∀ (cdv : Value) (A : Around) (outer : List Env) (s : Shared) (H : Hp) (E : XK), PS (cxOf (L2N.CX P w) P w K mg base [sf, pa] q (defScope st) f cdv A outer s H E) (.Assign [.Attribute (.Name sf p1) a1 p2] (.Name pa p3) p4) (tOst K a1 (tVar 0) (tVar 1))) :
    FnOk P w K mg base (L2N.CX P w) 1 f fd [sf, pa] (spIni C [a1]) := by
  refine F.ok S (fun vs H Q E h => ?_) (fun cdv A outer s H vs Q E hr h => ?_)
  · obtain ⟨a, ys, rfl, hl, _⟩ := h
    simp at hl ⊢; exact hl
  · obtain ⟨a, ys, rfl, hl, ha, k⟩ := h
    obtain ⟨y, rfl⟩ : ∃ y, ys = [y] := by
      cases ys with
      | nil => simp at hl
      | cons y r => cases r with
        | nil => exact ⟨y, rfl⟩
        | cons _ _ => simp at hl
    rw [hbody]
    refine ⟨_, pss_one (hd cdv A outer s H E), ?_⟩
    refine ⟨y, rfl, .ref a, rfl, a, C, rfl, T, no, .inl ⟨ha, fun dx hdx hne => ?_⟩⟩
    exact k dx _ hdx hne (fun b h1 h2 => by rw [upd_ne h2, upd_ne h1]) (by rw [upd_ne hne, upd_same]; rfl) upd_same
theorem ini2 {q : Str} {st : Stmt} {f : Addr} {fd : FuncData} {a1 a2 : Str} {C : Addr} (F : FunD K "__init__" q (defArgs st) (defBody st) (defScope st) [] [] f fd) {p1 p2 p3 p4 q1 q2 q3 q4 : Pos} {sf pa pb : Str} (hbody : defBody st = [.Assign [.Attribute (.Name sf p1) a1 p2] (.Name pa p3) p4, .Assign [.Attribute (.Name sf q1) a2 q2] (.Name pb q3) q4])
    (S : FnScope [sf, pa, pb] [sf, pa, pb] (defScope st)) (T : OexC K C) (no : PySem.W.findIn K (.ref C) a1 = some none) (no2 : PySem.W.findIn K (.ref C) a2 = some none)
    (hd : ∀ (cdv : Value) (A : Around) (outer : List Env) (s : Shared) (H : Hp) (E : XK), PS (cxOf (L2N.CX P w) P w K mg base [sf, pa, pb] q (defScope st) f cdv A outer s H E) (.Assign [.Attribute (.Name sf p1) a1 p2] (.Name pa p3) p4) (tOst K a1 (tVar 0) (tVar 1)))
    (hd2 : ∀ (cdv : Value) (A : Around) (outer : List Env) (s : Shared) (H : Hp) (E : XK), PS (cxOf (L2N.CX P w) P w K mg base [sf, pa, pb] q (defScope st) f cdv A outer s H E) (.Assign [.Attribute (.Name sf q1) a2 q2] (.Name pb q3) q4) (tOst K a2 (tVar 0) (tVar 2))) :
    FnOk P w K mg base (L2N.CX P w) 1 f fd [sf, pa, pb] (spIni C [a1, a2]) := by
  refine F.ok S (fun vs H Q E h => ?_) (fun cdv A outer s H vs Q E hr h => ?_)
  · obtain ⟨a, ys, rfl, hl, _⟩ := h
    simp at hl ⊢; exact hl
  · obtain ⟨a, ys, rfl, hl, ha, k⟩ := h
    obtain ⟨y, z, rfl⟩ : ∃ y z, ys = [y, z] := by
      cases ys with
      | nil => simp at hl
      | cons y r => cases r with
        | nil => simp at hl
        | cons z r => cases r with
          | nil => exact ⟨y, z, rfl⟩
          | cons _ _ => simp at hl
    rw [hbody]
    refine ⟨_, pss_cons (hd cdv A outer s H E) (pss_one (hd2 cdv A outer s H E)), ?_⟩
    refine ⟨y, rfl, .ref a, rfl, a, C, rfl, T, no, .inl ⟨ha, fun dx hdx hne => ?_⟩⟩
    refine ⟨z, rfl, .ref a, rfl, a, C, rfl, T, no2, .inr ⟨dx, _, upd_same, by rw [upd_ne hne, upd_same], by simp, ?_⟩⟩
    exact k dx _ hdx hne (fun b h1 h2 => by rw [upd_ne h1, upd_ne h2, upd_ne h1]) (by rw [upd_same]; rfl) (by rw [upd_ne hne.symm, upd_same])
theorem kit_ref {C C2 : Addr} {b : Bool} (h1 : PySem.W.subIn K (.ref C) (.ref C2) = some b) (h2 : PySem.W.isClsIn K C2 = true) (h3 : PySem.W.typeIn K (.ref C2) = some (.type "type")) (h4 : PySem.W.subIn K (.ref C) (.ref C) = some true) : PySem.W.kitOne K (.ref C) (.ref C2) = some b := by
  have e2 : ((PySem.W.clsIn K C2).isSome && PySem.W.typeIn K (.ref C2) == some (.type "type")) = true := by
    have h2' : (PySem.W.clsIn K C2).isSome = true := h2
    rw [h2', h3] <;> rfl
  unfold PySem.W.kitOne
  by_cases e : C = C2
  · subst e
    rw [h4] at h1
    cases h1
    rw [if_pos (by simp)]
  · rw [if_neg (by simpa using e)]
    show (if _ then _ else _) = _
    rw [if_pos e2]; exact h1
theorem kit_type {C : Addr} {T : String} {b : Bool} (h1 : PySem.W.subIn K (.ref C) (.type T) = some b) (hm : PySem.W.kitMeta T = true := by decide +kernel) : PySem.W.kitOne K (.ref C) (.type T) = some b := by
  unfold PySem.W.kitOne
  rw [if_neg (by simp)]
  show (if _ then _ else _) = _
  rw [if_pos hm]; exact h1
theorem repL_ints {H : Hp} : ∀ {ns : List Int}, RepL K H (ns.map D.int) (ns.map V.int)
  | [] => .nil
  | n :: r => .cons (rep_int.mpr rfl) repL_ints
/-- the script as law gets it -/
theorem lsp_law {H : Hp} {a : Addr} {ns : List Int} {sp : FS} (hS : SqL K H a (ns.map V.int)) (k : ∀ (sd : D) (S : SS), ((∃ a, sd = .ref a ∧ S a = some (.rol (ns.map .int))) ∨ sd = .kl (ns.map .int)) → sp [sd] S (fun d _ => d = .bl true) (fun _ _ _ => False)) :
    lsp K 1 sp [.ref a] H (fun v _ => v = .bl true) fun _ _ _ => False := by
  have rl : RepL K H (ns.map D.int) (ns.map V.int) := repL_ints
  rcases hS with hS | hS
  · refine ⟨[.ref a], fun b => if b = a then some (.rol (ns.map .int)) else none, fun d _ => d = .bl true, fun _ _ _ => False, .cons (rep_ref.mpr rfl) .nil, fun b o e => ?_, rfl, k _ _ (.inl ⟨a, rfl, by simp⟩), fun v d H' S' t r _ e => ?_, fun _ _ _ _ _ _ _ _ f => f⟩
    · simp only at e
      split at e
      · rename_i hb; subst hb; cases e; exact ⟨_, hS, rl⟩
      · cases e
    · subst e; exact rep_bl.mp r
  · refine ⟨[.kl (ns.map .int)], fun _ => none, fun d _ => d = .bl true, fun _ _ _ => False, .cons (rep_kl.mpr ⟨a, _, rfl, hS, rl⟩) .nil, fun b o e => (by cases e), rfl, k _ _ (.inr rfl), fun v d H' S' t r _ e => ?_, fun _ _ _ _ _ _ _ _ f => f⟩
    subst e; exact rep_bl.mp r
theorem cx_no {H : Hp} {s s' : Shared} {e : Value} (h : L2N.CX P w [] H s (fun _ _ _ => False) e s') : False := by
  obtain ⟨_, _, _, _, _, _, _, _, _, _, _, _, f⟩ := h
  exact f
end
end SL

set_option Elab.async false
set_option linter.all false
set_option maxRecDepth 100000
set_option maxHeartbeats 4000000
/-! SL15: len of an own object, list + list, str of a text. -/
namespace SL
open PySem PySem.Spec L2 ClX
/-- len(o), o an instance of the class at C, whose __len__ keeps sp -/
def uLenI (C : Addr) (sp : FS) (uo : UE) : UE := fun env S Q X => uo env S (fun d S1 => ∃ a fs, d = .ref a ∧ S1 a = some (.ins C fs) ∧ sp [d] S1 (fun r S2 => ∃ n : Int, r = .int n ∧ 0 ≤ n ∧ n < 2 ^ 62 ∧ Q (.int n) S2) noX) X
section
variable {X : Cx} {k : Nat} {f C : Addr} {fd : FuncData} {ps : List Str} {sp : FS} {p pos : Pos} {o a b : Expr} {uo ua ub : UE}
def rLenI (K : PySem.W.Frag) (C : Addr) (sp : FS) : List V → Hp → VK → Prop := fun xs H Q => ∃ (a : Addr) (fs : Fs) (S : SS) (Qd : QN), xs = [.ref a] ∧ AbsS K H S ∧ S a = some (.ins C fs) ∧ sp [.ref a] S (fun r S2 => ∃ n : Int, r = .int n ∧ 0 ≤ n ∧ n < 2 ^ 62 ∧ Qd (.int n) S2) noX ∧
  ∀ v d H' S', TK K H H' → Rep K H' d v → AbsS K H' S' → Qd d S' → Q v H'
theorem call_lenI (hs : PySem.W.findIn X.K (.ref C) "__len__" = some (some (.ref f))) (hf : PySem.W.typeIn X.K (.ref f) = some (.type "function")) (F : FnD X.prog X.w X.K X.mg X.base k f fd ps sp) (hr : Room (k + 1) X.A) (hb : Binds X.K fd ps []) (h1 : ps.length = 1) :
    CallR X (.builtin "len") (rLenI X.K C sp) := by
  intro pins s σ H xs us Q I r ⟨a, fs, S, Qd, ex, hA, es, hsp, hk⟩
  subst ex
  cases r with
  | cons rx rr =>
    cases rr
    cases rx
    obtain ⟨dx, vfs, eh, rf⟩ := hA.getI es
    obtain ⟨mA, om, _⟩ := ins_get I.hok eh
    obtain ⟨od, J, _⟩ := om.look
    refine Calls.call_function_entry kind_len plain_len entry_len (args_len1 _) ?_
    unfold Builtin.«len»
    refine wpAny_bind (m := oneArg "len" _) (wpAny_pure ?_)
    have hl : ([.ref a] : List Value).length = ps.length := by rw [h1]; rfl
    have hbb := hb s [.ref a] I.kIn (by rw [List.append_nil]; exact hl)
    rw [List.append_nil] at hbb
    have run := F.run X.A.in1 X.stack s H ⟨[.ref a], []⟩ [.ref a] [.ref a] (fun v H' => ∃ n : Int, v = .int n ∧ 0 ≤ n ∧ n < 2 ^ 62 ∧ ∀ v', RelV (.int n) v' → Q (.int n) H') (fun _ _ _ => False) hr.in1 I.env0.in1 hbb (.cons rfl .nil)
      ⟨[.ref a], S, _, _, .cons (rep_ref.mpr rfl) .nil, hA, h1.symm, hsp, fun v d H' S' t r a2 ⟨n, e, n0, n1, q⟩ => by
        subst e
        rw [rep_int] at r; subst r
        exact ⟨n, rfl, n0, n1, fun _ _ => hk _ _ _ _ t (rep_int.mpr rfl) a2 q⟩, fun _ _ _ _ _ _ _ _ z => z⟩
    refine wpAny_bind (m := callSpecial? (.ref a) (Str.ofString "__len__")) (PySem.W.special_fn I.kIn J hs hf (wpAny_call (codeAny_mono run fun r s' hq => ?_)))
    cases r with
    | error e =>
      obtain ⟨_, _, _, _, _, _, _, _, _, _, _, _, z⟩ := hq
      exact z.elim
    | ok fl =>
      cases fl with
      | ret u =>
        obtain ⟨v, H', J', rv, ⟨n, e, n0, n1, q⟩⟩ := I.after hq
        subst e
        obtain ⟨t, rfl⟩ := rv
        refine wpAny_bind (wpAny_holding (wpAny_pure ?_))
        refine wpAny_bind (wpAny_letGo ?_)
        show wpAny _ _ (if n < 0 then _ else _) _ _ _
        rw [if_neg (by omega)]
        show wpAny _ _ (if n ≥ 2 ^ 63 then _ else _) _ _ _
        rw [if_neg (by omega)]
        exact wpAny_bind (wpAny_mkInt (wpAny_pure ⟨_, rfl, .int n, H', J'.tok _, ⟨_, rfl⟩, q _ ⟨t, rfl⟩⟩))
      | next => exact False.elim hq
      | brk => exact False.elim hq
      | cont => exact False.elim hq
theorem de_lenI (he : DE X o uo) (hs : PySem.W.findIn X.K (.ref C) "__len__" = some (some (.ref f))) (hf : PySem.W.typeIn X.K (.ref f) = some (.type "function")) (F : FnD X.prog X.w X.K X.mg X.base k f fd ps sp) (hr : Room (k + 1) X.A) (hb : Binds X.K fd ps []) (h1 : ps.length = 1) (hm : X.mg "len" = none) (hg : Gl X "len" := by rfl)
    (hs1 : starEach [o] X.env = (false, eval o X.env) :: starEach [] X.env := by rfl) (hpl : (backTo pos (starEach [] X.env)).any (·.1) = false := by rfl) : DE X (.Call (.Name "len" p) [o] [] pos) (uLenI C sp uo) :=
  pe_imp (pe_callB (call_lenI hs hf F hr hb h1) hg hm PySem.boot_len (pa_cons he pa_nil hs1) (by decide) (by decide) hs1 hpl) fun σ H Q ⟨env, S, Qd, W, hE, hA, hT, hu, hk⟩ => ⟨env, S, _, W, hE, hA, hT, hu, fun v d H1 S1 t1 r1 a1 ⟨a, fs, ed, es, q⟩ => by
    subst ed
    rw [rep_ref] at r1; subst r1
    exact ⟨a, fs, S1, Qd, rfl, a1, es, q, fun v d H' S' t r a2 q2 => hk _ _ _ _ (t1.trans t) r a2 q2⟩⟩
/-- list + list -/
def uCat (ua ub : UE) : UE := fun env S Q X => ua env S (fun d1 S1 => ub env S1 (fun d2 S2 => ∃ a b xs ys, d1 = .ref a ∧ d2 = .ref b ∧ S2 a = some (.lst xs) ∧ S2 b = some (.lst ys) ∧ xs.length + ys.length ≤ sizeLine ∧ ∀ p, S2 p = none → Q (.ref p) (sup S2 p (.lst (xs ++ ys)))) X) X
theorem de_cat (ha : DE X a ua) (hb : DE X b ub) : DE X (.BinOp a .Add b pos) (uCat ua ub) :=
  pe_imp (pe_op op_cat ha hb) fun σ H Q ⟨env, S, Qd, W, hE, hA, hT, hu, hk⟩ => ⟨env, S, _, W, hE, hA, hT, hu, fun v1 d1 H1 S1 t1 r1 a1 q1 => ⟨env, S1, _, W, hE.keep t1, a1, tstep hT t1, q1, fun v2 d2 H2 S2 t2 r2 a2 ⟨x, y, xs, ys, e1, e2, s1, s2, hl, q⟩ => by
    subst e1 e2
    rw [rep_ref] at r1 r2; subst r1; subst r2
    obtain ⟨vx, ex, rx⟩ := a2.getL s1
    obtain ⟨vy, ey, ry⟩ := a2.getL s2
    refine ⟨x, y, vx, vy, rfl, rfl, ex, ey, by rw [rx.length, ry.length]; exact hl, fun p hp => hk _ _ _ _ ((t1.trans t2).trans (.new hp)) (rep_ref.mpr rfl) (a2.newL hp (rx.append ry)) (q p (a2.fresh hp))⟩⟩⟩
/-- str(x), x an int or a text -/
def fStr2 : SS → List D → Option D
  | _, [.str x] => some (.str x)
  | S, ds => fStr S ds
theorem cd_str2 : CallR X (.type "str") (rDV X.K (gP fStr2)) := by
  intro pins s σ H xs us Q I r ⟨S, ds, Qd, hA, rr, ⟨z, hz, q⟩, hk⟩
  unfold fStr2 at hz
  split at hz
  · cases hz
    rename_i x
    obtain ⟨v, t, e, r1, r2⟩ := repL_cons.mp rr
    rw [repL_nil] at r2; subst r2; subst e
    rw [rep_str] at r1; subst r1
    exact SkE.call_str_str pins s σ H _ us Q I r ⟨_, rfl, hk _ _ _ _ (.refl _ _) (rep_str.mpr rfl) hA q⟩
  · exact cd_str pins s σ H xs us Q I r ⟨S, ds, Qd, hA, rr, ⟨z, hz, q⟩, hk⟩
end
end SL

set_option Elab.async false
set_option linter.all false
set_option maxRecDepth 100000
set_option maxHeartbeats 4000000
/-! SL16: calls within an except suite. -/
namespace SL
open PySem PySem.Spec L2 ClX L2H
section
variable {P : Program} {w : World} {K : PySem.W.Frag} {mg : Str → Option Value} {base : Heap} {x qual : Str} {params : Arguments} {body : List Stmt} {scope : Scope} {f : Addr} {fd : FuncData}
/-- a def's promise where an exception is handled; nothing is raised -/
abbrev FnDH (P : Program) (w : World) (K : PySem.W.Frag) (mg : Str → Option Value) (base : Heap) (k : Nat) (f : Addr) (fd : FuncData) (ps : List Str) (sp : FS) : Prop := FnH P w K mg base CX0 k f fd ps (lsp K ps.length sp)
/-- THE RULE for such a def -/
theorem fn_dH {N ps : List Str} {k : Nat} {sp : FS} (F : FunD K x qual params body scope [] [] f fd) (S : FnScope N ps scope) (u : US)
    (hder : ∀ (cdv : Value) (A : Around) (outer : List Env) (s : Shared) (H : Hp) (E : XK) (p : Addr × Obj), RoomH k (A.deeper (PyProof.Rows.envOfC qual scope s.heap.objs.size f cdv)) → HotC (cxH CX0 P w K mg base N qual scope f cdv A outer s H E p) →
      DB (cxH CX0 P w K mg base N qual scope f cdv A outer s H E p) body u)
    (hno : ∀ ds S Q Xq, sp ds S Q Xq → sp ds S Q noX)
    (hsp : ∀ ds S Q, ds.length = ps.length → sp ds S Q noX → u (bodyE Q noX) (startE N ds) S) : FnDH P w K mg base (k + 1) f fd ps sp := by
  obtain ⟨oc, od, dV, kV, doc, pm, an, cdv, ct, osl, rfl, lk, hcd, _, _⟩ := F.ex
  refine fn_ofH lk hcd S (fun vs H Q E h => ?_) fun A outer s H vs Q E p hot hr h => ?_
  · obtain ⟨ds, S0, Qd, Xd, rv, hA, hl, _⟩ := h
    rw [rv.length, hl]
  · obtain ⟨ds, S0, Qd, Xd, rv, hA, hl, hs, hk, hx⟩ := h
    refine ⟨_, hder cdv A outer s H E p hr ⟨p, hot, List.mem_cons_self⟩, startE N ds, S0, bodyE Qd noX, start_env rv, hA, ?_, hsp _ _ _ hl (hno _ _ _ _ hs), ?_, ?_, ?_, ?_⟩
    · intro u s' z
      obtain ⟨_, _, _, _, _, _, _, _, _, _, _, _, _, _, _, _, zz⟩ := z
      obtain ⟨_, _, _, _, _, _, _, _, _, z3⟩ := zz
      exact z3.elim
    · exact fun σ' H' env' S' t hE hA' ⟨S2, hle, q⟩ => hk _ _ _ _ t (rep_non.mpr rfl) (hA'.le hle) q
    · exact fun v d H' S' t r hA' ⟨S2, hle, q⟩ => hk _ _ _ _ t r (hA'.le hle) q
    · exact fun σ' H' env' S' t hE hA' q => q.elim
    · exact fun σ' H' env' S' t hE hA' q => q.elim
end
/-- x(..) in a suite -/
def uCallH (n : Nat) (sp : FS) (ra : UA) : UE := fun env S Q X => ra env S (fun ds S1 => ds.length = n ∧ sp ds S1 Q noX) X
section
variable (P : Program) (w : World) (K : PySem.W.Frag) (mg : Str → Option Value) (base : Heap)
def FH (x : Str) (k : Nat) (ps : List Str) (sp : FS) : Prop := ∃ f fd, mg x = some (.ref f) ∧ PySem.W.keepIn K (.ref f) = true ∧ FnDH P w K mg base k f fd ps sp ∧ Binds K fd ps []
end
section
variable {X : Cx} {k j : Nat} {ps : List Str} {sp : FS} {x : Str} {p pos : Pos} {e : Expr} {es : List Expr} {ra : UA}
theorem de_ffH (h : FH X.prog X.w X.K X.mg X.base x k ps sp) (hr : RoomH j X.A) (hc : HotC X) (ha : DA X (e :: es) ra) (hk : k ≤ j := by decide) (hg : Gl X x := by rfl) (hdb : (x == ("__debug__" : Str)) = false := by decide)
    (he : starEach (e :: es) X.env = (false, eval e X.env) :: starEach es X.env := by rfl) (hpl : (backTo pos (starEach es X.env)).any (·.1) = false := by rfl) : DE X (.Call (.Name x p) (e :: es) [] pos) (uCallH ps.length sp ra) := by
  obtain ⟨f, fd, h1, h2, h3, h4⟩ := h
  refine pe_imp (pe_callH (E := fun _ _ _ _ => False) h3 (hr.mono hk) hc hg h1 h2 h4 (fun σ pins H s e s' I c => c.elim) ha hdb he hpl) fun σ H Q ⟨env, S, Qd, W, hE, hA, hT, hu, hk'⟩ => ?_
  refine ⟨env, S, _, W, hE, hA, hT, hu, fun vs ds H1 S1 t1 r1 a1 ⟨l, q⟩ => ?_⟩
  exact ⟨ds, S1, Qd, noX, r1, a1, l, q, fun v d H' S' t r a q2 => hk' _ _ _ _ (t1.trans t) r a q2, fun _ _ _ _ _ _ _ _ z => z⟩
end
end SL

set_option Elab.async false
set_option linter.all false
set_option maxRecDepth 100000
set_option maxHeartbeats 4000000
/-! SL17: facts: len of own objects; room where an exception is handled. -/
namespace SL
open PySem PySem.Spec L2 ClX L2H
section
variable (P : Program) (w : World) (K : PySem.W.Frag) (mg : Str → Option Value) (base : Heap)
/-- C's __len__ -/
def LF (C : Addr) (k : Nat) (ps : List Str) (sp : FS) : Prop := ∃ f fd, PySem.W.findIn K (.ref C) "__len__" = some (some (.ref f)) ∧ PySem.W.typeIn K (.ref f) = some (.type "function") ∧ FnD P w K mg base k f fd ps sp ∧ Binds K fd ps [] ∧ ps.length = 1
end
section
variable {X : Cx} {k j : Nat} {C : Addr} {ps : List Str} {sp : FS} {p pos : Pos} {o : Expr} {uo : UE}
theorem de_lf (he : DE X o uo) (h : LF X.prog X.w X.K X.mg X.base C k ps sp) (hr : Room j X.A) (hm : X.mg "len" = none) (hk : k + 1 ≤ j := by decide) (hg : Gl X "len" := by rfl)
    (hs1 : starEach [o] X.env = (false, eval o X.env) :: starEach [] X.env := by rfl) (hpl : (backTo pos (starEach [] X.env)).any (·.1) = false := by rfl) : DE X (.Call (.Name "len" p) [o] [] pos) (uLenI C sp uo) := by
  obtain ⟨f, fd, h1, h2, h3, h4, h5⟩ := h
  exact de_lenI he h1 h2 h3 (hr.mono hk) h4 h5 hm hg hs1 hpl
theorem rhM {j : Nat} (hr : Room j X.A) {h : Option Value} : RoomH j (X.A.mark h) := roomH_mark hr h
theorem huH64 (hr : RoomH j X.A) : X.A.units + 64 < cLine := by have := hr.un; omega
theorem huH65 (hr : RoomH j X.A) : X.A.units + 65 < cLine := by have := hr.un; omega
end
end SL

set_option Elab.async false
set_option linter.all false
set_option maxRecDepth 100000
set_option maxHeartbeats 4000000
/-! SL18: methods, properties, classmethods as the top has written them. -/
namespace SL
open PySem PySem.Spec L2 ClX L2H
section
variable {P : Program} {w : World} {K : PySem.W.Frag} {mg : Str → Option Value} {base h : Heap}
/-- a def at f -/
def At0 (K : PySem.W.Frag) (f : Addr) (x q : Str) (st : Stmt) (kws : List (Str × V)) : Prop := ∃ fd, FunD K x q (defArgs st) (defBody st) (defScope st) [] kws f fd
theorem at0_mk {x q : Str} {st : Stmt} {kws : List (Str × V)} {f : Addr} {oc : Value} {od an : Option Addr} {osl : Array (Option Value)} {kV doc pm cdv ct : Value}
    (l : K.lookup f = some ⟨oc, od, .func (PySem.W.fnOf x q (defArgs st) (defBody st) (defScope st) .none kV doc pm an cdv ct), osl⟩) (c : PySem.W.codeIn K cdv q = true) (k : PySem.W.keepIn K (.ref f) = true) (hk : KwdV K kV kws) : At0 K f x q st kws :=
  ⟨_, ⟨⟨oc, od, .none, kV, doc, pm, an, cdv, ct, osl, rfl, l, c, .inl ⟨rfl, rfl⟩, hk⟩, k⟩⟩
theorem At0.to0 {f : Addr} {x q : Str} {st : Stmt} {kws : List (Str × V)} {fd : FuncData} (F : FunD K x q (defArgs st) (defBody st) (defScope st) [] kws f fd) : FunD K x q (defArgs st) (defBody st) (defScope st) [] [] f fd := by
  obtain ⟨oc, od, dV, kV, doc, pm, an, cdv, ct, osl, e, l, c, h1, _⟩ := F.ex
  exact ⟨⟨oc, od, dV, kV, doc, pm, an, cdv, ct, osl, e, l, c, h1, .inl rfl⟩, F.kp⟩
def M0 (K : PySem.W.Frag) (C : Addr) (m q : Str) (st : Stmt) (kws : List (Str × V)) : Prop := ∃ f, Cls K C ∧ Meth K C m f ∧ At0 K f m q st kws
def P0 (K : PySem.W.Frag) (C : Addr) (m q : Str) (st : Stmt) : Prop := ∃ pp g, Cls K C ∧ PropOf K C m pp g ∧ At0 K g m q st []
def C0 (K : PySem.W.Frag) (C : Addr) (m q : Str) (st : Stmt) : Prop := ∃ mc pp g, CRead K C mc ∧ CMet K C mc m pp g ∧ At0 K g m q st []
def I0 (K : PySem.W.Frag) (mg : Str → Option Value) (x : Str) (C : Addr) (q : Str) (st : Stmt) (kws : List (Str × V)) : Prop := ∃ f, mg x = some (.ref C) ∧ Mk K C f ∧ At0 K f "__init__" q st kws
def L0 (K : PySem.W.Frag) (C : Addr) (q : Str) (st : Stmt) : Prop := ∃ f, PySem.W.findIn K (.ref C) "__len__" = some (some (.ref f)) ∧ PySem.W.typeIn K (.ref f) = some (.type "function") ∧ At0 K f "__len__" q st []
section
variable {x q : Str} {st : Stmt} {kws : List (Str × V)} {f : Addr} {fd : FuncData} {ps ks : List Str}
theorem shp_pl (F : FunD K x q (defArgs st) (defBody st) (defScope st) [] kws f fd)
    (hb : ∀ (kV doc pm : Value) (an : Option Addr) (cdv ct : Value) (us : List Value), us.length = ps.length → bindArgs (PySem.W.fnOf x q (defArgs st) (defBody st) (defScope st) .none kV doc pm an cdv ct) ⟨us, []⟩ = pure (ps.zip us)) : Shp K fd ps ps.length [] gId := shp_plain (F.bindsN hb)
theorem shp_ks (F : FunD K x q (defArgs st) (defBody st) (defScope st) [] kws f fd) (n : Nat) (hn : n + ks.length = ps.length)
    (hb : ∀ (kV doc pm : Value) (an : Option Addr) (cdv ct : Value) (us ws : List Value), us.length = n → ws.length = ks.length → bindArgs (PySem.W.fnOf x q (defArgs st) (defBody st) (defScope st) .none kV doc pm an cdv ct) ⟨us, ks.zip ws⟩ = pure (ps.zip (us ++ ws))) : Shp K fd ps n ks gApp := by
  obtain ⟨oc, od, dV, kV, doc, pm, an, cdv, ct, osl, rfl, lk, hcd, hD, hK⟩ := F.ex
  rcases hD with ⟨_, rfl⟩ | ⟨e, _⟩
  · exact shp_kw hn (hb kV doc pm an cdv ct)
  · exact absurd rfl e
/-- one keyword-only parameter that lacks: its default, None -/
theorem shp_no {k1 : Str} (F : FunD K x q (defArgs st) (defBody st) (defScope st) [] [(k1, .non)] f fd) (n : Nat) (hn : n + 1 = ps.length)
    (hb : ∀ (D : Addr) (doc pm : Value) (an : Option Addr) (cdv ct : Value) (us : List Value) (k : Value), us.length = n →
      KwChain D [(k1, k)] (bindArgs (PySem.W.fnOf x q (defArgs st) (defBody st) (defScope st) .none (.ref D) doc pm an cdv ct) ⟨us, []⟩) (ps.zip (us ++ [k]))) : Shp K fd ps n [] gNon := by
  obtain ⟨ds, hv, hb⟩ := F.binds0 n (ps := ps) (by simp) (by simpa using hn) fun D doc pm an cdv ct us ks l1 l2 => by
    match ks, l2 with
    | [k], _ => exact hb D doc pm an cdv ct us k l1
  exact shp_dfl (es := [.non]) hb hv (fun H => .cons (rep_non.mpr rfl) .nil) n (by simpa using hn)
end
section
variable {x m q : Str} {st : Stmt} {kws : List (Str × V)} {C : Addr} {N ps ks : List Str} {k n : Nat} {sp : FS} {gD : List D → List D → List D}
theorem mf_m0 (d : M0 K C m q st kws) (S : FnScope N ps (defScope st)) (u : US)
    (hsh : ∀ f fd, FunD K m q (defArgs st) (defBody st) (defScope st) [] kws f fd → Shp K fd ps (n + 1) ks gD)
    (hder : ∀ (f : Addr) (cdv : Value) (A : Around) (outer : List Env) (s : Shared) (H : Hp) (E : XK), Room k (A.deeper (PyProof.Rows.envOfC q (defScope st) s.heap.objs.size f cdv)) → DB (cxOf (L2N.CX P w) P w K mg base N q (defScope st) f cdv A outer s H E) (defBody st) u)
    (hsp : ∀ ds S Q Xq, sp ds S Q Xq → u (bodyE Q Xq) (startE N ds) S) : MF P w K mg base C m (k + 1) ps sp n ks gD := by
  obtain ⟨f, h1, h2, fd, F⟩ := d
  exact ⟨f, fd, h1, h2, fn_d F S u (hder f) fun ds S Q Xq _ h => hsp ds S Q Xq h, hsh f fd F⟩
theorem kf_i0 (d : I0 K mg x C q st kws) (S : FnScope N ps (defScope st)) (u : US)
    (hsh : ∀ f fd, FunD K "__init__" q (defArgs st) (defBody st) (defScope st) [] kws f fd → Shp K fd ps (n + 1) ks gD)
    (hder : ∀ (f : Addr) (cdv : Value) (A : Around) (outer : List Env) (s : Shared) (H : Hp) (E : XK), Room k (A.deeper (PyProof.Rows.envOfC q (defScope st) s.heap.objs.size f cdv)) → DB (cxOf (L2N.CX P w) P w K mg base N q (defScope st) f cdv A outer s H E) (defBody st) u)
    (hsp : ∀ ds S Q Xq, sp ds S Q Xq → u (bodyE Q Xq) (startE N ds) S) : KF P w K mg base x C (k + 1) ps sp n ks gD := by
  obtain ⟨f, h1, h2, fd, F⟩ := d
  exact ⟨f, fd, h1, h2, fn_d F S u (hder f) fun ds S Q Xq _ h => hsp ds S Q Xq h, hsh f fd F⟩
theorem pf_p0 (d : P0 K C m q st) (S : FnScope N ps (defScope st)) (u : US) (h1 : ps.length = 1)
    (hb : ∀ (kV doc pm : Value) (an : Option Addr) (cdv ct : Value) (us : List Value), us.length = ps.length → bindArgs (PySem.W.fnOf m q (defArgs st) (defBody st) (defScope st) .none kV doc pm an cdv ct) ⟨us, []⟩ = pure (ps.zip us))
    (hder : ∀ (f : Addr) (cdv : Value) (A : Around) (outer : List Env) (s : Shared) (H : Hp) (E : XK), Room k (A.deeper (PyProof.Rows.envOfC q (defScope st) s.heap.objs.size f cdv)) → DB (cxOf (L2N.CX P w) P w K mg base N q (defScope st) f cdv A outer s H E) (defBody st) u)
    (hsp : ∀ ds S Q Xq, sp ds S Q Xq → u (bodyE Q Xq) (startE N ds) S) : PF P w K mg base C m (k + 1) ps sp := by
  obtain ⟨pp, g, a1, a2, fd, F⟩ := d
  exact ⟨pp, g, fd, a1, a2, fn_d F S u (hder g) fun ds S Q Xq _ h => hsp ds S Q Xq h, F.bindsN hb, h1⟩
theorem lf_l0 (d : L0 K C q st) (S : FnScope N ps (defScope st)) (u : US) (h1 : ps.length = 1)
    (hb : ∀ (kV doc pm : Value) (an : Option Addr) (cdv ct : Value) (us : List Value), us.length = ps.length → bindArgs (PySem.W.fnOf "__len__" q (defArgs st) (defBody st) (defScope st) .none kV doc pm an cdv ct) ⟨us, []⟩ = pure (ps.zip us))
    (hder : ∀ (f : Addr) (cdv : Value) (A : Around) (outer : List Env) (s : Shared) (H : Hp) (E : XK), Room k (A.deeper (PyProof.Rows.envOfC q (defScope st) s.heap.objs.size f cdv)) → DB (cxOf (L2N.CX P w) P w K mg base N q (defScope st) f cdv A outer s H E) (defBody st) u)
    (hsp : ∀ ds S Q Xq, sp ds S Q Xq → u (bodyE Q Xq) (startE N ds) S) : LF P w K mg base C (k + 1) ps sp := by
  obtain ⟨f, a1, a2, fd, F⟩ := d
  exact ⟨f, fd, a1, a2, fn_d F S u (hder f) fun ds S Q Xq _ h => hsp ds S Q Xq h, F.bindsN hb, h1⟩
theorem cf_c0 (d : C0 K C m q st) (S : FnScope N ps (defScope st)) (u : US) (hn : n + 1 = ps.length)
    (hb : ∀ (kV doc pm : Value) (an : Option Addr) (cdv ct : Value) (us : List Value), us.length = ps.length → bindArgs (PySem.W.fnOf m q (defArgs st) (defBody st) (defScope st) .none kV doc pm an cdv ct) ⟨us, []⟩ = pure (ps.zip us))
    (hder : ∀ (f : Addr) (cdv : Value) (A : Around) (outer : List Env) (s : Shared) (H : Hp) (E : XK), Room k (A.deeper (PyProof.Rows.envOfC q (defScope st) s.heap.objs.size f cdv)) → DB (cxOf (L2N.CX P w) P w K mg base N q (defScope st) f cdv A outer s H E) (defBody st) u)
    (hsp : ∀ ds S Q Xq, ds.length = ps.length → sp ds S Q Xq → u (bodyE Q Xq) (startE N ds) S) : CF P w K mg base C m (k + 1) ps sp n := by
  obtain ⟨mc, pp, g, a1, a2, fd, F⟩ := d
  exact ⟨mc, pp, g, fd, a1, a2, fn_d F S u (hder g) hsp, F.bindsN hb, hn⟩
theorem fh_d0 (d : D0 K mg x st) (S : FnScope N ps (defScope st)) (u : US)
    (hb : ∀ (kV doc pm : Value) (an : Option Addr) (cdv ct : Value) (us : List Value), us.length = ps.length → bindArgs (PySem.W.fnOf x x (defArgs st) (defBody st) (defScope st) .none kV doc pm an cdv ct) ⟨us, []⟩ = pure (ps.zip us))
    (hder : ∀ (f : Addr) (cdv : Value) (A : Around) (outer : List Env) (s : Shared) (H : Hp) (E : XK) (p : Addr × Obj), RoomH k (A.deeper (PyProof.Rows.envOfC x (defScope st) s.heap.objs.size f cdv)) → HotC (cxH CX0 P w K mg base N x (defScope st) f cdv A outer s H E p) → DB (cxH CX0 P w K mg base N x (defScope st) f cdv A outer s H E p) (defBody st) u)
    (hno : ∀ ds S Q Xq, sp ds S Q Xq → sp ds S Q noX)
    (hsp : ∀ ds S Q, sp ds S Q noX → u (bodyE Q noX) (startE N ds) S) : FH P w K mg base x (k + 1) ps sp := by
  obtain ⟨f, fd, hm, F⟩ := d
  exact ⟨f, fd, hm, F.kp, fn_dH F S u (hder f) hno fun ds S Q _ h => hsp ds S Q h, F.bindsN hb⟩
end
end
end SL

set_option Elab.async false
set_option linter.all false
set_option maxRecDepth 100000
set_option maxHeartbeats 4000000
/-! SL19: where an exception is handled: loops over texts, lists and tuples; comprehensions; new instances. -/
namespace HotZ
open PySem PySem.Spec PyProof.Rows HotX
section
variable {prog : Program} {w : World} {A : Around} {E : Value → Shared → Prop} {s : Shared}
/-- the iterator's change leaves the handled exception as it is -/
theorem HotAt.but {x1 it : Addr} {h h' : Heap} (hot : HotAt A x1 h) (ne : x1 ≠ it) (sb : Heap.SameBut it h h') : HotAt A x1 h' := by
  obtain ⟨hh, o, vs, e, d, c⟩ := hot
  exact ⟨hh, o, vs, (sb.2 x1 ne).trans e, d, c⟩
theorem HotAt.ext {x1 : Addr} {h h' : Heap} (hot : HotAt A x1 h) (k : ∀ o, h.get? x1 = some o → h'.get? x1 = some o) : HotAt A x1 h' := by
  obtain ⟨hh, o, vs, e, d, c⟩ := hot
  exact ⟨hh, o, vs, k _ e, d, c⟩
theorem HotAt.lt {x1 : Addr} {h : Heap} (hot : HotAt A x1 h) : x1 < h.objs.size := by
  obtain ⟨hh, o, vs, e, d, c⟩ := hot
  exact Heap.lt_size e
theorem HotAt.in1 {x1 : Addr} {h : Heap} (hot : HotAt A x1 h) : HotAt A.in1 x1 h := hot
theorem list_end_hot {it l x1 : Addr} {i : Nat} {items} {Q : Option Value → Shared → Prop} (hot : HotAt A x1 s.heap) (ne : x1 ≠ it) (hit : s.heap.IsListIter it l i) (hl : s.heap.IsList l items) (hx : items[i]? = none)
    (hQ : ∀ h', Heap.ExtBut it s.heap h' → Q none { s with heap := h' }) : wpAny (model prog w) A (pyNext (.ref it)) Q E s := by
  obtain ⟨o, ho, hc, hd⟩ := id hit
  obtain ⟨ol, hol, _, nl, hdl⟩ := hl
  unfold pyNext
  refine wpAny_bind (wpAny_attempt (wpAny_callSpecial?_slot (name := Str.ofString "__next__") hit.typeIs slot_listiter_next (wpAny_call_entry slot_listiter_next hit.typeIs entry_listiter_next ?_ (args_listiter_next _))))
  show wpAny _ _ (field (.ref it) 0 >>= _) _ _ s
  refine wpAny_bind (wpAny_field ho hd (x := .ref l) rfl ?_)
  show wpAny _ _ (if (Value.ref l == Value.none) = true then _ else _) _ _ s
  rw [if_neg (show ¬ ((Value.ref l == Value.none) = true) from Bool.false_ne_true)]
  show wpAny _ _ (field (.ref it) 1 >>= _) _ _ s
  refine wpAny_bind (wpAny_field ho hd (x := .int i 0) rfl ?_)
  show wpAny _ _ (seqItems? (.ref l) >>= _) _ _ s
  refine wpAny_bind (wpAny_seqItems hol hdl ?_)
  simp only [Int.toNat_natCast, hx]
  refine wpAny_bind (wpAny_rule (wpAny_bind (wpAny_setField ho hd (by simp) ?_)))
  show wpAny _ _ (newExc (.type "StopIteration") [] >>= _) _ _ _
  refine wpAny_bind ?_
  simp only [newExc, newTuple]
  refine wpAny_bind (wpAny_newObj_type ?_ (by size_fits))
  refine wpAny_bind (m := firstArgMember _ _) (wpAny_of_eq (a := Value.none) (by first | rfl | (simp only [firstArgMember]; rfl)) ?_)
  refine wpAny_newObj_type ?_ (by size_fits)
  have sb := Heap.SameBut.update s.heap it (Obj.mapFields fun x => x.setIfInBounds 0 Value.none)
  have hot2 := HotAt.but hot ne sb
  refine raiseNew_hot (HotAt.ext hot2 (fun o e => Heap.get?_push_of_some _ (Heap.get?_push_of_some _ e))) (Nat.ne_of_lt (HotAt.lt (HotAt.ext hot2 (fun o e => Heap.get?_push_of_some _ e)))) (Heap.get?_push_size _ rfl) rfl (by first | (simp; done) | (simp; omega) | (simp only [Array.size_append]; simp; omega)) ?_
  refine wpAny_bind (wpAny_isInstance (T := "StopIteration") (b := true) ⟨_, Heap.get?_update_self _ (Heap.get?_push_size _ rfl) rfl, rfl⟩ isSubtype_stop ?_)
  refine wpAny_pure (hQ _ fun b o hb e => ?_)
  have e1 := sb.extBut b o hb e
  rw [Heap.get?_update_other _ _ (Nat.ne_of_gt (Heap.lt_size (Heap.get?_push_of_some _ e1)))]
  exact Heap.get?_push_of_some _ (Heap.get?_push_of_some _ e1)
theorem tuple_end_hot {it l x1 : Addr} {i : Nat} {items} {Q : Option Value → Shared → Prop} (hot : HotAt A x1 s.heap) (ne : x1 ≠ it) (hit : s.heap.IsTupleIter it l i) (hl : s.heap.IsTuple l items) (hx : items[i]? = none)
    (hQ : ∀ h', Heap.ExtBut it s.heap h' → Q none { s with heap := h' }) : wpAny (model prog w) A (pyNext (.ref it)) Q E s := by
  obtain ⟨o, ho, hc, hd⟩ := id hit
  obtain ⟨ol, hol, _, nl, hdl⟩ := hl
  unfold pyNext
  refine wpAny_bind (wpAny_attempt (wpAny_callSpecial?_slot (name := Str.ofString "__next__") hit.typeIs F.slot_tuple_iterator_next (wpAny_call_entry F.slot_tuple_iterator_next hit.typeIs F.entry_tuple_iterator_next ?_ (F.args_tuple_iterator_next_1 _))))
  show wpAny _ _ (field (.ref it) 0 >>= _) _ _ s
  refine wpAny_bind (wpAny_field ho hd (x := .ref l) rfl ?_)
  show wpAny _ _ (if (Value.ref l == Value.none) = true then _ else _) _ _ s
  rw [if_neg (show ¬ ((Value.ref l == Value.none) = true) from Bool.false_ne_true)]
  show wpAny _ _ (field (.ref it) 1 >>= _) _ _ s
  refine wpAny_bind (wpAny_field ho hd (x := .int i 0) rfl ?_)
  show wpAny _ _ (seqItems? (.ref l) >>= _) _ _ s
  refine wpAny_bind (wpAny_seqItems hol hdl ?_)
  simp only [Int.toNat_natCast, hx]
  refine wpAny_bind (wpAny_rule (wpAny_bind (wpAny_setField ho hd (by simp) ?_)))
  show wpAny _ _ (newExc (.type "StopIteration") [] >>= _) _ _ _
  refine wpAny_bind ?_
  simp only [newExc, newTuple]
  refine wpAny_bind (wpAny_newObj_type ?_ (by size_fits))
  refine wpAny_bind (m := firstArgMember _ _) (wpAny_of_eq (a := Value.none) (by first | rfl | (simp only [firstArgMember]; rfl)) ?_)
  refine wpAny_newObj_type ?_ (by size_fits)
  have sb := Heap.SameBut.update s.heap it (Obj.mapFields fun x => x.setIfInBounds 0 Value.none)
  have hot2 := HotAt.but hot ne sb
  refine raiseNew_hot (HotAt.ext hot2 (fun o e => Heap.get?_push_of_some _ (Heap.get?_push_of_some _ e))) (Nat.ne_of_lt (HotAt.lt (HotAt.ext hot2 (fun o e => Heap.get?_push_of_some _ e)))) (Heap.get?_push_size _ rfl) rfl (by first | (simp; done) | (simp; omega) | (simp only [Array.size_append]; simp; omega)) ?_
  refine wpAny_bind (wpAny_isInstance (T := "StopIteration") (b := true) ⟨_, Heap.get?_update_self _ (Heap.get?_push_size _ rfl) rfl, rfl⟩ isSubtype_stop ?_)
  refine wpAny_pure (hQ _ fun b o hb e => ?_)
  have e1 := sb.extBut b o hb e
  rw [Heap.get?_update_other _ _ (Nat.ne_of_gt (Heap.lt_size (Heap.get?_push_of_some _ e1)))]
  exact Heap.get?_push_of_some _ (Heap.get?_push_of_some _ e1)
theorem ascii_end_hot {it x1 : Addr} {x : Str} {t : Tok} {i : Nat} {Q : Option Value → Shared → Prop} (hot : HotAt A x1 s.heap) (ne : x1 ≠ it) (hit : s.heap.IsStrIter it "str_ascii_iterator" x t i) (hx : x.cps[i]? = none)
    (hQ : ∀ h', Heap.ExtBut it s.heap h' → Q none { s with heap := h' }) : wpAny (model prog w) A (pyNext (.ref it)) Q E s := by
  obtain ⟨o, ho, hc, hd⟩ := id hit
  unfold pyNext
  refine wpAny_bind (wpAny_attempt (wpAny_callSpecial?_slot (name := Str.ofString "__next__") hit.typeIs F.slot_str_ascii_iterator_next (wpAny_call_entry F.slot_str_ascii_iterator_next hit.typeIs F.entry_str_ascii_iterator_next ?_ (F.args_str_ascii_iterator_next_1 _))))
  show wpAny _ _ (field (.ref it) 0 >>= _) _ _ s
  refine wpAny_bind (wpAny_field ho hd (x := .str x t) rfl ?_)
  show wpAny _ _ (field (.ref it) 1 >>= _) _ _ s
  refine wpAny_bind (wpAny_field ho hd (x := .int i 0) rfl ?_)
  simp only [Int.toNat_natCast, hx]
  refine wpAny_bind (wpAny_rule (wpAny_bind (wpAny_setField ho hd (by simp) (wpAny_bind (wpAny_letGo ?_)))))
  show wpAny _ _ (newExc (.type "StopIteration") [] >>= _) _ _ _
  refine wpAny_bind ?_
  simp only [newExc, newTuple]
  refine wpAny_bind (wpAny_newObj_type ?_ (by size_fits))
  refine wpAny_bind (m := firstArgMember _ _) (wpAny_of_eq (a := Value.none) (by first | rfl | (simp only [firstArgMember]; rfl)) ?_)
  refine wpAny_newObj_type ?_ (by size_fits)
  have sb := Heap.SameBut.update s.heap it (Obj.mapFields fun x => x.setIfInBounds 0 Value.none)
  have hot2 := HotAt.but hot ne sb
  refine raiseNew_hot (HotAt.ext hot2 (fun o e => Heap.get?_push_of_some _ (Heap.get?_push_of_some _ e))) (Nat.ne_of_lt (HotAt.lt (HotAt.ext hot2 (fun o e => Heap.get?_push_of_some _ e)))) (Heap.get?_push_size _ rfl) rfl (by first | (simp; done) | (simp; omega) | (simp only [Array.size_append]; simp; omega)) ?_
  refine wpAny_bind (wpAny_isInstance (T := "StopIteration") (b := true) ⟨_, Heap.get?_update_self _ (Heap.get?_push_size _ rfl) rfl, rfl⟩ isSubtype_stop ?_)
  refine wpAny_pure (hQ _ fun b o hb e => ?_)
  have e1 := sb.extBut b o hb e
  rw [Heap.get?_update_other _ _ (Nat.ne_of_gt (Heap.lt_size (Heap.get?_push_of_some _ e1)))]
  exact Heap.get?_push_of_some _ (Heap.get?_push_of_some _ e1)
theorem wide_end_hot {it x1 : Addr} {x : Str} {t : Tok} {i : Nat} {Q : Option Value → Shared → Prop} (hot : HotAt A x1 s.heap) (ne : x1 ≠ it) (hit : s.heap.IsStrIter it "str_iterator" x t i) (hx : x.cps[i]? = none)
    (hQ : ∀ h', Heap.ExtBut it s.heap h' → Q none { s with heap := h' }) : wpAny (model prog w) A (pyNext (.ref it)) Q E s := by
  obtain ⟨o, ho, hc, hd⟩ := id hit
  unfold pyNext
  refine wpAny_bind (wpAny_attempt (wpAny_callSpecial?_slot (name := Str.ofString "__next__") hit.typeIs F.slot_str_iterator_next (wpAny_call_entry F.slot_str_iterator_next hit.typeIs F.entry_str_iterator_next ?_ (F.args_str_iterator_next_1 _))))
  show wpAny _ _ (field (.ref it) 0 >>= _) _ _ s
  refine wpAny_bind (wpAny_field ho hd (x := .str x t) rfl ?_)
  show wpAny _ _ (field (.ref it) 1 >>= _) _ _ s
  refine wpAny_bind (wpAny_field ho hd (x := .int i 0) rfl ?_)
  simp only [Int.toNat_natCast, hx]
  refine wpAny_bind (wpAny_rule (wpAny_bind (wpAny_setField ho hd (by simp) (wpAny_bind (wpAny_letGo ?_)))))
  show wpAny _ _ (newExc (.type "StopIteration") [] >>= _) _ _ _
  refine wpAny_bind ?_
  simp only [newExc, newTuple]
  refine wpAny_bind (wpAny_newObj_type ?_ (by size_fits))
  refine wpAny_bind (m := firstArgMember _ _) (wpAny_of_eq (a := Value.none) (by first | rfl | (simp only [firstArgMember]; rfl)) ?_)
  refine wpAny_newObj_type ?_ (by size_fits)
  have sb := Heap.SameBut.update s.heap it (Obj.mapFields fun x => x.setIfInBounds 0 Value.none)
  have hot2 := HotAt.but hot ne sb
  refine raiseNew_hot (HotAt.ext hot2 (fun o e => Heap.get?_push_of_some _ (Heap.get?_push_of_some _ e))) (Nat.ne_of_lt (HotAt.lt (HotAt.ext hot2 (fun o e => Heap.get?_push_of_some _ e)))) (Heap.get?_push_size _ rfl) rfl (by first | (simp; done) | (simp; omega) | (simp only [Array.size_append]; simp; omega)) ?_
  refine wpAny_bind (wpAny_isInstance (T := "StopIteration") (b := true) ⟨_, Heap.get?_update_self _ (Heap.get?_push_size _ rfl) rfl, rfl⟩ isSubtype_stop ?_)
  refine wpAny_pure (hQ _ fun b o hb e => ?_)
  have e1 := sb.extBut b o hb e
  rw [Heap.get?_update_other _ _ (Nat.ne_of_gt (Heap.lt_size (Heap.get?_push_of_some _ e1)))]
  exact Heap.get?_push_of_some _ (Heap.get?_push_of_some _ e1)
end
end HotZ

namespace SL
open PySem PySem.Spec PyProof.Rows L2 L2H HotX HotZ
/-! ### turns -/
theorem hot_ne {X : Cx} {pins : List (Addr × Obj)} {σ : L2.St} {H : Hp} {s : Shared} {b : Addr} (c : HotC X) (I : Inv X pins σ H s) (f : ∀ p ∈ X.pn ++ pins, p.1 ≠ b) : ∃ x1, HotAt X.A x1 s.heap ∧ x1 ≠ b := by
  obtain ⟨p, ⟨hh, v1, e1, c1⟩, hp⟩ := c
  exact ⟨p.1, ⟨hh, p.2, v1, (I.pin p (List.mem_append_left _ hp)).1, e1, c1⟩, f p (List.mem_append_left _ hp)⟩
theorem obj_it {h : Heap} {it : Addr} {o : Obj} {vs : Array Value} (e : h.get? it = some o) (d : o.data = .fields vs) : ∀ b ∈ [it], ∃ o, h.get? b = some o ∧ ∀ v, o.data ≠ .cell v := fun b hb => by
  obtain rfl : b = it := by simpa using hb
  exact ⟨o, e, fun v z => by rw [d] at z; cases z⟩
section
variable {P : Program} {w : World} {K : PySem.W.Frag} {tg : Expr}
theorem turn_listH (a it : Addr) : TurnH P w K tg (Itl K a) [it] it (fun i h => h.IsListIter it a i) where
  mem := List.mem_cons_self
  obj := fun i h ⟨o, e, c, d⟩ => obj_it e d
  keep := fun i h h' st k => st.at fun o e => k it List.mem_cons_self o e
  item := by
    rintro X rfl rfl rfl hc i pins s σ H E I hf st ⟨xs, x, hq, hx⟩
    obtain ⟨its, rv, p, hz⟩ := I.list hq
    obtain ⟨u, hu, ru⟩ := rv.get hx
    obtain ⟨f0, f1, f2, f3, f4, f5⟩ := hf it List.mem_cons_self
    refine wpAny_pyNext_list_item st p.isList (x := u) (by simpa using hu) fun h2 st2 sb => ?_
    obtain ⟨o, e, c, d⟩ := id st2
    exact ⟨u, rfl, go_of (s := { s with heap := h2 }) e c d (by decide) ⟨x, H, I.turned (t' := s.toks) (fun b o hb e => (sb.2 b hb).trans e) f0 f1 f3 f4 f5, ru, ⟨rfl, fun ys hy => by rw [I.list_inj hy hq]; exact hx⟩, st2, fun b hb => (hf b hb).1⟩⟩
  done := by
    rintro X rfl rfl rfl hc i pins s σ H E I hf st ⟨xs, hq, hx⟩
    obtain ⟨its, rv, p, hz⟩ := I.list hq
    obtain ⟨f0, f1, f2, f3, f4, f5⟩ := hf it List.mem_cons_self
    obtain ⟨x1, hot, ne⟩ := hot_ne hc I f5
    have hl := rv.length
    exact list_end_hot hot ne st p.isList (by simp; omega) fun h2 eb => ⟨rfl, I.turned (t' := s.toks) (fun b o hb e => eb b o hb e) f0 f1 f3 f4 f5⟩
  self := fun _ _ _ _ _ st h => wpAny_pyIter_listiter st h
theorem turn_tupleH (a it : Addr) : TurnH P w K tg (Itt K a) [it] it (fun i h => h.IsTupleIter it a i) where
  mem := List.mem_cons_self
  obj := fun i h ⟨o, e, c, d⟩ => obj_it e d
  keep := fun i h h' st k => st.at fun o e => k it List.mem_cons_self o e
  item := by
    rintro X rfl rfl rfl hc i pins s σ H E I hf st ⟨xs, x, hq, hx⟩
    obtain ⟨its, rv, p, hz⟩ := I.tuple hq
    obtain ⟨u, hu, ru⟩ := rv.get hx
    obtain ⟨f0, f1, f2, f3, f4, f5⟩ := hf it List.mem_cons_self
    refine wpAny_pyNext_tuple_item st (show s.heap.IsTuple a its.toArray from p) (x := u) (by simpa using hu) fun h2 st2 sb => ?_
    obtain ⟨o, e, c, d⟩ := id st2
    exact ⟨u, rfl, go_of (s := { s with heap := h2 }) e c d (by decide) ⟨x, H, I.turned (t' := s.toks) (fun b o hb e => (sb.2 b hb).trans e) f0 f1 f3 f4 f5, ru, ⟨rfl, fun ys hy => by rw [I.tuple_inj hy hq]; exact hx⟩, st2, fun b hb => (hf b hb).1⟩⟩
  done := by
    rintro X rfl rfl rfl hc i pins s σ H E I hf st ⟨xs, hq, hx⟩
    obtain ⟨its, rv, p, hz⟩ := I.tuple hq
    obtain ⟨f0, f1, f2, f3, f4, f5⟩ := hf it List.mem_cons_self
    obtain ⟨x1, hot, ne⟩ := hot_ne hc I f5
    have hl := rv.length
    exact tuple_end_hot hot ne st (show s.heap.IsTuple a its.toArray from p) (by simp; omega) fun h2 eb => ⟨rfl, I.turned (t' := s.toks) (fun b o hb e => eb b o hb e) f0 f1 f3 f4 f5⟩
  self := fun _ _ _ _ _ st h => wpAny_pyIter_tupleiter st h
theorem turn_asciiH (it : Addr) (x : Str) (t : Tok) : TurnH P w K tg (Its x) [it] it (fun i h => h.IsStrIter it "str_ascii_iterator" x t i) where
  mem := List.mem_cons_self
  obj := fun i h ⟨o, e, c, d⟩ => obj_it e d
  keep := fun i h h' ⟨o, ho, r⟩ k => ⟨o, k it List.mem_cons_self o ho, r⟩
  item := by
    rintro X rfl rfl rfl hc i pins s σ H E I hf st hg
    obtain ⟨f0, f1, f2, f3, f4, f5⟩ := hf it List.mem_cons_self
    have hi : i < x.cps.size := hg
    refine wpAny_pyNext_ascii_item st (c := x.cps[i]) (by simp [hi]) fun h2 st2 sb => ?_
    obtain ⟨o, e, c, d⟩ := id st2
    exact ⟨_, rfl, go_of (s := { s with heap := h2, toks := s.toks + 1 }) e c d (by decide) ⟨.str ⟨#[x.cps[i]]⟩, H, I.turned (fun b o hb e => (sb.2 b hb).trans e) f0 f1 f3 f4 f5, ⟨s.toks, rfl⟩, ⟨rfl, x.cps[i], by simp [hi], rfl⟩, st2, fun b hb => (hf b hb).1⟩⟩
  done := by
    rintro X rfl rfl rfl hc i pins s σ H E I hf st hg
    obtain ⟨f0, f1, f2, f3, f4, f5⟩ := hf it List.mem_cons_self
    obtain ⟨x1, hot, ne⟩ := hot_ne hc I f5
    exact ascii_end_hot hot ne st (Array.getElem?_eq_none hg) fun h2 eb => ⟨rfl, I.turned (t' := s.toks) (fun b o hb e => eb b o hb e) f0 f1 f3 f4 f5⟩
  self := fun A i s Q E st h => wpAny_pyIter_striter_ascii st h
theorem turn_wideH (it : Addr) (x : Str) (t : Tok) : TurnH P w K tg (Its x) [it] it (fun i h => h.IsStrIter it "str_iterator" x t i) where
  mem := List.mem_cons_self
  obj := fun i h ⟨o, e, c, d⟩ => obj_it e d
  keep := fun i h h' ⟨o, ho, r⟩ k => ⟨o, k it List.mem_cons_self o ho, r⟩
  item := by
    rintro X rfl rfl rfl hc i pins s σ H E I hf st hg
    obtain ⟨f0, f1, f2, f3, f4, f5⟩ := hf it List.mem_cons_self
    have hi : i < x.cps.size := hg
    refine wpAny_pyNext_wide_item st (c := x.cps[i]) (by simp [hi]) fun h2 st2 sb => ?_
    obtain ⟨o, e, c, d⟩ := id st2
    exact ⟨_, rfl, go_of (s := { s with heap := h2, toks := s.toks + 1 }) e c d (by decide) ⟨.str ⟨#[x.cps[i]]⟩, H, I.turned (fun b o hb e => (sb.2 b hb).trans e) f0 f1 f3 f4 f5, ⟨s.toks, rfl⟩, ⟨rfl, x.cps[i], by simp [hi], rfl⟩, st2, fun b hb => (hf b hb).1⟩⟩
  done := by
    rintro X rfl rfl rfl hc i pins s σ H E I hf st hg
    obtain ⟨f0, f1, f2, f3, f4, f5⟩ := hf it List.mem_cons_self
    obtain ⟨x1, hot, ne⟩ := hot_ne hc I f5
    exact wide_end_hot hot ne st (Array.getElem?_eq_none hg) fun h2 eb => ⟨rfl, I.turned (t' := s.toks) (fun b o hb e => eb b o hb e) f0 f1 f3 f4 f5⟩
  self := fun A i s Q E st h => wpAny_pyIter_striter_wide st h
end
/-! ### what is walked -/
def DIH (X : Cx) (tg e : Expr) (u : IS) : Prop := PIH X tg e (LI X u)
theorem oneH {X : Cx} {pins : List (Addr × Obj)} {σ : L2.St} {H1 : Hp} {s1 : Shared} {tg : Expr} {J : It} {R : It → Hp → Prop} {o : Obj} {tn : Nat → Heap → Prop} (I1 : Inv X pins σ H1 s1)
    (T : TurnH X.prog X.w X.K tg J [s1.heap.objs.size] s1.heap.objs.size tn) (h0 : tn 0 (s1.heap.push o)) (q : R J H1) : PIEH X pins σ tg R (.ref s1.heap.objs.size) { s1 with heap := s1.heap.push o } := by
  refine ⟨_, _, _, _, H1, rfl, I1.kept (t' := s1.toks) fun b o e => Heap.get?_push_of_some _ e, T, h0, fun b hb => ?_, q⟩
  obtain rfl : b = s1.heap.objs.size := by simpa using hb
  exact I1.fpOk (Nat.le_refl _) (I1.hok.fresh (Nat.le_refl _))
section
variable {X : Cx} {tg e a b iter elt : Expr} {u v : UE} {pos p : Pos} {g : UG} {body : US} {src : IS}
theorem di_seqH (he : DE X e u) : DIH X tg e (isSeq u) := ⟨fun pins s σ H R I ⟨env, S, Kd, W, hE, hA, hT, hu, hk⟩ => by
  refine thn (PE.run he pins s σ H (fun v H1 => ∃ d S1, TK X.K H H1 ∧ Rep X.K H1 d v ∧ AbsS X.K H1 S1 ∧ vSeq d S1 Kd) I ⟨env, S, _, W, hE, hA, hT, hu, fun v d H' S' t r a q => ⟨d, S', t, r, a, q⟩⟩) fun v s1 ⟨x, H1, I1, r1, d, S1, t1, rd, a1, q1⟩ => ?_
  unfold vSeq at q1
  split at q1
  · obtain ⟨a, vs, ex, hq, rr⟩ := rep_tup.mp rd
    subst ex
    cases r1
    obtain ⟨its, rv, pp, hz⟩ := I1.tuple hq
    exact wpAny_pyIter_tuple (show s1.heap.IsTuple a its.toArray from pp) (oneH I1 (turn_tupleH a _) ⟨_, Heap.get?_push_size _ rfl, rfl, rfl⟩ (hk _ _ _ _ _ t1 a1 (itd_tup hq rr) q1))
  · rename_i y
    rw [rep_str] at rd; subst rd
    obtain ⟨t, rfl⟩ := r1
    cases ha : (tx y).cps.all (· < 128)
    · exact wpAny_pyIter_wide ha (oneH I1 (turn_wideH _ _ t) ⟨_, Heap.get?_push_size _ rfl, rfl, rfl⟩ (hk _ _ _ _ _ t1 a1 itd_str q1))
    · exact wpAny_pyIter_ascii ha (oneH I1 (turn_asciiH _ _ t) ⟨_, Heap.get?_push_size _ rfl, rfl, rfl⟩ (hk _ _ _ _ _ t1 a1 itd_str q1))
  · rename_i a
    rw [rep_ref] at rd; subst rd
    cases r1
    have go : ∀ {vs : List V} {xs : List D} {gd : SS → Prop}, SqL X.K H1 a vs → (∀ H S, AbsS X.K H S → gd S → ∃ vs, SqL X.K H a vs ∧ RepL X.K H xs vs) → Kd xs gd S1 → wpAny (model X.prog X.w) X.A (pyIter (.ref a)) (PIEH X pins σ tg R) X.xe s1 := by
      intro vs xs gd hq hg q1
      obtain ⟨its, rv, pp, hz⟩ := I1.list hq
      exact wpAny_pyIter_list pp.isList (oneH I1 (turn_listH a _) ⟨_, Heap.get?_push_size _ rfl, rfl, rfl⟩ (hk _ _ _ _ _ t1 a1 (itd_lst hg) q1))
    split at q1
    · rename_i xs es
      obtain ⟨vs, hq, rr⟩ := a1 _ _ es
      exact go (.of hq) (fun H S hA g => let ⟨vs, q, r⟩ := hA.getL g; ⟨vs, .of q, r⟩) q1
    · rename_i xs es
      obtain ⟨vs, hq, rr⟩ := a1 _ _ es
      exact go (.inl hq) (fun H S hA g => let ⟨vs, q, r⟩ := hA.getR g; ⟨vs, .inl q, r⟩) q1
    · exact q1.elim
  · exact q1.elim⟩
theorem di_rngH (he : DA X [a] (uCons u uNil)) (hg : Gl X "range") (hm : X.mg "range" = none) (hs : starEach [a] X.env = [(false, eval a X.env)] := by rfl) : DIH X tg (.Call (.Name "range" p) [a] [] pos) (isRng u) :=
  ⟨fun pins s σ H R I ⟨env, S, Kd, W, hE, hA, hT, hu, hk⟩ => (pi_range1H hg hm he hs).run pins s σ H R I ⟨env, S, fun ds S1 => ∃ n : Int, ds = [.int n] ∧ -(2 ^ 62) ≤ n ∧ n < 2 ^ 62 ∧ Kd (irng 0 n.toNat) (fun _ => True) S1, W, hE, hA, hT, by
      show u env S _ _
      have e : (fun d S1 => uNil env S1 (fun ds S2 => ∃ n : Int, d :: ds = [.int n] ∧ -(2 ^ 62) ≤ n ∧ n < 2 ^ 62 ∧ Kd (irng 0 n.toNat) (fun _ => True) S2) (fun c fs S' => W c fs env S')) = fun d S1 => ∃ n : Int, d = .int n ∧ -(2 ^ 62) ≤ n ∧ n < 2 ^ 62 ∧ Kd (irng 0 n.toNat) (fun _ => True) S1 := by
        funext d S1
        simp [uNil]
      rw [e]
      exact hu, fun vs ds H' S' t r a1 ⟨n, e, h1, h2, q⟩ => by
        subst e
        obtain ⟨v, t', ev, r1, r2⟩ := repL_cons.mp r
        rw [rep_int] at r1; rw [repL_nil] at r2; subst r1; subst r2
        exact ⟨n, ev, h1, h2, hk _ _ _ _ _ t a1 (itd_rng) q⟩⟩⟩
end
end SL

set_option Elab.async false
set_option linter.all false
set_option maxRecDepth 100000
set_option maxHeartbeats 4000000
/-! SL20: where an exception is handled: for, comprehensions, new instances. -/
namespace SL
open PySem PySem.Spec PyProof.Rows L2 L2H HotX HotZ ClX
section
variable {X : Cx} {tg iter elt : Expr} {g : UG} {body : US} {src : IS} {pos : Pos}
theorem lift_for {D : Ends} {σ : L2.St} {H : Hp} (h : LS X (usFor src g body) D σ H) : tFor (LI X src) (LG X g) (LS X body) D σ H := by
  obtain ⟨env, S, E, hE, hA, hT, hu, hn, hr, hb, hct⟩ := h
  refine ⟨env, S, _, E.ex, hE, hA, hT, hu, fun J xs gd H1 S1 t1 a1 itd q1 => ?_⟩
  refine ⟨fun i m σ' H' => m = xs.length - i ∧ i ≤ xs.length ∧ ∃ env' S', TK X.K H1 H' ∧ EnvR X.K H' env' σ' ∧ AbsS X.K H' S' ∧ forL g body gd E (xs.drop i) env' S', ⟨xs.length, by simp, Nat.zero_le _, env, S1, .refl _ _, hE.keep t1, a1, by simpa using q1⟩, ?_⟩
  rintro i m σ' H' ⟨rfl, hi, env', S', t2, e2, a2, q2⟩
  by_cases hlt : i < xs.length
  · rw [List.drop_eq_getElem_cons hlt] at q2
    obtain ⟨gs, q2⟩ := q2
    refine .inr ⟨itd.go i H' S' t2 a2 gs hlt, fun σ3 H3 => ∃ env3 S3, TK X.K H1 H3 ∧ EnvR X.K H3 env3 σ3 ∧ AbsS X.K H3 S3 ∧ forL g body gd E (xs.drop (i + 1)) env3 S3, fun σ3 H3 w => ⟨xs.length - (i + 1), by omega, rfl, hlt, w⟩, fun x H3 y => ?_⟩
    obtain ⟨s3, d, hd, rd⟩ := itd.yld i H' S' x H3 t2 a2 gs hlt y
    have ed : xs[i] = d := by rw [List.getElem?_eq_getElem hlt] at hd; exact Option.some.inj hd
    subst ed
    have t3 : TK X.K H' H3 := .of_same s3
    refine ⟨_, S', env', _, e2.keep t3, a2.same s3, rd, q2, fun env4 σ4 e4 q4 => ?_⟩
    have tt := (t1.trans t2).trans t3
    refine ⟨env4, S', { nx := forL g body gd E (xs.drop (i + 1)), ct := forL g body gd E (xs.drop (i + 1)), bk := E.nx, rt := E.rt, ex := E.ex }, e4, a2.same s3, tstep hT tt, q4, fun σ5 H5 env5 S5 t5 e5 a5 q5 => ⟨env5, S5, (t2.trans t3).trans t5, e5, a5, q5⟩, fun v d H5 S5 t5 r5 a5 q5 => hr _ _ _ _ (tt.trans t5) r5 a5 q5,
      fun σ5 H5 env5 S5 t5 e5 a5 q5 => hn _ _ _ _ (tt.trans t5) e5 a5 q5, fun σ5 H5 env5 S5 t5 e5 a5 q5 => ⟨env5, S5, (t2.trans t3).trans t5, e5, a5, q5⟩⟩
  · have ei : i = xs.length := by omega
    subst ei
    rw [List.drop_length] at q2
    exact .inl ⟨itd.stop H' S' t2 a2 q2.1, hn _ _ _ _ (t1.trans t2) e2 a2 q2.2⟩
theorem ds_forH {sts : List Stmt} (hp : PassesOwn (model X.prog X.w) X.A X.env X.xe) (hc : HotC X) (hi : DIH X tg iter src) (hg : DG X tg g) (hb : DB X sts body) (hs : ∀ x, foldedSetIterable iter X.env x = pure x := by intro _; rfl) :
    DS X (.For tg iter sts [] pos) (usFor src g body) := ps_imp (ps_forH hp hc hi hg hb hs) fun D σ H h => lift_for h
end
/-! ### comprehensions -/
/-- a comprehension's block; what is handled is told there, too -/
abbrev blkH (X : Cx) (s : Shared) (H : Hp) (scope : Scope) (cenv : Env) (fp : List Addr) : Cx := { X.blk s H scope cenv fp with pn := X.pn }
theorem hot_blk {X : Cx} {s : Shared} {H : Hp} {scope : Scope} {cenv : Env} {fp : List Addr} (h : HotC X) : HotC (blkH X s H scope cenv fp) := h
section
variable {X : Cx} {pins : List (Addr × Obj)} {σ : L2.St} {H : Hp} {s : Shared}
theorem to_blkH {s3 s4 : Shared} {H3 : Hp} {scope : Scope} {cenv : Env} {fp : List Addr} {σ' : L2.St} (I3 : Inv X pins σ H3 s3) (I4 : Inv (X.blk s3 H3 scope cenv fp) [] σ' H3 s4) (k : ∀ b o, s3.heap.get? b = some o → s4.heap.get? b = some o) (hl : s3.heap.objs.size ≤ cenv.locals) :
    Inv (blkH X s3 H3 scope cenv fp) [] σ' H3 s4 := by
  have o := I4.ok
  refine ⟨⟨o.mod, o.kind, o.glob, o.blt, o.above, o.inj, o.has, o.cab, o.hd, o.frames, o.stk, o.exf, o.bs, o.bsz, o.noex, o.exfs, o.funs, o.frf⟩, I4.os, I4.bare, I4.base, I4.loc, I4.cell, I4.free, I4.freeC, fun p hp => ?_, I4.hok, I4.len⟩
  have hp' : p ∈ X.pn := by simpa using (show p ∈ X.pn ++ ([] : List (Addr × Obj)) from hp)
  have P1 := I3.pin p (List.mem_append_left _ hp')
  exact ⟨k _ _ P1.1, P1.2.1, Nat.ne_of_lt (Nat.lt_of_lt_of_le (Heap.lt_size P1.1) hl), fun hm => (List.mem_cons.mp (I3.stkSub p.1 hm)).elim P1.2.2.1 P1.2.2.2.1, P1.2.2.2.2⟩
end
section
variable {X : Cx}
theorem lc_coreH {pins : List (Addr × Obj)} {s : Shared} {σ : L2.St} {H : Hp} {Q : VK} {elt tg iter : Expr} {ifs : List Expr} {scope : Scope} {own : List (Str × Nat)} {pos pos' : Pos} {wi : TI} {g : TG} {tt : TT} {te : TE} {use : Option (Value → Sem Unit)} {Qf : Value → Shared → Prop}
    (hot : HotC X) (hN : X.N.Nodup) (I : Inv X pins σ H s) (hi : PIH X tg iter wi) (ok : BlkOk X.N X.env.scope scope own)
    (hg : ∀ (s : Shared) (H : Hp) (C : Addr) (cl : List (Str × Addr)) (fp : List Addr), PG (blkH X s H scope (compEnvC scope cl C X.env) fp) tg g) (ht : ∀ (s : Shared) (H : Hp) (C : Addr) (cl : List (Str × Addr)) (fp : List Addr), PTs (blkH X s H scope (compEnvC scope cl C X.env) fp) ifs tt)
    (he : ∀ (s : Shared) (H : Hp) (C : Addr) (cl : List (Str × Addr)) (fp : List Addr), PE (blkH X s H scope (compEnvC scope cl C X.env) fp) elt te) (hs : ∀ x, foldedSetIterable iter X.env x = pure x)
    (h : tLc wi g tt te (own.map (·.2)) σ H Q)
    (hRR : ∀ D C s' m H', Inv X pins σ H' s' → Q (.ref D) H' → s'.heap.Ns C m → FpOk X pins H' C → compPost (model X.prog X.w) X.A X.xe use Qf (.ref D) C (.ok .next) s') :
    wpAny (model X.prog X.w) X.A (comprehension (.ListComp elt [⟨tg, iter, ifs, 0⟩] scope pos) scope X.env pos' (newList []) false (eval iter X.env) use) Qf X.xe s := by
  have hfree : ∀ y ∈ scope.names, y.2 = .free → ∃ c, X.env.cells.lookup y.1 = some c := fun y hy e => (ok.free y hy e).elim (fun k => I.ok.has _ (.inl k)) (fun k => I.ok.has _ (.inr k))
  refine wpAny_comprehension_free (use := use) rfl hs (closure_ok hfree) ok.kind (fun y hy e => by rw [ok.uniq y hy, e]) (thn (hi.run pins s σ H _ I h) fun xv s1 hx => thn hx fun itv s2 h2 => ?_)
  obtain ⟨it, fp, tn, J, H2, e, I2, T, st2, f2, q⟩ := h2
  subst e
  refine wpAny_newObj_type (newEnv_comp ?_) (by show 0 ≤ sizeLine; decide)
  generalize hD : s2.heap.objs.size = D
  obtain ⟨W, ⟨m0, w0⟩, turn⟩ := q D (I2.hok.fresh (Nat.le_of_eq hD))
  generalize hs3 : ({ s2 with heap := s2.heap.push { cls := .type "list", data := .seq ([] : List Value).toArray } } : Shared) = s3
  have I3 : Inv X pins σ (upd H2 D (.lst [])) s3 := by
    rw [← hs3]
    exact I2.laid (t' := s2.toks) (fun b o e => Heap.get?_push_of_some _ e) (Nat.le_of_eq hD) ⟨Nat.zero_le _, [], 0, .nil, by rw [← hD]; exact Heap.get?_push_size _ rfl⟩
  have h3 : s3.heap = s2.heap.push { cls := .type "list", data := .seq ([] : List Value).toArray } := by rw [← hs3]
  have f3 : ∀ b ∈ fp, FpOk X pins (upd H2 D (.lst [])) b ∧ b < s3.heap.objs.size := fun b hb => by
    obtain ⟨o, e, _⟩ := T.obj _ _ st2 b hb
    have hlt := Heap.lt_size e
    exact ⟨⟨by rw [upd_ne (by rw [← hD]; exact Nat.ne_of_lt hlt)]; exact (f2 b hb).1, (f2 b hb).2⟩, by rw [h3, Heap.size_push]; exact Nat.lt_succ_of_lt hlt⟩
  have st3 : tn 0 s3.heap := T.keep _ _ _ st2 fun b _ o e => by rw [h3]; exact Heap.get?_push_of_some _ e
  have I4' := block_start I3 ok hN f3
  have kp : ∀ b o, s3.heap.get? b = some o → (pushCells (s3.heap.push { cls := .type "dict", data := .dict #[] }) scope.names).get? b = some o := fun b o e => pushCells_keeps _ _ _ _ (Heap.get?_push_of_some _ e)
  have I4 := to_blkH I3 I4' kp (Nat.le_refl _)
  have pg := hg s3 (upd H2 D (.lst [])) s3.heap.objs.size (cellsFrom (s3.heap.objs.size + 1) scope.names (cloFrom X.env.cells scope.names [])) fp
  have pt := ht s3 (upd H2 D (.lst [])) s3.heap.objs.size (cellsFrom (s3.heap.objs.size + 1) scope.names (cloFrom X.env.cells scope.names [])) fp
  have pe := he s3 (upd H2 D (.lst [])) s3.heap.objs.size (cellsFrom (s3.heap.objs.size + 1) scope.names (cloFrom X.env.cells scope.names [])) fp
  show codeAny _ _ (.compStart (.ListComp elt [⟨tg, iter, ifs, 0⟩] scope pos) 0 (.ref it) (.ref D) (compEnvC scope (cellsFrom (s3.heap.objs.size + 1) scope.names (cloFrom X.env.cells scope.names [])) s3.heap.objs.size X.env)) (compPost (model X.prog X.w) X.A X.xe use Qf (.ref D) s3.heap.objs.size) { s3 with heap := pushCells (s3.heap.push { cls := .type "dict", data := .dict #[] }) scope.names }
  have nfp : ∀ b ∈ fp, (upd H2 D (.lst [])) b = none := fun b hb => (f3 b hb).1.1
  generalize hce : compEnvC scope (cellsFrom (s3.heap.objs.size + 1) scope.names (cloFrom X.env.cells scope.names [])) s3.heap.objs.size X.env = ce at I4 pg pt pe ⊢
  have cL : ce.locals = s3.heap.objs.size := by subst hce; rfl
  generalize hH3 : upd H2 D (.lst []) = H3 at I3 I4 pg pt pe w0 nfp f3
  generalize hs4 : ({ s3 with heap := pushCells (s3.heap.push { cls := .type "dict", data := .dict #[] }) scope.names } : Shared) = s4 at I4 ⊢
  have st4 : tn 0 s4.heap := T.keep _ _ _ st3 fun b _ o e => by rw [← hs4]; exact kp b o e
  have hb4 : HotC (blkH X s3 H3 scope ce fp) := hot_blk hot
  have stat : ∀ {σ' : L2.St} {H' : Hp} {s' : Shared}, Inv (blkH X s3 H3 scope ce fp) [] σ' H' s' → (∀ b ∈ fp, H' b = none) → ∀ b ∈ fp, FpOk (blkH X s3 H3 scope ce fp) [] H' b := fun {σ' H' s'} I' hn b hb =>
    ⟨hn b hb, (I'.ok.exf b hb).1, I'.ok.exfs b hb, .inl hb, fun x c e => (I'.ok.exf b hb).2 x c e, fun p hp => (f3 b hb).1.2.2.2.2.2 p (List.mem_append_left _ (by simpa using (show p ∈ X.pn ++ ([] : List (Addr × Obj)) from hp)))⟩
  have loop : codeAny (model X.prog X.w) X.A (.compLoop (.ListComp elt [⟨tg, iter, ifs, 0⟩] scope pos) 0 (.ref it) (.ref D) ce) (compPost (model X.prog X.w) X.A X.xe use Qf (.ref D) s3.heap.objs.size) s4 := by
    refine compLoop_any (fun n s' => ∃ i H', Inv (blkH X s3 H3 scope ce fp) [] (wipe σ (own.map (·.2))) H' s' ∧ tn i s'.heap ∧ (∀ b ∈ fp, H' b = none) ∧ W i n H') ?_ m0 ⟨0, H3, I4, st4, nfp, w0⟩
    rintro n s5 ⟨i, H5, I5, st5, n5, w5⟩
    rcases turn i n H5 w5 with ⟨stop, qq⟩ | ⟨go, Nx, hNx, step⟩
    · refine thnF (T.done (blkH X s3 H3 scope ce fp) rfl rfl rfl hb4 i [] s5 _ H5 (fun _ _ => False) I5 (stat I5 n5) st5 stop) fun r s6 ⟨hr, I6⟩ => ?_
      subst hr
      have I7 : Inv X pins σ H5 s6 := I3.call' (ch := fp) I6.os I6.base I6.hok I6.bare fun b hb => ⟨(f3 b hb).1.2.2.2.1, (f3 b hb).1.2.1, (f3 b hb).1.2.2.2.2.1, (f3 b hb).1.2.2.2.2.2⟩
      have nC : H5 s3.heap.objs.size = none := by
        have z : H5 ce.locals = none := I6.free
        rwa [cL] at z
      obtain ⟨m, hn, _⟩ := I6.loc
      have hn : s6.heap.Ns ce.locals m := hn
      rw [cL] at hn
      exact hRR D s3.heap.objs.size s6 m H5 I7 qq hn (I3.fpOk (Nat.le_refl _) nC)
    · refine thnF (T.item (blkH X s3 H3 scope ce fp) rfl rfl rfl hb4 i [] s5 _ H5 (fun _ _ => False) I5 (stat I5 n5) st5 go) fun r s6 ⟨u, hr, h6⟩ => ?_
      subst hr
      refine thnF h6 fun _ s7 ⟨x, H7, I7, r7, y7, st7, n7⟩ => ?_
      have I7' := I7.pinned (stat I7 n7) (T.obj _ _ st7)
      refine thnF (pg.run _ s7 _ H7 x u _ I7' r7 (step x H7 y7)) fun _ s8 ⟨σ8, H8, I8, hw8, q8⟩ => ?_
      refine thnF (pt.run _ s8 σ8 H8 _ I8 q8) fun b s9 ⟨H9, I9, q9⟩ => ?_
      have fin : ∀ {s' : Shared} {H' : Hp}, Inv (blkH X s3 H3 scope ce fp) ([] ++ pinsAt fp s7.heap) σ8 H' s' → Nx H' → ∃ m, m < n ∧ ∃ i H', Inv (blkH X s3 H3 scope ce fp) [] (wipe σ (own.map (·.2))) H' s' ∧ tn i s'.heap ∧ (∀ b ∈ fp, H' b = none) ∧ W i m H' := fun {s' H'} I' nx => by
        obtain ⟨m', hm, w'⟩ := hNx H' nx
        have pin' : ∀ b ∈ fp, ∀ o, s7.heap.get? b = some o → s'.heap.get? b = some o ∧ H' b = none := fun b hb o e =>
          let z := I'.pin (b, o) (List.mem_append_right _ (List.mem_append_right _ (mem_pinsAt hb e)))
          ⟨z.1, z.2.1⟩
        have hl : (wipe σ (own.map (·.2))).length = σ8.length := by rw [← hw8, wipe_length]
        refine ⟨m', hm, i + 1, H', (I'.unpinned (pins := [])).weak hl (fun j v e => ?_), T.keep _ _ _ st7 fun b hb o e => (pin' b hb o e).1, fun b hb => ?_, w'⟩
        · rw [← hw8] at e
          exact (wipe_some e).1
        · obtain ⟨o, e, _⟩ := T.obj _ _ st7 b hb
          exact (pin' b hb o e).2
      cases b with
      | false =>
        simp only [Bool.false_eq_true, if_false] at q9 ⊢
        exact fin I9 q9
      | true =>
        simp only [if_true] at q9 ⊢
        refine thnF (pe.run _ s9 σ8 H9 _ I9 q9) fun z s10 ⟨yv, H10, I10, r10, acc, hD10, hz10, nx⟩ => ?_
        exact app_ok (X := blkH X s3 H3 scope ce fp) I10 hD10 hz10 r10 fun s11 I11 => fin I11 nx
  exact codeAny_compStart_list loop (T.self X.A 0 _ _ _ st4 loop)
theorem pe_lcH {elt tg iter : Expr} {ifs : List Expr} {scope : Scope} {own : List (Str × Nat)} {pos : Pos} {wi : TI} {g : TG} {tt : TT} {te : TE} (hot : HotC X) (hN : X.N.Nodup) (hi : PIH X tg iter wi) (ok : BlkOk X.N X.env.scope scope own)
    (hg : ∀ (s : Shared) (H : Hp) (C : Addr) (cl : List (Str × Addr)) (fp : List Addr), PG (blkH X s H scope (compEnvC scope cl C X.env) fp) tg g) (ht : ∀ (s : Shared) (H : Hp) (C : Addr) (cl : List (Str × Addr)) (fp : List Addr), PTs (blkH X s H scope (compEnvC scope cl C X.env) fp) ifs tt)
    (he : ∀ (s : Shared) (H : Hp) (C : Addr) (cl : List (Str × Addr)) (fp : List Addr), PE (blkH X s H scope (compEnvC scope cl C X.env) fp) elt te) (hs : ∀ x, foldedSetIterable iter X.env x = pure x := by intro _; rfl) :
    PE X (.ListComp elt [⟨tg, iter, ifs, 0⟩] scope pos) (tLc wi g tt te (own.map (·.2))) := by
  refine ⟨fun pins s σ H Q I h => ?_⟩
  rw [eval_ListComp]
  refine lc_coreH hot hN I hi ok hg ht he hs h fun D C s' m H' I' q hn f => ⟨m, hn, fun h'' sb => ?_⟩
  obtain ⟨f0, f1, f2, f3, f4, f5⟩ := f
  exact ⟨.ref D, H', I'.turned (t' := s'.toks) (fun b o hb e => (sb.2 b hb).trans e) f0 f1 f3 f4 f5, rfl, q⟩
theorem de_lcvH (own : List (Str × Nat)) {vs : List Nat} {tg iter elt : Expr} {src : IS} {g : UG} {u : UE} {pos : Pos} {ifs : List Expr} {scope : Scope} {ct : UT} {GG : TG} (hot : HotC X) (hN : X.N.Nodup) (hi : DIH X tg iter src) (ok : BlkOk X.N X.env.scope scope own) (hG : GR X.K g GG vs)
    (hg : ∀ (s : Shared) (H : Hp) (C : Addr) (cl : List (Str × Addr)) (fp : List Addr), PG (blkH X s H scope (compEnvC scope cl C X.env) fp) tg GG)
    (ht : ∀ (s : Shared) (H : Hp) (C : Addr) (cl : List (Str × Addr)) (fp : List Addr), DTs (blkH X s H scope (compEnvC scope cl C X.env) fp) ifs ct)
    (he : ∀ (s : Shared) (H : Hp) (C : Addr) (cl : List (Str × Addr)) (fp : List Addr), DE (blkH X s H scope (compEnvC scope cl C X.env) fp) elt u) (hvs : own.map (·.2) = vs := by rfl) (hs : ∀ x, foldedSetIterable iter X.env x = pure x := by intro _; rfl) :
    DE X (.ListComp elt [⟨tg, iter, ifs, 0⟩] scope pos) (uLc src g ct u vs) := by
  subst hvs
  exact pe_imp (pe_lcH hot hN hi ok hg (fun s H C cl fp => lt0 (ht s H C cl fp)) (fun s H C cl fp => le0 (he s H C cl fp)) hs) fun σ H Q h => lift_lc h hG
end
/-! ### new instances -/
theorem roomH_make {k : Nat} {A : Around} (r : RoomH (k + 1) A) (C : Addr) (us : List Value) (kw : List (Str × Value)) : RoomH k (A.under (.builtin "type.__call__" ⟨.ref C :: us, kw⟩)) :=
  ⟨by have := r.dp; rw [make_depth]; omega, by have := r.un; rw [make_units]; omega⟩
/-- C(..) in a suite -/
def uMakeH (n : Nat) (C : Addr) (sp : FS) (ra : UA) : UE := fun env S Q X => ra env S (fun ds S1 => ds.length = n ∧ ∀ p, S1 p = none → sp (.ref p :: ds) (sup S1 p (.ins C [])) (fun d S2 => d = .non ∧ Q (.ref p) S2) noX) X
section
variable (P : Program) (w : World) (K : PySem.W.Frag) (mg : Str → Option Value) (base : Heap)
def KH (x : Str) (C : Addr) (k : Nat) (ps : List Str) (sp : FS) : Prop := ∃ f fd, mg x = some (.ref C) ∧ Mk K C f ∧ FnDH P w K mg base k f fd ps sp ∧ Binds K fd ps []
end
section
variable {X : Cx} {k j n : Nat} {f C : Addr} {fd : FuncData} {ps : List Str} {sp : FS} {x : Str} {p pos : Pos} {e : Expr} {es : List Expr} {ra : UA}
theorem run_mkH {pins : List (Addr × Obj)} {σ : L2.St} {H : Hp} {s : Shared} {Q : VK} {us : List Value} {vs : List V} {ds : List D} {S : SS} {Qd : QN}
    (M : Mk X.K C f) (F : FnDH X.prog X.w X.K X.mg X.base k f fd ps sp) (hr : RoomH (k + 1) X.A) (hc : HotC X) (hb : Binds X.K fd ps []) (I : Inv X pins σ H s) (hA : AbsS X.K H S) (r : Vals vs us) (rv : RepL X.K H ds vs) (hl : ds.length + 1 = ps.length)
    (h : ∀ p, S p = none → sp (.ref p :: ds) (sup S p (.ins C [])) (fun d S2 => d = .non ∧ Qd (.ref p) S2) noX)
    (hk : ∀ v d H' S', TK X.K H H' → Rep X.K H' d v → AbsS X.K H' S' → Qd d S' → Q v H') : wpAny (model X.prog X.w) X.A (call (.ref C) us) (EP X pins σ Q) X.xe s := by
  have nx : H (s.heap.objs.size + 1) = none := I.hok.fresh (Nat.le_succ _)
  have nd : H s.heap.objs.size = none := I.hok.fresh (Nat.le_refl _)
  have ne : s.heap.objs.size ≠ s.heap.objs.size + 1 := Nat.ne_of_lt (Nat.lt_succ_self _)
  have I2 := Inv.made (C := C) I
  have t : TK X.K H (upd (upd H s.heap.objs.size (.own (s.heap.objs.size + 1))) (s.heap.objs.size + 1) (.ins C s.heap.objs.size [])) := .made nx nd ne
  have r2 : Vals (V.ref (s.heap.objs.size + 1) :: vs) (Value.ref (s.heap.objs.size + 1) :: us) := .cons rfl r
  obtain ⟨q, hot, hq⟩ := hc
  have P1 := I2.pin q (List.mem_append_left _ hq)
  have hpin : PinOk X.stack _ _ q := ⟨P1.1, P1.2.1, fun hm => (List.mem_cons.mp (I2.stkSub q.1 hm)).elim P1.2.2.1 P1.2.2.2.1, P1.2.2.2.2⟩
  have hlen : (Value.ref (s.heap.objs.size + 1) :: us).length = ps.length := by rw [← r2.length, List.length_cons, rv.length, hl]
  have bb := hb { s with heap := (s.heap.push PySem.W.emptyDict).push (PySem.W.instObj C s.heap.objs.size) } (Value.ref (s.heap.objs.size + 1) :: us) I2.kIn (by rw [List.append_nil]; exact hlen)
  rw [List.append_nil] at bb
  refine wpAny_call (make_map (f := f) I.kIn M.makes M.init (beq_iff_eq.mp M.fn) (codeAny_mono (F.run _ X.stack _ _ ⟨Value.ref (s.heap.objs.size + 1) :: us, []⟩ (Value.ref (s.heap.objs.size + 1) :: us) (V.ref (s.heap.objs.size + 1) :: vs)
    (fun v H2 => v = .non ∧ Q (.ref (s.heap.objs.size + 1)) H2) (fun _ _ _ => False) q (roomH_make hr C us []) hot hpin (I2.env0.make C us []) bb r2
    ⟨.ref (s.heap.objs.size + 1) :: ds, _, _, noX, .cons (rep_ref.mpr rfl) (rv.keep t), hA.made nx nd ne, by rw [List.length_cons, hl], h _ (hA.fresh nx), fun v d H' S' t2 rd a2 ⟨ed, q2⟩ => ⟨by subst ed; exact rep_non.mp rd, hk _ _ _ _ (t.trans t2) (rep_ref.mpr rfl) a2 q2⟩, fun _ _ _ _ _ _ _ _ z => z⟩) fun r s' hq => ?_))
  cases r with
  | error e => exact (show False from hq).elim
  | ok fl =>
    cases fl with
    | ret u =>
      obtain ⟨v, H', I3, rv, ev, q3⟩ := I2.after hq
      subst ev
      exact ⟨rv, ⟨V.ref (s.heap.objs.size + 1), H', I3, rfl, q3⟩⟩
    | next => exact False.elim hq
    | brk => exact False.elim hq
    | cont => exact False.elim hq
theorem de_kH (h : KH X.prog X.w X.K X.mg X.base x C k ps sp) (hr : RoomH j X.A) (hc : HotC X) (ha : DA X (e :: es) ra) (hn : n + 1 = ps.length := by rfl) (hk : k + 1 ≤ j := by decide) (hg : Gl X x := by rfl) (hdb : (x == ("__debug__" : Str)) = false := by decide)
    (he : starEach (e :: es) X.env = (false, eval e X.env) :: starEach es X.env := by rfl) (hpl : (backTo pos (starEach es X.env)).any (·.1) = false := by rfl) : DE X (.Call (.Name x p) (e :: es) [] pos) (uMakeH n C sp ra) := by
  obtain ⟨f, fd, h1, h2, h3, h4⟩ := h
  refine ⟨fun pins s σ H Q I ⟨env, S, Qd, W, hE, hA, hT, hu, hk'⟩ => ?_⟩
  refine wpAny_Call_Name_kw (ld_glob I hg h1 ?_ hdb)
  refine PySem.W.callWith_K (h₀ := X.base) I.ok.mod.kin h2.kp (thn (ha.run pos pins s σ H (fun vs H1 => ∃ ds S1, TK X.K H H1 ∧ RepL X.K H1 ds vs ∧ AbsS X.K H1 S1 ∧ (ds.length = n ∧ ∀ p, S1 p = none → sp (.ref p :: ds) (sup S1 p (.ins C [])) (fun d S2 => d = .non ∧ Qd (.ref p) S2) noX)) I
    ⟨env, S, _, W, hE, hA, hT, hu, fun vs ds H1 S1 t1 r1 a1 q => ⟨ds, S1, t1, r1, a1, q⟩⟩) fun us s1 ⟨vs, H1, I1, r, ds, S1, t1, rv, a1, l, q⟩ => ⟨I1.kIn, ?_⟩) he hpl
  exact run_mkH h2 h3 (hr.mono hk) hc h4 I1 a1 r rv (by rw [l, hn]) q fun v d H' S' t2 r2 a2 q2 => hk' _ _ _ _ (t1.trans t2) r2 a2 q2
end
end SL

set_option Elab.async false
set_option linter.all false
set_option maxRecDepth 100000
set_option maxHeartbeats 4000000
/-! SL21: a[i].replace(written, written); * of a great int and a small one. -/
namespace SL
open PySem PySem.Spec PyProof.Rows L2
def sRepl (x y z : List Nat) : List Nat := (Txt.replace (tx x) (tx y) (tx z)).cps.toList
def uRepl (u : UE) (y z : List Nat) : UE := fun env S Q X => u env S (fun d S1 => ∃ x, d = .str x ∧ x.length + (x.length + 1) * z.length ≤ 16777216 ∧ Q (.str (sRepl x y z)) S1) X
section
variable {X : Cx} {a : Expr} {ua : UE} {i : Int} {j0 j k : Nat} {p0 q0 c0 c1 apos pos : Pos}
theorem de_replIx {y z : String} (ha : DE X a ua) (hyz : (Str.ofString y == Str.ofString z) = false := by decide +kernel)
    (hst : starEach [.Constant (.str (Str.ofString y)) j c0, .Constant (.str (Str.ofString z)) k c1] X.env = [(false, eval (.Constant (.str (Str.ofString y)) j c0) X.env), (false, eval (.Constant (.str (Str.ofString z)) k c1) X.env)] := by rfl)
    (hbase : attributeBase (.Subscript a (.Constant (.int i) j0 p0) q0) "replace" X.env (eval (.Subscript a (.Constant (.int i) j0 p0) q0) X.env) = eval (.Subscript a (.Constant (.int i) j0 p0) q0) X.env := by rfl) (hline : (apos.endLine == pos.line) = true := by rfl) :
    DE X (.Call (.Attribute (.Subscript a (.Constant (.int i) j0 p0) q0) "replace" apos) [.Constant (.str (Str.ofString y)) j c0, .Constant (.str (Str.ofString z)) k c1] [] pos) (uRepl (uBin dIx ua (uC (.int i))) (cs y) (cs z)) := by
  refine ⟨fun pins s σ H Q I ⟨env, S, Qd, W, hE, hA, hT, hu, hk⟩ => ?_⟩
  refine PySem.Call_method2 hbase hst hline (Subscript_ ?_)
  refine thn (PE.run ha pins s σ H (fun v H1 => ∃ d S1, TK X.K H H1 ∧ Rep X.K H1 d v ∧ AbsS X.K H1 S1 ∧ ∃ e, dIx S1 d (.int i) = some e ∧ ∃ x, e = .str x ∧ x.length + (x.length + 1) * (cs z).length ≤ 16777216 ∧ Qd (.str (sRepl x (cs y) (cs z))) S1) I
    ⟨env, S, _, W, hE, hA, hT, hu, fun v d H' S' t r a q => ⟨d, S', t, r, a, q⟩⟩) fun v s1 ⟨x1, H1, I1, r1, d, S1, t1, rd, a1, e, he, x, ex, hb, q⟩ => ?_
  subst ex
  refine wpAny_Constant_int ?_
  have I2 := I1.tok (s1.toks + 1)
  refine wpAny_mono (PySem.wpAny_toks (od_ix (X := X) a (.Constant (.int i) j0 p0) pins _ σ H1 x1 (.int i) v (.int i s1.toks) (fun v2 H2 => Same H1 H2 ∧ Rep X.K H2 (.str x) v2) I2 r1 ⟨_, rfl⟩ ⟨S1, d, .int i, _, a1, rd, rep_int.mpr rfl, he, fun v2 H2 sm r2 => ⟨sm, r2⟩⟩ rfl)) (fun v2 s2 q2 => ?_) fun _ _ z => z.2
  obtain ⟨hk2, x2, H2, I3, r2, sm, rr⟩ := q2
  rw [rep_str] at rr; subst rr
  obtain ⟨t2, rfl⟩ := r2
  have hk3 : s1.toks + 1 ≤ s2.toks := hk2
  refine ⟨"str", _, PySem.F.plainAttrs_str, PySem.F.slot_str_replace, PySem.F.type_str_replace, typeIs_str _ _ _, (fun _ e => nomatch e), Calls.callWith_builtin rfl (Calls.evalArgs_plain (Calls.spliced_cons ?_))⟩
  refine Calls.Constant_str (Calls.spliced_cons (Calls.Constant_str (Calls.spliced_nil ?_)))
  refine PySem.SC.replace (by show s2.toks ≠ 0; omega) (by show s2.toks + 1 ≠ 0; omega) (by show s2.toks ≠ s2.toks + 1; omega) hyz (by rw [tx_len, ← tx_cs z, tx_len]; exact hb) fun t' kk => ⟨.str (Txt.replace (tx x) (Str.ofString y) (Str.ofString z)), H2, I3.tok kk, ⟨t', rfl⟩, hk _ _ _ _ (t1.trans (.of_same sm)) (rep_str.mpr ?_) (a1.same sm) q⟩
  rw [sRepl, tx_of, tx_cs, tx_cs]
end
/-- * : small results, or one factor of at most sixty-four bits -/
def dMulX : F2
  | _, .int i, .int j => if i.natAbs < 18446744073709551616 ∨ j.natAbs < 18446744073709551616 then some (.int (i * j)) else if CMulW i j then some (.int (i * j)) else none
  | _, _, _ => none
theorem bits64 {i : Int} (h : i.natAbs < 18446744073709551616) : Builtin.Int.intBits i ≤ 64 := by
  have hl : i.natAbs.log2 < 64 := by
    by_cases z : i.natAbs = 0
    · rw [z]; decide
    · exact (Nat.log2_lt z).mpr (by simpa using h)
  unfold Builtin.Int.intBits
  split <;> omega
theorem op_mulX {X : Cx} : OpR X (binaryOp .Mult) (rI (fun i j => IntMulOk i j) fun i j => .int (i * j)) := opI fun _ _ _ _ _ _ _ hc q => mul_int q hc
theorem od_mulX {X : Cx} : OpR X (binaryOp .Mult) (rD2 X.K dMulX) := od_int op_mulX fun S d1 d2 z h => by
  unfold dMulX at h
  split at h
  · split at h
    · rename_i c
      cases h
      exact ⟨_, _, rfl, rfl, c.elim (fun c => .of_left (bits64 c)) (fun c => .of_right (bits64 c)), fun _ _ e => rep_int.mpr e⟩
    · split at h
      · rename_i c; cases h; exact ⟨_, _, rfl, rfl, c.ok, fun _ _ e => rep_int.mpr e⟩
      · cases h
  · cases h
end SL

set_option Elab.async false
set_option linter.all false
set_option maxRecDepth 100000
set_option maxHeartbeats 4000000
/-! SL22: facts of hot defs by depth, and of hot makes. -/
namespace SL
open PySem PySem.Spec L2 ClX L2H
section
variable {P : Program} {w : World} {K : PySem.W.Frag} {mg : Str → Option Value} {base : Heap}
theorem fh_void {x : Str} {st : Stmt} {ps : List Str} {k : Nat} {sp : FS} (d : D0 K mg x st)
    (hb : ∀ (kV doc pm : Value) (an : Option Addr) (cdv ct : Value) (us : List Value), us.length = ps.length → bindArgs (PySem.W.fnOf x x (defArgs st) (defBody st) (defScope st) .none kV doc pm an cdv ct) ⟨us, []⟩ = pure (ps.zip us))
    (hn : ∀ ds S Q X, ¬ sp ds S Q X) : FH P w K mg base x k ps sp := by
  obtain ⟨f, fd, hm, F⟩ := d
  refine ⟨f, fd, hm, F.kp, ⟨fun vs H Q E hh => ?_, fun A outer s H args us vs Q E p hr hot hp e0 hb r hh => ?_⟩, F.bindsN hb⟩
  · obtain ⟨ds, S, Qd, Xd, _, _, _, h, _⟩ := hh
    exact (hn _ _ _ _ h).elim
  · obtain ⟨ds, S, Qd, Xd, _, _, _, h, _⟩ := hh
    exact (hn _ _ _ _ h).elim
theorem fh_up {x : Str} {k k' : Nat} {ps : List Str} {sp : FS} (h : FH P w K mg base x k ps sp) (hk : k ≤ k') : FH P w K mg base x k' ps sp := by
  obtain ⟨f, fd, h1, h2, h3, h4⟩ := h
  exact ⟨f, fd, h1, h2, ⟨h3.len, fun A outer s H args us vs Q E p hr => h3.run A outer s H args us vs Q E p (hr.mono hk)⟩, h4⟩
theorem kh_i0 {x q : Str} {C : Addr} {st : Stmt} {N ps : List Str} {k : Nat} {sp : FS} (d : I0 K mg x C q st []) (S : FnScope N ps (defScope st)) (u : US)
    (hb : ∀ (kV doc pm : Value) (an : Option Addr) (cdv ct : Value) (us : List Value), us.length = ps.length → bindArgs (PySem.W.fnOf "__init__" q (defArgs st) (defBody st) (defScope st) .none kV doc pm an cdv ct) ⟨us, []⟩ = pure (ps.zip us))
    (hder : ∀ (f : Addr) (cdv : Value) (A : Around) (outer : List Env) (s : Shared) (H : Hp) (E : XK) (p : Addr × Obj), RoomH k (A.deeper (PyProof.Rows.envOfC q (defScope st) s.heap.objs.size f cdv)) → HotC (cxH CX0 P w K mg base N q (defScope st) f cdv A outer s H E p) → DB (cxH CX0 P w K mg base N q (defScope st) f cdv A outer s H E p) (defBody st) u)
    (hno : ∀ ds S Q Xq, sp ds S Q Xq → sp ds S Q noX)
    (hsp : ∀ ds S Q, sp ds S Q noX → u (bodyE Q noX) (startE N ds) S) : KH P w K mg base x C (k + 1) ps sp := by
  obtain ⟨f, h1, h2, fd, F⟩ := d
  exact ⟨f, fd, h1, h2, fn_dH F S u (hder f) hno fun ds S Q _ h => hsp ds S Q h, F.bindsN hb⟩
end
end SL

set_option Elab.async false
set_option linter.all false
set_option maxRecDepth 100000
set_option maxHeartbeats 4000000
/-! written by gen.py: what each def asks, and its derivation -/
namespace K82
open PySem PySem.Spec L2 ClX SL L2H
def top (i : Nat) : Stmt := PySem.Challenge.pw_oncecoin_k82_disks_side_by_side.main.body.getD i (.Pass ⟨0, 0, 0, 0⟩)
abbrev gv_FIGURES : D := (.str (cs "0123456789"))
abbrev gv_MOST_FIGURES : D := (.int 9)
abbrev s_head_number : Stmt := (top 7)
abbrev N_head_number : List Str := ["place", "blank", "sign"]
abbrev ps_head_number : List Str := ["place"]
theorem sc_head_number : FnScope N_head_number ps_head_number (defScope s_head_number) := ⟨rfl, rfl, rfl, by decide +kernel, rfl, by decide +kernel, by decide +kernel⟩
abbrev s_whole_lines : Stmt := (top 8)
abbrev N_whole_lines : List Str := ["place"]
abbrev ps_whole_lines : List Str := ["place"]
theorem sc_whole_lines : FnScope N_whole_lines ps_whole_lines (defScope s_whole_lines) := ⟨rfl, rfl, rfl, by decide +kernel, rfl, by decide +kernel, by decide +kernel⟩
abbrev s_torn_end : Stmt := (top 9)
abbrev N_torn_end : List Str := ["place"]
abbrev ps_torn_end : List Str := ["place"]
theorem sc_torn_end : FnScope N_torn_end ps_torn_end (defScope s_torn_end) := ⟨rfl, rfl, rfl, by decide +kernel, rfl, by decide +kernel, by decide +kernel⟩
abbrev s_first_signs : Stmt := (top 10)
abbrev N_first_signs : List Str := ["line", "cut"]
abbrev ps_first_signs : List Str := ["line", "cut"]
theorem sc_first_signs : FnScope N_first_signs ps_first_signs (defScope s_first_signs) := ⟨rfl, rfl, rfl, by decide +kernel, rfl, by decide +kernel, by decide +kernel⟩
abbrev s_Disk___init__ : Stmt := (inClass (top 11) 0)
abbrev N_Disk___init__ : List Str := ["self", "text"]
abbrev ps_Disk___init__ : List Str := ["self", "text"]
theorem sc_Disk___init__ : FnScope N_Disk___init__ ps_Disk___init__ (defScope s_Disk___init__) := ⟨rfl, rfl, rfl, by decide +kernel, rfl, by decide +kernel, by decide +kernel⟩
abbrev s_Disk_of_places : Stmt := (inClass (top 11) 1)
abbrev N_Disk_of_places : List Str := ["cls", "places", "first", "second", "disk"]
abbrev ps_Disk_of_places : List Str := ["cls", "places"]
theorem sc_Disk_of_places : FnScope N_Disk_of_places ps_Disk_of_places (defScope s_Disk_of_places) := ⟨rfl, rfl, rfl, by decide +kernel, rfl, by decide +kernel, by decide +kernel⟩
abbrev s_Disk_places : Stmt := (inClass (top 11) 2)
abbrev N_Disk_places : List Str := ["self"]
abbrev ps_Disk_places : List Str := ["self"]
theorem sc_Disk_places : FnScope N_Disk_places ps_Disk_places (defScope s_Disk_places) := ⟨rfl, rfl, rfl, by decide +kernel, rfl, by decide +kernel, by decide +kernel⟩
abbrev s_Disk_present_at : Stmt := (inClass (top 11) 3)
abbrev N_Disk_present_at : List Str := ["self"]
abbrev ps_Disk_present_at : List Str := ["self"]
theorem sc_Disk_present_at : FnScope N_Disk_present_at ps_Disk_present_at (defScope s_Disk_present_at) := ⟨rfl, rfl, rfl, by decide +kernel, rfl, by decide +kernel, by decide +kernel⟩
abbrev s_Disk_put : Stmt := (inClass (top 11) 4)
abbrev N_Disk_put : List Str := ["self", "at", "place"]
abbrev ps_Disk_put : List Str := ["self", "at", "place"]
theorem sc_Disk_put : FnScope N_Disk_put ps_Disk_put (defScope s_Disk_put) := ⟨rfl, rfl, rfl, by decide +kernel, rfl, by decide +kernel, by decide +kernel⟩
abbrev s_Disk_book : Stmt := (inClass (top 11) 5)
abbrev N_Disk_book : List Str := ["self"]
abbrev ps_Disk_book : List Str := ["self"]
theorem sc_Disk_book : FnScope N_Disk_book ps_Disk_book (defScope s_Disk_book) := ⟨rfl, rfl, rfl, by decide +kernel, rfl, by decide +kernel, by decide +kernel⟩
abbrev s_Disk_head : Stmt := (inClass (top 11) 6)
abbrev N_Disk_head : List Str := ["self"]
abbrev ps_Disk_head : List Str := ["self"]
theorem sc_Disk_head : FnScope N_Disk_head ps_Disk_head (defScope s_Disk_head) := ⟨rfl, rfl, rfl, by decide +kernel, rfl, by decide +kernel, by decide +kernel⟩
abbrev s_Disk_records : Stmt := (inClass (top 11) 7)
abbrev N_Disk_records : List Str := ["self"]
abbrev ps_Disk_records : List Str := ["self"]
theorem sc_Disk_records : FnScope N_Disk_records ps_Disk_records (defScope s_Disk_records) := ⟨rfl, rfl, rfl, by decide +kernel, rfl, by decide +kernel, by decide +kernel⟩
abbrev s_Disk_write : Stmt := (inClass (top 11) 8)
abbrev N_Disk_write : List Str := ["self", "text", "cut", "at", "line", "signs"]
abbrev ps_Disk_write : List Str := ["self", "text", "cut"]
theorem sc_Disk_write : FnScope N_Disk_write ps_Disk_write (defScope s_Disk_write) := ⟨rfl, rfl, rfl, by decide +kernel, rfl, by decide +kernel, by decide +kernel⟩
abbrev s_Disk_close : Stmt := (inClass (top 11) 9)
abbrev N_Disk_close : List Str := ["self", "text", "cut", "line", "signs"]
abbrev ps_Disk_close : List Str := ["self", "text", "cut"]
theorem sc_Disk_close : FnScope N_Disk_close ps_Disk_close (defScope s_Disk_close) := ⟨rfl, rfl, rfl, by decide +kernel, rfl, by decide +kernel, by decide +kernel⟩
abbrev s_Disk_mend : Stmt := (inClass (top 11) 10)
abbrev N_Disk_mend : List Str := ["self", "at", "place", "torn"]
abbrev ps_Disk_mend : List Str := ["self"]
theorem sc_Disk_mend : FnScope N_Disk_mend ps_Disk_mend (defScope s_Disk_mend) := ⟨rfl, rfl, rfl, by decide +kernel, rfl, by decide +kernel, by decide +kernel⟩
abbrev s_Disk___len__ : Stmt := (inClass (top 11) 11)
abbrev N_Disk___len__ : List Str := ["self"]
abbrev ps_Disk___len__ : List Str := ["self"]
theorem sc_Disk___len__ : FnScope N_Disk___len__ ps_Disk___len__ (defScope s_Disk___len__) := ⟨rfl, rfl, rfl, by decide +kernel, rfl, by decide +kernel, by decide +kernel⟩
abbrev s__law_flow : Stmt := (top 13)
abbrev N__law_flow : List Str := ["script", "cell"]
abbrev ps__law_flow : List Str := ["script"]
theorem sc__law_flow : FnScope N__law_flow ps__law_flow (defScope s__law_flow) := ⟨rfl, rfl, rfl, by decide +kernel, rfl, by decide +kernel, by decide +kernel⟩
abbrev s__law_take : Stmt := (top 14)
abbrev N__law_take : List Str := ["flow", "many", "cell", "mixed", "drawn"]
abbrev ps__law_take : List Str := ["flow", "many"]
theorem sc__law_take : FnScope N__law_take ps__law_take (defScope s__law_take) := ⟨rfl, rfl, rfl, by decide +kernel, rfl, by decide +kernel, by decide +kernel⟩
abbrev s__law_same : Stmt := (top 16)
abbrev N__law_same : List Str := ["told", "due", "k"]
abbrev ps__law_same : List Str := ["told", "due"]
theorem sc__law_same : FnScope N__law_same ps__law_same (defScope s__law_same) := ⟨rfl, rfl, rfl, by decide +kernel, rfl, by decide +kernel, by decide +kernel⟩
abbrev s__law_text : Stmt := (top 17)
abbrev N__law_text : List Str := ["flow", "signs", "k"]
abbrev ps__law_text : List Str := ["flow"]
theorem sc__law_text : FnScope N__law_text ps__law_text (defScope s__law_text) := ⟨rfl, rfl, rfl, by decide +kernel, rfl, by decide +kernel, by decide +kernel⟩
abbrev s__law_number : Stmt := (top 18)
abbrev N__law_number : List Str := ["flow", "manner"]
abbrev ps__law_number : List Str := ["flow"]
theorem sc__law_number : FnScope N__law_number ps__law_number (defScope s__law_number) := ⟨rfl, rfl, rfl, by decide +kernel, rfl, by decide +kernel, by decide +kernel⟩
abbrev s__law_place : Stmt := (top 19)
abbrev N__law_place : List Str := ["flow", "number", "text", "head", "manner", "wrong", "k", "found"]
abbrev ps__law_place : List Str := ["flow", "number"]
theorem sc__law_place : FnScope N__law_place ps__law_place (defScope s__law_place) := ⟨rfl, rfl, rfl, by decide +kernel, rfl, by decide +kernel, by decide +kernel⟩
abbrev s__law_head : Stmt := (top 20)
abbrev N__law_head : List Str := ["place", "at", "line", "mark", "sign"]
abbrev ps__law_head : List Str := ["place"]
theorem sc__law_head : FnScope N__law_head ps__law_head (defScope s__law_head) := ⟨rfl, rfl, rfl, by decide +kernel, rfl, by decide +kernel, by decide +kernel⟩
abbrev s__law_present : Stmt := (top 21)
abbrev N__law_present : List Str := ["pair", "first", "second"]
abbrev ps__law_present : List Str := ["pair"]
theorem sc__law_present : FnScope N__law_present ps__law_present (defScope s__law_present) := ⟨rfl, rfl, rfl, by decide +kernel, rfl, by decide +kernel, by decide +kernel⟩
abbrev s__law_torn : Stmt := (top 22)
abbrev N__law_torn : List Str := ["place"]
abbrev ps__law_torn : List Str := ["place"]
theorem sc__law_torn : FnScope N__law_torn ps__law_torn (defScope s__law_torn) := ⟨rfl, rfl, rfl, by decide +kernel, rfl, by decide +kernel, by decide +kernel⟩
abbrev s__law_is : Stmt := (top 23)
abbrev N__law_is : List Str := ["disk", "pair", "at", "head", "rows", "records"]
abbrev ps__law_is : List Str := ["disk", "pair"]
theorem sc__law_is : FnScope N__law_is ps__law_is (defScope s__law_is) := ⟨rfl, rfl, rfl, by decide +kernel, rfl, by decide +kernel, by decide +kernel⟩
abbrev s__law_new : Stmt := (top 24)
abbrev N__law_new : List Str := ["flow", "text", "number", "pair", "near", "handed", "disk", "e"]
abbrev ps__law_new : List Str := ["flow"]
theorem sc__law_new : FnScope N__law_new ps__law_new (defScope s__law_new) := ⟨rfl, rfl, rfl, by decide +kernel, rfl, by decide +kernel, by decide +kernel⟩
abbrev s__law_cut : Stmt := (top 25)
abbrev N__law_cut : List Str := ["flow", "size", "manner"]
abbrev ps__law_cut : List Str := ["flow", "size"]
theorem sc__law_cut : FnScope N__law_cut ps__law_cut (defScope s__law_cut) := ⟨rfl, rfl, rfl, by decide +kernel, rfl, by decide +kernel, by decide +kernel⟩
abbrev s__law_write : Stmt := (top 26)
abbrev N__law_write : List Str := ["flow", "disk", "pair", "at", "text", "cut", "line", "told", "e"]
abbrev ps__law_write : List Str := ["flow", "disk", "pair"]
theorem sc__law_write : FnScope N__law_write ps__law_write (defScope s__law_write) := ⟨rfl, rfl, rfl, by decide +kernel, rfl, by decide +kernel, by decide +kernel⟩
abbrev s__law_close : Stmt := (top 27)
abbrev N__law_close : List Str := ["flow", "disk", "pair", "at", "text", "line", "size", "cut", "told"]
abbrev ps__law_close : List Str := ["flow", "disk", "pair"]
theorem sc__law_close : FnScope N__law_close ps__law_close (defScope s__law_close) := ⟨rfl, rfl, rfl, by decide +kernel, rfl, by decide +kernel, by decide +kernel⟩
abbrev s__law_mend : Stmt := (top 28)
abbrev N__law_mend : List Str := ["disk", "pair", "at", "torn"]
abbrev ps__law_mend : List Str := ["disk", "pair"]
theorem sc__law_mend : FnScope N__law_mend ps__law_mend (defScope s__law_mend) := ⟨rfl, rfl, rfl, by decide +kernel, rfl, by decide +kernel, by decide +kernel⟩
abbrev s_law : Stmt := (top 29)
abbrev N_law : List Str := ["script", "flow", "first", "second", "turn", "one", "kind"]
abbrev ps_law : List Str := ["script"]
theorem sc_law : FnScope N_law ps_law (defScope s_law) := ⟨rfl, rfl, rfl, by decide +kernel, rfl, by decide +kernel, by decide +kernel⟩
/-- the classes -/
structure Cs where
  ShopError : Addr
  Torn : Addr
  BadBook : Addr
  Disk : Addr
/-- what the top has written, as the derivations ask it -/
structure Bs (K : PySem.W.Frag) (mg : Str → Option Value) (c : Cs) : Prop where
  n_abs : mg "abs" = none
  n_bool : mg "bool" = none
  n_int : mg "int" = none
  n_isinstance : mg "isinstance" = none
  n_len : mg "len" = none
  n_list : mg "list" = none
  n_max : mg "max" = none
  n_min : mg "min" = none
  n_range : mg "range" = none
  n_str : mg "str" = none
  n_tuple : mg "tuple" = none
  g_FIGURES : GC K mg "FIGURES" gv_FIGURES
  g_MOST_FIGURES : GC K mg "MOST_FIGURES" gv_MOST_FIGURES
  c_ShopError : mg "ShopError" = some (.ref c.ShopError)
  c_Torn : mg "Torn" = some (.ref c.Torn)
  c_BadBook : mg "BadBook" = some (.ref c.BadBook)
  c_Disk : mg "Disk" = some (.ref c.Disk)
  x_BadBook_texts : ExG K c.BadBook "texts"
  x_Torn_text : ExG K c.Torn "text"
section
variable {P : Program} {w : World} {K : PySem.W.Frag} {mg : Str → Option Value} {base : Heap} {c : Cs}
def u_head_number (K : PySem.W.Frag) (c : Cs) : US := (usSeq (usSet 1 (uBM "str" (gM mFind) (uVar 0) (uCons (uC (.str (cs " "))) uNil)))
  (usSeq (usIf (uOr (uNot (uTb (uChain dLe dLe (uC (.int 1)) (uVar 1) (uC gv_MOST_FIGURES)))) (uTb (uBin dLt (uBM "str" (gM mFind) (uVar 0) (uCons (uC (.str (cs "\n"))) uNil)) (uVar 1)))) (usRet (uUn dNeg (uC (.int 1)))) usNil)
  (usSeq (usFor (isSeq (uSl (uVar 0) uNoPart (uPart (uVar 1)))) (ugName 2) (usIf (uTb (uBin dNotIn1 (uVar 2) (uC gv_FIGURES))) (usRet (uUn dNeg (uC (.int 1)))) usNil))
  (usSeq (usIf (uAnd (uTb (uBin dEq (uBin dIx (uVar 0) (uC (.int 0))) (uC (.str (cs "0"))))) (uTb (uBin dGt (uVar 1) (uC (.int 1))))) (usRet (uUn dNeg (uC (.int 1)))) usNil)
  (usRet (uFn (gP fInt) (uCons (uSl (uVar 0) uNoPart (uPart (uVar 1))) uNil)))))))
theorem der_head_number {cdv : Value} {A : Around} {outer : List Env} {s : Shared} {H : Hp} {E : XK} {f : Addr} (B : Bs K mg c) (hr : Room 0 (A.deeper (PyProof.Rows.envOfC "head_number" (defScope s_head_number) s.heap.objs.size f cdv))) :
    DB (cxOf (L2N.CX P w) P w K mg base N_head_number "head_number" (defScope s_head_number) f cdv A outer s H E) (defBody s_head_number) (u_head_number K c) :=
  (db_cons (ds_set 1 sc_head_number.nd (de_bm PySem.F.plainAttrs_str PySem.F.slot_str_find PySem.F.type_str_find md_find (de_var 0) (da_cons (de_str (s := " ")) da_nil)))
  (db_cons (ds_if (dt_bool (dw_or (dt_not (dt_chain od_le od_le de_int (de_var 1) (de_gc B.g_MOST_FIGURES))) (dw_or1 (dt_cmp od_lt (de_bm PySem.F.plainAttrs_str PySem.F.slot_str_find PySem.F.type_str_find md_find (de_var 0) (da_cons (de_str (s := "\n")) da_nil)) (de_var 1))))) (db_one (ds_ret (de_neg de_int))) db_nil)
  (db_cons (ds_for (passes_of rfl) rfl (di_seq (de_slice (de_var 0) do_none (do_some (de_var 1)))) (dg_name 2 sc_head_number.nd) (db_one (ds_if (dt_cmp (od_notin (hu65 hr)) (de_var 2) (de_gc B.g_FIGURES)) (db_one (ds_ret (de_neg de_int))) db_nil)))
  (db_cons (ds_if (dt_bool (dw_and (dt_cmp (od_eq (hu64 hr)) (de_ix (de_var 0) de_int) (de_str (s := "0"))) (dw_and1 (dt_cmp od_gt (de_var 1) de_int)))) (db_one (ds_ret (de_neg de_int))) db_nil)
  (db_one (ds_ret (de_fnT cd_int B.n_int (by decide +kernel) (da_cons (de_slice (de_var 0) do_none (do_some (de_var 1))) da_nil))))))))
def u_whole_lines (K : PySem.W.Frag) (c : Cs) : US := (usRet (uSl (uBM "str" gSplit (uVar 0) (uCons (uC (.str (cs "\n"))) uNil)) uNoPart (uPart (uUn dNeg (uC (.int 1))))))
theorem der_whole_lines {cdv : Value} {A : Around} {outer : List Env} {s : Shared} {H : Hp} {E : XK} {f : Addr} (B : Bs K mg c) (hr : Room 0 (A.deeper (PyProof.Rows.envOfC "whole_lines" (defScope s_whole_lines) s.heap.objs.size f cdv))) :
    DB (cxOf (L2N.CX P w) P w K mg base N_whole_lines "whole_lines" (defScope s_whole_lines) f cdv A outer s H E) (defBody s_whole_lines) (u_whole_lines K c) :=
  (db_one (ds_ret (de_slice (de_bm PySem.F.plainAttrs_str PySem.F.slot_str_split PySem.F.type_str_split md_split (de_var 0) (da_cons (de_str (s := "\n")) da_nil)) do_none (do_some (de_neg de_int)))))
def u_torn_end (K : PySem.W.Frag) (c : Cs) : US := (usRet (uSl (uVar 0) (uPart (uBin dAdd (uBM "str" (gM mRfind) (uVar 0) (uCons (uC (.str (cs "\n"))) uNil)) (uC (.int 1)))) uNoPart))
theorem der_torn_end {cdv : Value} {A : Around} {outer : List Env} {s : Shared} {H : Hp} {E : XK} {f : Addr} (B : Bs K mg c) (hr : Room 0 (A.deeper (PyProof.Rows.envOfC "torn_end" (defScope s_torn_end) s.heap.objs.size f cdv))) :
    DB (cxOf (L2N.CX P w) P w K mg base N_torn_end "torn_end" (defScope s_torn_end) f cdv A outer s H E) (defBody s_torn_end) (u_torn_end K c) :=
  (db_one (ds_ret (de_slice (de_var 0) (do_some (de_bin od_add (de_bm PySem.F.plainAttrs_str PySem.F.slot_str_rfind PySem.F.type_str_rfind md_rfind (de_var 0) (da_cons (de_str (s := "\n")) da_nil)) de_int)) do_none)))
def u_first_signs (K : PySem.W.Frag) (c : Cs) : US := (usSeq (usIf (uTb (uBin dIs (uVar 1) (uC .non))) (usRet (uVar 0)) usNil)
  (usRet (uSl (uVar 0) uNoPart (uPart (uVar 1)))))
theorem der_first_signs {cdv : Value} {A : Around} {outer : List Env} {s : Shared} {H : Hp} {E : XK} {f : Addr} (B : Bs K mg c) (hr : Room 0 (A.deeper (PyProof.Rows.envOfC "first_signs" (defScope s_first_signs) s.heap.objs.size f cdv))) :
    DB (cxOf (L2N.CX P w) P w K mg base N_first_signs "first_signs" (defScope s_first_signs) f cdv A outer s H E) (defBody s_first_signs) (u_first_signs K c) :=
  (db_cons (ds_if (dt_cmp od_is (de_var 1) de_non) (db_one (ds_ret (de_var 0))) db_nil)
  (db_one (ds_ret (de_slice (de_var 0) do_none (do_some (de_var 1))))))
def u_Disk___init__ (K : PySem.W.Frag) (c : Cs) : US := (usFld K "pair" (uVar 0) (uTup (uCons (uBin dAdd (uBin dAdd (uC (.str (cs "0 "))) (uVar 1)) (uC (.str (cs "\n")))) (uCons (uC (.str (cs ""))) uNil))))
theorem der_Disk___init__ {cdv : Value} {A : Around} {outer : List Env} {s : Shared} {H : Hp} {E : XK} {f : Addr} (B : Bs K mg c) (hr : Room 0 (A.deeper (PyProof.Rows.envOfC "Disk.__init__" (defScope s_Disk___init__) s.heap.objs.size f cdv))) :
    DB (cxOf (L2N.CX P w) P w K mg base N_Disk___init__ "Disk.__init__" (defScope s_Disk___init__) f cdv A outer s H E) (defBody s_Disk___init__) (u_Disk___init__ K c) :=
  (db_one (ds_fld (de_var 0) (de_tup (da_cons (de_bin od_add (de_bin od_add (de_str (s := "0 ")) (de_var 1)) (de_str (s := "\n"))) (da_cons (de_str (s := "")) da_nil)))))
def u_Disk_of_places (K : PySem.W.Frag) (c : Cs) (sp_head_number : FS) (sp_Disk___init__ : FS) : US := (usSeq (usAsg (ugTup (ugCons (ugName 2) (ugCons (ugName 3) ugNil))) (uVar 1))
  (usSeq (usIf (uAnd (uTb (uBin dLt (uCall (sp_head_number) gId (uA1 1 (uCons (uVar 2) uNil))) (uC (.int 0)))) (uTb (uBin dLt (uCall (sp_head_number) gId (uA1 1 (uCons (uVar 3) uNil))) (uC (.int 0))))) (usRaise c.BadBook ["texts"] (uCons (uTup (uCons (uVar 2) (uCons (uVar 3) uNil))) uNil)) usNil)
  (usSeq (usSet 4 (uMakeV 0 c.Disk (sp_Disk___init__) gId (uA1 1 (uCons (uC (.str (cs ""))) uNil))))
  (usSeq (usFld K "pair" (uVar 4) (uTup (uCons (uVar 2) (uCons (uVar 3) uNil))))
  (usRet (uVar 4))))))
theorem der_Disk_of_places {cdv : Value} {A : Around} {outer : List Env} {s : Shared} {H : Hp} {E : XK} {f : Addr} {sp_head_number : FS} {sp_Disk___init__ : FS} (B : Bs K mg c) (h_head_number : FF P w K mg base "head_number" 1 ps_head_number (sp_head_number) 1 [] gId) (x_BadBook : ExF P w K mg base "BadBook" c.BadBook ["texts"]) (k_Disk : KF P w K mg base "Disk" c.Disk 1 ps_Disk___init__ (sp_Disk___init__) 1 [] gId) (hr : Room 2 (A.deeper (PyProof.Rows.envOfC "Disk.of_places" (defScope s_Disk_of_places) s.heap.objs.size f cdv))) :
    DB (cxOf (L2N.CX P w) P w K mg base N_Disk_of_places "Disk.of_places" (defScope s_Disk_of_places) f cdv A outer s H E) (defBody s_Disk_of_places) (u_Disk_of_places K c sp_head_number sp_Disk___init__) :=
  (db_cons (ds_asg (de_var 1) (dg_tup rfl (dgs_cons (dg_name 2 sc_Disk_of_places.nd) (dgs_cons (dg_name 3 sc_Disk_of_places.nd) dgs_nil)) (ugs_len_cons (ugs_len_cons ugs_len_nil ug_name_to) ug_name_to)))
  (db_cons (ds_if (dt_bool (dw_and (dt_cmp od_lt (de_ff h_head_number hr (dar1 (da_cons (de_var 2) da_nil))) de_int) (dw_and1 (dt_cmp od_lt (de_ff h_head_number hr (dar1 (da_cons (de_var 3) da_nil))) de_int)))) (db_one (ds_raise rfl x_BadBook (hr.mono (by decide)) (da_cons (de_tup (da_cons (de_var 2) (da_cons (de_var 3) da_nil))) da_nil))) db_nil)
  (db_cons (ds_set 4 sc_Disk_of_places.nd (de_kfv 0 k_Disk hr (dar1 (da_cons (de_str (s := "")) da_nil))))
  (db_cons (ds_fld (de_var 4) (de_tup (da_cons (de_var 2) (da_cons (de_var 3) da_nil))))
  (db_one (ds_ret (de_var 4)))))))
def u_Disk_places (K : PySem.W.Frag) (c : Cs) : US := (usRet (uFld K "pair" (uVar 0)))
theorem der_Disk_places {cdv : Value} {A : Around} {outer : List Env} {s : Shared} {H : Hp} {E : XK} {f : Addr} (B : Bs K mg c) (hr : Room 0 (A.deeper (PyProof.Rows.envOfC "Disk.places" (defScope s_Disk_places) s.heap.objs.size f cdv))) :
    DB (cxOf (L2N.CX P w) P w K mg base N_Disk_places "Disk.places" (defScope s_Disk_places) f cdv A outer s H E) (defBody s_Disk_places) (u_Disk_places K c) :=
  (db_one (ds_ret (de_fld (de_var 0))))
def u_Disk_present_at (K : PySem.W.Frag) (c : Cs) (sp_head_number : FS) : US := (usSeq (usIf (uTb (uBin dGt (uCall (sp_head_number) gId (uA1 1 (uCons (uBin dIx (uFld K "pair" (uVar 0)) (uC (.int 1))) uNil))) (uCall (sp_head_number) gId (uA1 1 (uCons (uBin dIx (uFld K "pair" (uVar 0)) (uC (.int 0))) uNil))))) (usRet (uC (.int 1))) usNil)
  (usRet (uC (.int 0))))
theorem der_Disk_present_at {cdv : Value} {A : Around} {outer : List Env} {s : Shared} {H : Hp} {E : XK} {f : Addr} {sp_head_number : FS} (B : Bs K mg c) (h_head_number : FF P w K mg base "head_number" 1 ps_head_number (sp_head_number) 1 [] gId) (hr : Room 1 (A.deeper (PyProof.Rows.envOfC "Disk.present_at" (defScope s_Disk_present_at) s.heap.objs.size f cdv))) :
    DB (cxOf (L2N.CX P w) P w K mg base N_Disk_present_at "Disk.present_at" (defScope s_Disk_present_at) f cdv A outer s H E) (defBody s_Disk_present_at) (u_Disk_present_at K c sp_head_number) :=
  (db_cons (ds_if (dt_cmp od_gt (de_ff h_head_number hr (dar1 (da_cons (de_ix (de_fld (de_var 0)) de_int) da_nil))) (de_ff h_head_number hr (dar1 (da_cons (de_ix (de_fld (de_var 0)) de_int) da_nil)))) (db_one (ds_ret de_int)) db_nil)
  (db_one (ds_ret de_int)))
def u_Disk_put (K : PySem.W.Frag) (c : Cs) : US := (usIf (uTb (uBin dEq (uVar 1) (uC (.int 0)))) (usFld K "pair" (uVar 0) (uTup (uCons (uVar 2) (uCons (uBin dIx (uFld K "pair" (uVar 0)) (uC (.int 1))) uNil)))) (usFld K "pair" (uVar 0) (uTup (uCons (uBin dIx (uFld K "pair" (uVar 0)) (uC (.int 0))) (uCons (uVar 2) uNil)))))
theorem der_Disk_put {cdv : Value} {A : Around} {outer : List Env} {s : Shared} {H : Hp} {E : XK} {f : Addr} (B : Bs K mg c) (hr : Room 0 (A.deeper (PyProof.Rows.envOfC "Disk.put" (defScope s_Disk_put) s.heap.objs.size f cdv))) :
    DB (cxOf (L2N.CX P w) P w K mg base N_Disk_put "Disk.put" (defScope s_Disk_put) f cdv A outer s H E) (defBody s_Disk_put) (u_Disk_put K c) :=
  (db_one (ds_if (dt_cmp (od_eq (hu64 hr)) (de_var 1) de_int) (db_one (ds_fld (de_var 0) (de_tup (da_cons (de_var 2) (da_cons (de_ix (de_fld (de_var 0)) de_int) da_nil))))) (db_one (ds_fld (de_var 0) (de_tup (da_cons (de_ix (de_fld (de_var 0)) de_int) (da_cons (de_var 2) da_nil)))))))
def u_Disk_book (K : PySem.W.Frag) (c : Cs) (sp_Disk_present_at : FS) (sp_head_number : FS) : US := (usRet (uCall (sp_head_number) gId (uA1 1 (uCons (uBin dIx (uFld K "pair" (uVar 0)) (uMeth c.Disk "present_at" (sp_Disk_present_at) gId (uVar 0) uA0)) uNil))))
theorem der_Disk_book {cdv : Value} {A : Around} {outer : List Env} {s : Shared} {H : Hp} {E : XK} {f : Addr} {sp_Disk_present_at : FS} {sp_head_number : FS} (B : Bs K mg c) (h_Disk_present_at : MF P w K mg base c.Disk "present_at" 2 ps_Disk_present_at (sp_Disk_present_at) 0 [] gId) (h_head_number : FF P w K mg base "head_number" 1 ps_head_number (sp_head_number) 1 [] gId) (hr : Room 2 (A.deeper (PyProof.Rows.envOfC "Disk.book" (defScope s_Disk_book) s.heap.objs.size f cdv))) :
    DB (cxOf (L2N.CX P w) P w K mg base N_Disk_book "Disk.book" (defScope s_Disk_book) f cdv A outer s H E) (defBody s_Disk_book) (u_Disk_book K c sp_Disk_present_at sp_head_number) :=
  (db_one (ds_ret (de_ff h_head_number hr (dar1 (da_cons (de_ix (de_fld (de_var 0)) (de_mf (de_var 0) h_Disk_present_at hr dar0)) da_nil)))))
def u_Disk_head (K : PySem.W.Frag) (c : Cs) (sp_Disk_present_at : FS) (sp_whole_lines : FS) : US := (usRet (uBin dIx (uBM "str" (gM mPart) (uBin dIx (uCall (sp_whole_lines) gId (uA1 1 (uCons (uBin dIx (uFld K "pair" (uVar 0)) (uMeth c.Disk "present_at" (sp_Disk_present_at) gId (uVar 0) uA0)) uNil))) (uC (.int 0))) (uCons (uC (.str (cs " "))) uNil)) (uC (.int 2))))
theorem der_Disk_head {cdv : Value} {A : Around} {outer : List Env} {s : Shared} {H : Hp} {E : XK} {f : Addr} {sp_Disk_present_at : FS} {sp_whole_lines : FS} (B : Bs K mg c) (h_Disk_present_at : MF P w K mg base c.Disk "present_at" 2 ps_Disk_present_at (sp_Disk_present_at) 0 [] gId) (h_whole_lines : FF P w K mg base "whole_lines" 1 ps_whole_lines (sp_whole_lines) 1 [] gId) (hr : Room 2 (A.deeper (PyProof.Rows.envOfC "Disk.head" (defScope s_Disk_head) s.heap.objs.size f cdv))) :
    DB (cxOf (L2N.CX P w) P w K mg base N_Disk_head "Disk.head" (defScope s_Disk_head) f cdv A outer s H E) (defBody s_Disk_head) (u_Disk_head K c sp_Disk_present_at sp_whole_lines) :=
  (db_one (ds_ret (de_ix (de_bm PySem.F.plainAttrs_str PySem.F.slot_str_partition PySem.F.type_str_partition md_part (de_ix (de_ff h_whole_lines hr (dar1 (da_cons (de_ix (de_fld (de_var 0)) (de_mf (de_var 0) h_Disk_present_at hr dar0)) da_nil))) de_int) (da_cons (de_str (s := " ")) da_nil)) de_int)))
def u_Disk_records (K : PySem.W.Frag) (c : Cs) (sp_Disk_present_at : FS) (sp_whole_lines : FS) : US := (usRet (uFn (gP fTup) (uCons (uSl (uCall (sp_whole_lines) gId (uA1 1 (uCons (uBin dIx (uFld K "pair" (uVar 0)) (uMeth c.Disk "present_at" (sp_Disk_present_at) gId (uVar 0) uA0)) uNil))) (uPart (uC (.int 1))) uNoPart) uNil)))
theorem der_Disk_records {cdv : Value} {A : Around} {outer : List Env} {s : Shared} {H : Hp} {E : XK} {f : Addr} {sp_Disk_present_at : FS} {sp_whole_lines : FS} (B : Bs K mg c) (h_Disk_present_at : MF P w K mg base c.Disk "present_at" 2 ps_Disk_present_at (sp_Disk_present_at) 0 [] gId) (h_whole_lines : FF P w K mg base "whole_lines" 1 ps_whole_lines (sp_whole_lines) 1 [] gId) (hr : Room 2 (A.deeper (PyProof.Rows.envOfC "Disk.records" (defScope s_Disk_records) s.heap.objs.size f cdv))) :
    DB (cxOf (L2N.CX P w) P w K mg base N_Disk_records "Disk.records" (defScope s_Disk_records) f cdv A outer s H E) (defBody s_Disk_records) (u_Disk_records K c sp_Disk_present_at sp_whole_lines) :=
  (db_one (ds_ret (de_fnT cd_tup B.n_tuple (by decide +kernel) (da_cons (de_slice (de_ff h_whole_lines hr (dar1 (da_cons (de_ix (de_fld (de_var 0)) (de_mf (de_var 0) h_Disk_present_at hr dar0)) da_nil))) (do_some de_int) do_none) da_nil))))
def u_Disk_write (K : PySem.W.Frag) (c : Cs) (sp_Disk_present_at : FS) (sp_torn_end : FS) (sp_first_signs : FS) (sp_Disk_put : FS) : US := (usSeq (usSet 3 (uMeth c.Disk "present_at" (sp_Disk_present_at) gId (uVar 0) uA0))
  (usSeq (usIf (uTb (uBin dNe (uCall (sp_torn_end) gId (uA1 1 (uCons (uBin dIx (uFld K "pair" (uVar 0)) (uVar 3)) uNil))) (uC (.str (cs ""))))) (usRaise c.Torn ["text"] (uCons (uVar 1) uNil)) usNil)
  (usSeq (usSet 4 (uBin dAdd (uVar 1) (uC (.str (cs "\n")))))
  (usSeq (usSet 5 (uCall (sp_first_signs) gId (uA1 2 (uCons (uVar 4) (uCons (uVar 2) uNil)))))
  (usSeq (usExpr (uMeth c.Disk "put" (sp_Disk_put) gId (uVar 0) (uA1 2 (uCons (uVar 3) (uCons (uBin dAdd (uBin dIx (uFld K "pair" (uVar 0)) (uVar 3)) (uVar 5)) uNil)))))
  (usRet (uBin dEq (uVar 5) (uVar 4))))))))
theorem der_Disk_write {cdv : Value} {A : Around} {outer : List Env} {s : Shared} {H : Hp} {E : XK} {f : Addr} {sp_Disk_present_at : FS} {sp_torn_end : FS} {sp_first_signs : FS} {sp_Disk_put : FS} (B : Bs K mg c) (h_Disk_present_at : MF P w K mg base c.Disk "present_at" 2 ps_Disk_present_at (sp_Disk_present_at) 0 [] gId) (h_torn_end : FF P w K mg base "torn_end" 1 ps_torn_end (sp_torn_end) 1 [] gId) (x_Torn : ExF P w K mg base "Torn" c.Torn ["text"]) (h_first_signs : FF P w K mg base "first_signs" 1 ps_first_signs (sp_first_signs) 2 [] gId) (h_Disk_put : MF P w K mg base c.Disk "put" 1 ps_Disk_put (sp_Disk_put) 2 [] gId) (hr : Room 2 (A.deeper (PyProof.Rows.envOfC "Disk.write" (defScope s_Disk_write) s.heap.objs.size f cdv))) :
    DB (cxOf (L2N.CX P w) P w K mg base N_Disk_write "Disk.write" (defScope s_Disk_write) f cdv A outer s H E) (defBody s_Disk_write) (u_Disk_write K c sp_Disk_present_at sp_torn_end sp_first_signs sp_Disk_put) :=
  (db_cons (ds_set 3 sc_Disk_write.nd (de_mf (de_var 0) h_Disk_present_at hr dar0))
  (db_cons (ds_if (dt_cmp (od_ne (hu64 hr)) (de_ff h_torn_end hr (dar1 (da_cons (de_ix (de_fld (de_var 0)) (de_var 3)) da_nil))) (de_str (s := ""))) (db_one (ds_raise rfl x_Torn (hr.mono (by decide)) (da_cons (de_var 1) da_nil))) db_nil)
  (db_cons (ds_set 4 sc_Disk_write.nd (de_bin od_add (de_var 1) (de_str (s := "\n"))))
  (db_cons (ds_set 5 sc_Disk_write.nd (de_ff h_first_signs hr (dar1 (da_cons (de_var 4) (da_cons (de_var 2) da_nil)))))
  (db_cons (ds_expr (de_mf (de_var 0) h_Disk_put hr (dar1 (da_cons (de_var 3) (da_cons (de_bin od_add (de_ix (de_fld (de_var 0)) (de_var 3)) (de_var 5)) da_nil)))))
  (db_one (ds_ret (de_cmp (od_eq (hu64 hr)) (de_var 5) (de_var 4)))))))))
def u_Disk_close (K : PySem.W.Frag) (c : Cs) (sp_Disk_book : FS) (sp_first_signs : FS) (sp_Disk_present_at : FS) (sp_Disk_put : FS) : US := (usSeq (usSet 3 (uBin dAdd (uBin dAdd (uBin dAdd (uFn (gP fStr) (uCons (uBin dAdd (uProp c.Disk (sp_Disk_book) (uVar 0)) (uC (.int 1))) uNil)) (uC (.str (cs " ")))) (uVar 1)) (uC (.str (cs "\n")))))
  (usSeq (usSet 4 (uCall (sp_first_signs) gId (uA1 2 (uCons (uVar 3) (uCons (uVar 2) uNil)))))
  (usSeq (usExpr (uMeth c.Disk "put" (sp_Disk_put) gId (uVar 0) (uA1 2 (uCons (uBin dSub (uC (.int 1)) (uMeth c.Disk "present_at" (sp_Disk_present_at) gId (uVar 0) uA0)) (uCons (uVar 4) uNil)))))
  (usRet (uBin dEq (uVar 4) (uVar 3))))))
theorem der_Disk_close {cdv : Value} {A : Around} {outer : List Env} {s : Shared} {H : Hp} {E : XK} {f : Addr} {sp_Disk_book : FS} {sp_first_signs : FS} {sp_Disk_present_at : FS} {sp_Disk_put : FS} (B : Bs K mg c) (h_Disk_book : PF P w K mg base c.Disk "book" 3 ps_Disk_book (sp_Disk_book)) (h_first_signs : FF P w K mg base "first_signs" 1 ps_first_signs (sp_first_signs) 2 [] gId) (h_Disk_present_at : MF P w K mg base c.Disk "present_at" 2 ps_Disk_present_at (sp_Disk_present_at) 0 [] gId) (h_Disk_put : MF P w K mg base c.Disk "put" 1 ps_Disk_put (sp_Disk_put) 2 [] gId) (hr : Room 4 (A.deeper (PyProof.Rows.envOfC "Disk.close" (defScope s_Disk_close) s.heap.objs.size f cdv))) :
    DB (cxOf (L2N.CX P w) P w K mg base N_Disk_close "Disk.close" (defScope s_Disk_close) f cdv A outer s H E) (defBody s_Disk_close) (u_Disk_close K c sp_Disk_book sp_first_signs sp_Disk_present_at sp_Disk_put) :=
  (db_cons (ds_set 3 sc_Disk_close.nd (de_bin od_add (de_bin od_add (de_bin od_add (de_fnT cd_str B.n_str (by decide +kernel) (da_cons (de_bin od_add (de_pf (de_var 0) h_Disk_book hr) de_int) da_nil)) (de_str (s := " "))) (de_var 1)) (de_str (s := "\n"))))
  (db_cons (ds_set 4 sc_Disk_close.nd (de_ff h_first_signs hr (dar1 (da_cons (de_var 3) (da_cons (de_var 2) da_nil)))))
  (db_cons (ds_expr (de_mf (de_var 0) h_Disk_put hr (dar1 (da_cons (de_bin od_sub de_int (de_mf (de_var 0) h_Disk_present_at hr dar0)) (da_cons (de_var 4) da_nil)))))
  (db_one (ds_ret (de_cmp (od_eq (hu64 hr)) (de_var 4) (de_var 3)))))))
def u_Disk_mend (K : PySem.W.Frag) (c : Cs) (sp_Disk_present_at : FS) (sp_torn_end : FS) (sp_Disk_put : FS) : US := (usSeq (usSet 1 (uMeth c.Disk "present_at" (sp_Disk_present_at) gId (uVar 0) uA0))
  (usSeq (usSet 2 (uBin dIx (uFld K "pair" (uVar 0)) (uVar 1)))
  (usSeq (usSet 3 (uCall (sp_torn_end) gId (uA1 1 (uCons (uVar 2) uNil))))
  (usSeq (usExpr (uMeth c.Disk "put" (sp_Disk_put) gId (uVar 0) (uA1 2 (uCons (uVar 1) (uCons (uSl (uVar 2) uNoPart (uPart (uBin dSub (uFn (gP fLen) (uCons (uVar 2) uNil)) (uFn (gP fLen) (uCons (uVar 3) uNil))))) uNil)))))
  (usRet (uBin dNe (uVar 3) (uC (.str (cs "")))))))))
theorem der_Disk_mend {cdv : Value} {A : Around} {outer : List Env} {s : Shared} {H : Hp} {E : XK} {f : Addr} {sp_Disk_present_at : FS} {sp_torn_end : FS} {sp_Disk_put : FS} (B : Bs K mg c) (h_Disk_present_at : MF P w K mg base c.Disk "present_at" 2 ps_Disk_present_at (sp_Disk_present_at) 0 [] gId) (h_torn_end : FF P w K mg base "torn_end" 1 ps_torn_end (sp_torn_end) 1 [] gId) (h_Disk_put : MF P w K mg base c.Disk "put" 1 ps_Disk_put (sp_Disk_put) 2 [] gId) (hr : Room 2 (A.deeper (PyProof.Rows.envOfC "Disk.mend" (defScope s_Disk_mend) s.heap.objs.size f cdv))) :
    DB (cxOf (L2N.CX P w) P w K mg base N_Disk_mend "Disk.mend" (defScope s_Disk_mend) f cdv A outer s H E) (defBody s_Disk_mend) (u_Disk_mend K c sp_Disk_present_at sp_torn_end sp_Disk_put) :=
  (db_cons (ds_set 1 sc_Disk_mend.nd (de_mf (de_var 0) h_Disk_present_at hr dar0))
  (db_cons (ds_set 2 sc_Disk_mend.nd (de_ix (de_fld (de_var 0)) (de_var 1)))
  (db_cons (ds_set 3 sc_Disk_mend.nd (de_ff h_torn_end hr (dar1 (da_cons (de_var 2) da_nil))))
  (db_cons (ds_expr (de_mf (de_var 0) h_Disk_put hr (dar1 (da_cons (de_var 1) (da_cons (de_slice (de_var 2) do_none (do_some (de_bin od_sub (de_fnB cd_len B.n_len (by decide +kernel) (da_cons (de_var 2) da_nil)) (de_fnB cd_len B.n_len (by decide +kernel) (da_cons (de_var 3) da_nil))))) da_nil)))))
  (db_one (ds_ret (de_cmp (od_ne (hu64 hr)) (de_var 3) (de_str (s := "")))))))))
def u_Disk___len__ (K : PySem.W.Frag) (c : Cs) (sp_Disk_records : FS) : US := (usRet (uFn (gP fLen) (uCons (uMeth c.Disk "records" (sp_Disk_records) gId (uVar 0) uA0) uNil)))
theorem der_Disk___len__ {cdv : Value} {A : Around} {outer : List Env} {s : Shared} {H : Hp} {E : XK} {f : Addr} {sp_Disk_records : FS} (B : Bs K mg c) (h_Disk_records : MF P w K mg base c.Disk "records" 3 ps_Disk_records (sp_Disk_records) 0 [] gId) (hr : Room 3 (A.deeper (PyProof.Rows.envOfC "Disk.__len__" (defScope s_Disk___len__) s.heap.objs.size f cdv))) :
    DB (cxOf (L2N.CX P w) P w K mg base N_Disk___len__ "Disk.__len__" (defScope s_Disk___len__) f cdv A outer s H E) (defBody s_Disk___len__) (u_Disk___len__ K c sp_Disk_records) :=
  (db_one (ds_ret (de_fnB cd_len B.n_len (by decide +kernel) (da_cons (de_mf (de_var 0) h_Disk_records hr dar0) da_nil))))
def u__law_flow (K : PySem.W.Frag) (c : Cs) : US := (usRet (uLst (uCons (uCat (uLc (isSeq (uSl (uVar 0) uNoPart (uPart (uC (.int 63))))) (ugName 1) utYes (uFn (gP fAbs) (uCons (uFn (gP fInt) (uCons (uVar 1) uNil)) uNil)) [1]) (uLst (uCons (uC (.int 5)) uNil))) (uCons (uC (.int 0)) (uCons (uC (.int 0)) (uCons (uC (.int 0)) uNil))))))
theorem der__law_flow {cdv : Value} {A : Around} {outer : List Env} {s : Shared} {H : Hp} {E : XK} {f : Addr} (B : Bs K mg c) (hr : Room 0 (A.deeper (PyProof.Rows.envOfC "_law_flow" (defScope s__law_flow) s.heap.objs.size f cdv))) :
    DB (cxOf (L2N.CX P w) P w K mg base N__law_flow "_law_flow" (defScope s__law_flow) f cdv A outer s H E) (defBody s__law_flow) (u__law_flow K c) :=
  (db_one (ds_ret (de_lst (da_cons (de_cat (de_lcv [(("cell" : Str), 1)] rfl sc__law_flow.nd (di_seq (de_slice (de_var 0) do_none (do_some de_int))) (blkOk_by (N := N__law_flow) (sc := defScope s__law_flow) (by decide +kernel)) (gr_name (i := 1)) (fun _ _ _ _ _ => (pg_name (i := 1) sc__law_flow.nd rfl (Or.inl rfl))) (fun _ _ _ _ _ => dts_nil) (fun _ _ _ _ _ => (de_fnB cd_abs B.n_abs (by decide +kernel) (da_cons (de_fnT cd_int B.n_int (by decide +kernel) (da_cons (de_var 1) da_nil)) da_nil)))) (de_lst (da_cons de_int da_nil))) (da_cons de_int (da_cons de_int (da_cons de_int da_nil)))))))
def u__law_take (K : PySem.W.Frag) (c : Cs) : US := (usSeq (usSub (uVar 0) (uC (.int 3)) (uBin dAdd (uBin dIx (uVar 0) (uC (.int 3))) (uC (.int 1))))
  (usSeq (usIf (uTb (uBin dEq (uBin dIx (uVar 0) (uC (.int 2))) (uC (.int 0)))) (usSeq (usSet 2 (uBin dIx (uBin dIx (uVar 0) (uC (.int 0))) (uBin dMod (uFn (gP fInt) (uCons (uBin dIx (uVar 0) (uC (.int 1))) uNil)) (uFn (gP fLen) (uCons (uBin dIx (uVar 0) (uC (.int 0))) uNil)))))
  (usSeq (usSub (uVar 0) (uC (.int 1)) (uBin dAdd (uBin dIx (uVar 0) (uC (.int 1))) (uC (.int 1))))
  (usSeq (usIf (uOr (uTb (uBin dLt (uVar 2) (uC (.int 1000000000000000000)))) (uTb (uBin dGt (uBin dIx (uVar 0) (uC (.int 1))) (uFn (gP fLen) (uCons (uBin dIx (uVar 0) (uC (.int 0))) uNil))))) (usSeq (usSet 3 (uBin dMod (uFn (gP fInt) (uCons (uBin dAdd (uBin dAdd (uBin dMulX (uVar 2) (uC (.int 48271))) (uBin dMulX (uBin dIx (uVar 0) (uC (.int 3))) (uC (.int 69621)))) (uC (.int 7))) uNil)) (uC (.int 2147483647))))
  (usRet (uBin dMod (uFn (gP fInt) (uCons (uBin dMod (uFn (gP fInt) (uCons (uBin dAdd (uBin dAdd (uBin dMulX (uVar 3) (uVar 3)) (uBin dMulX (uVar 3) (uC (.int 40692)))) (uBin dMulX (uBin dIx (uVar 0) (uC (.int 3))) (uC (.int 7919)))) uNil)) (uC (.int 2147483399))) uNil)) (uVar 1)))) usNil)
  (usSub (uVar 0) (uC (.int 2)) (uVar 2))))) usNil)
  (usSeq (usSet 4 (uBin dMod (uFn (gP fInt) (uCons (uBin dIx (uVar 0) (uC (.int 2))) uNil)) (uVar 1)))
  (usSeq (usSub (uVar 0) (uC (.int 2)) (uBin dDiv (uBin dIx (uVar 0) (uC (.int 2))) (uVar 1)))
  (usRet (uVar 4))))))
theorem der__law_take {cdv : Value} {A : Around} {outer : List Env} {s : Shared} {H : Hp} {E : XK} {f : Addr} (B : Bs K mg c) (hr : Room 0 (A.deeper (PyProof.Rows.envOfC "_law_take" (defScope s__law_take) s.heap.objs.size f cdv))) :
    DB (cxOf (L2N.CX P w) P w K mg base N__law_take "_law_take" (defScope s__law_take) f cdv A outer s H E) (defBody s__law_take) (u__law_take K c) :=
  (db_cons (ds_sub (de_var 0) de_int (de_bin od_add (de_ix (de_var 0) de_int) de_int))
  (db_cons (ds_if (dt_cmp (od_eq (hu64 hr)) (de_ix (de_var 0) de_int) de_int) (db_cons (ds_set 2 sc__law_take.nd (de_ix (de_ix (de_var 0) de_int) (de_bin od_mod (de_fnT cd_int B.n_int (by decide +kernel) (da_cons (de_ix (de_var 0) de_int) da_nil)) (de_fnB cd_len B.n_len (by decide +kernel) (da_cons (de_ix (de_var 0) de_int) da_nil)))))
  (db_cons (ds_sub (de_var 0) de_int (de_bin od_add (de_ix (de_var 0) de_int) de_int))
  (db_cons (ds_if (dt_bool (dw_or (dt_cmp od_lt (de_var 2) de_int) (dw_or1 (dt_cmp od_gt (de_ix (de_var 0) de_int) (de_fnB cd_len B.n_len (by decide +kernel) (da_cons (de_ix (de_var 0) de_int) da_nil)))))) (db_cons (ds_set 3 sc__law_take.nd (de_bin od_mod (de_fnT cd_int B.n_int (by decide +kernel) (da_cons (de_bin od_add (de_bin od_add (de_bin od_mulX (de_var 2) de_int) (de_bin od_mulX (de_ix (de_var 0) de_int) de_int)) de_int) da_nil)) de_int))
  (db_one (ds_ret (de_bin od_mod (de_fnT cd_int B.n_int (by decide +kernel) (da_cons (de_bin od_mod (de_fnT cd_int B.n_int (by decide +kernel) (da_cons (de_bin od_add (de_bin od_add (de_bin od_mulX (de_var 3) (de_var 3)) (de_bin od_mulX (de_var 3) de_int)) (de_bin od_mulX (de_ix (de_var 0) de_int) de_int)) da_nil)) de_int) da_nil)) (de_var 1))))) db_nil)
  (db_one (ds_sub (de_var 0) de_int (de_var 2)))))) db_nil)
  (db_cons (ds_set 4 sc__law_take.nd (de_bin od_mod (de_fnT cd_int B.n_int (by decide +kernel) (da_cons (de_ix (de_var 0) de_int) da_nil)) (de_var 1)))
  (db_cons (ds_sub (de_var 0) de_int (de_bin od_div (de_ix (de_var 0) de_int) (de_var 1)))
  (db_one (ds_ret (de_var 4)))))))
def u__law_same (K : PySem.W.Frag) (c : Cs) (sp__law_same : FS) : US := (usSeq (usIf (uTru (uIsi ["tuple", "list"] (uVar 1))) (usSeq (usIf (uOr (uNot (uTru (uIsi ["tuple", "list"] (uVar 0)))) (uTb (uBin dNe (uIsi ["tuple"] (uVar 0)) (uIsi ["tuple"] (uVar 1))))) (usRet (uC (.bl false))) usNil)
  (usRet (uAndV (uBin dEq (uFn (gP fLen) (uCons (uVar 0) uNil)) (uFn (gP fLen) (uCons (uVar 1) uNil))) (uBin dEq (uFn (gP fLen) (uCons (uLc (isRng (uFn (gP fLen) (uCons (uVar 1) uNil))) (ugName 2) (uNot (uTru (uCall (sp__law_same) gId (uA1 2 (uCons (uBin dIx (uVar 0) (uVar 2)) (uCons (uBin dIx (uVar 1) (uVar 2)) uNil)))))) (uVar 2) [2]) uNil)) (uC (.int 0)))))) usNil)
  (usSeq (usIf (uTru (uIsi ["bool"] (uVar 1))) (usRet (uAndV (uIsi ["bool"] (uVar 0)) (uBin dEq (uVar 0) (uVar 1)))) usNil)
  (usSeq (usIf (uTru (uIsi ["int"] (uVar 1))) (usRet (uAndV (uIsi ["int"] (uVar 0)) (uAndV (uNotV (uIsi ["bool"] (uVar 0))) (uBin dEq (uVar 0) (uVar 1))))) usNil)
  (usSeq (usIf (uTru (uIsi ["str"] (uVar 1))) (usRet (uAndV (uIsi ["str"] (uVar 0)) (uBin dEq (uVar 0) (uVar 1)))) usNil)
  (usRet (uAndV (uBin dIs (uVar 0) (uC .non)) (uBin dIs (uVar 1) (uC .non))))))))
theorem der__law_same {cdv : Value} {A : Around} {outer : List Env} {s : Shared} {H : Hp} {E : XK} {f : Addr} {sp__law_same : FS} (B : Bs K mg c) {m : Nat} (hm : 2 ≤ m) (h__law_same : FF P w K mg base "_law_same" m ps__law_same (sp__law_same) 2 [] gId) (hr : Room m (A.deeper (PyProof.Rows.envOfC "_law_same" (defScope s__law_same) s.heap.objs.size f cdv))) :
    DB (cxOf (L2N.CX P w) P w K mg base N__law_same "_law_same" (defScope s__law_same) f cdv A outer s H E) (defBody s__law_same) (u__law_same K c sp__law_same) :=
  (db_cons (ds_if (dt_val (de_isi2 (de_var 1) B.n_isinstance B.n_tuple (by decide +kernel) B.n_list (by decide +kernel))) (db_cons (ds_if (dt_bool (dw_or (dt_not (dt_val (de_isi2 (de_var 0) B.n_isinstance B.n_tuple (by decide +kernel) B.n_list (by decide +kernel)))) (dw_or1 (dt_cmp (od_ne (hu64 hr)) (de_isi (de_var 0) B.n_isinstance B.n_tuple (by decide +kernel)) (de_isi (de_var 1) B.n_isinstance B.n_tuple (by decide +kernel)))))) (db_one (ds_ret de_bl)) db_nil)
  (db_one (ds_ret (de_and (de_cmp (od_eq (hu64 hr)) (de_fnB cd_len B.n_len (by decide +kernel) (da_cons (de_var 0) da_nil)) (de_fnB cd_len B.n_len (by decide +kernel) (da_cons (de_var 1) da_nil))) (de_one (de_cmp (od_eq (hu64 hr)) (de_fnB cd_len B.n_len (by decide +kernel) (da_cons (de_lcv [(("k" : Str), 2)] rfl sc__law_same.nd (di_rng (da_cons (de_fnB cd_len B.n_len (by decide +kernel) (da_cons (de_var 1) da_nil)) da_nil) rfl B.n_range) (blkOk_by (N := N__law_same) (sc := defScope s__law_same) (by decide +kernel)) (gr_name (i := 2)) (fun _ _ _ _ _ => (pg_name (i := 2) sc__law_same.nd rfl (Or.inl rfl))) (fun _ _ _ _ _ => dts_one (dt_not (dt_val (de_ff h__law_same hr (dar1 (da_cons (de_ix (de_var 0) (de_var 2)) (da_cons (de_ix (de_var 1) (de_var 2)) da_nil))) (hk := Nat.le_refl _))))) (fun _ _ _ _ _ => (de_var 2))) da_nil)) de_int)))))) db_nil)
  (db_cons (ds_if (dt_val (de_isi (de_var 1) B.n_isinstance B.n_bool (by decide +kernel))) (db_one (ds_ret (de_and (de_isi (de_var 0) B.n_isinstance B.n_bool (by decide +kernel)) (de_one (de_cmp (od_eq (hu64 hr)) (de_var 0) (de_var 1)))))) db_nil)
  (db_cons (ds_if (dt_val (de_isi (de_var 1) B.n_isinstance B.n_int (by decide +kernel))) (db_one (ds_ret (de_and (de_isi (de_var 0) B.n_isinstance B.n_int (by decide +kernel)) (de_and (de_not (de_isi (de_var 0) B.n_isinstance B.n_bool (by decide +kernel))) (de_one (de_cmp (od_eq (hu64 hr)) (de_var 0) (de_var 1))))))) db_nil)
  (db_cons (ds_if (dt_val (de_isi (de_var 1) B.n_isinstance B.n_str (by decide +kernel))) (db_one (ds_ret (de_and (de_isi (de_var 0) B.n_isinstance B.n_str (by decide +kernel)) (de_one (de_cmp (od_eq (hu64 hr)) (de_var 0) (de_var 1)))))) db_nil)
  (db_one (ds_ret (de_and (de_cmp od_is (de_var 0) de_non) (de_one (de_cmp od_is (de_var 1) de_non)))))))))
def u__law_text (K : PySem.W.Frag) (c : Cs) (sp__law_take : FS) : US := (usSeq (usSet 1 (uC (.str (cs " !#$&'()*+,-./0123456789:;<=>?@ABCDEFGHIJKLMNOPQRSTUVWXYZ[]^_`abcdefghijklmnopqrstuvwxyz{|}~\t\\"))))
  (usSeq (usIf (uTb (uBin dEq (uCall (sp__law_take) gId (uA1 2 (uCons (uVar 0) (uCons (uC (.int 4)) uNil)))) (uC (.int 0)))) (usRet (uBin dIx (uTup (uCons (uC (.str (cs ""))) (uCons (uC (.str (cs "0 a"))) (uCons (uC (.str (cs "1 "))) (uCons (uC (.str (cs " "))) (uCons (uC (.str (cs "N"))) (uCons (uC (.str (cs "(a,1)"))) (uCons (uC (.str (cs "2 b"))) (uCons (uC (.str (cs "00"))) uNil))))))))) (uCall (sp__law_take) gId (uA1 2 (uCons (uVar 0) (uCons (uC (.int 8)) uNil)))))) usNil)
  (usRet (uBM "str" gJoin' (uC (.str (cs ""))) (uCons (uLc (isRng (uCall (sp__law_take) gId (uA1 2 (uCons (uVar 0) (uCons (uC (.int 13)) uNil))))) (ugName 2) utYes (uBin dIx (uVar 1) (uCall (sp__law_take) gId (uA1 2 (uCons (uVar 0) (uCons (uFn (gP fLen) (uCons (uVar 1) uNil)) uNil))))) [2]) uNil)))))
theorem der__law_text {cdv : Value} {A : Around} {outer : List Env} {s : Shared} {H : Hp} {E : XK} {f : Addr} {sp__law_take : FS} (B : Bs K mg c) (h__law_take : FF P w K mg base "_law_take" 1 ps__law_take (sp__law_take) 2 [] gId) (hr : Room 1 (A.deeper (PyProof.Rows.envOfC "_law_text" (defScope s__law_text) s.heap.objs.size f cdv))) :
    DB (cxOf (L2N.CX P w) P w K mg base N__law_text "_law_text" (defScope s__law_text) f cdv A outer s H E) (defBody s__law_text) (u__law_text K c sp__law_take) :=
  (db_cons (ds_set 1 sc__law_text.nd (de_str (s := " !#$&'()*+,-./0123456789:;<=>?@ABCDEFGHIJKLMNOPQRSTUVWXYZ[]^_`abcdefghijklmnopqrstuvwxyz{|}~\t\\")))
  (db_cons (ds_if (dt_cmp (od_eq (hu64 hr)) (de_ff h__law_take hr (dar1 (da_cons (de_var 0) (da_cons de_int da_nil)))) de_int) (db_one (ds_ret (de_ix (de_tup (da_cons (de_str (s := "")) (da_cons (de_str (s := "0 a")) (da_cons (de_str (s := "1 ")) (da_cons (de_str (s := " ")) (da_cons (de_str (s := "N")) (da_cons (de_str (s := "(a,1)")) (da_cons (de_str (s := "2 b")) (da_cons (de_str (s := "00")) da_nil))))))))) (de_ff h__law_take hr (dar1 (da_cons (de_var 0) (da_cons de_int da_nil))))))) db_nil)
  (db_one (ds_ret (de_bm PySem.F.plainAttrs_str PySem.F.slot_str_join PySem.F.type_str_join md_join (de_str (s := "")) (da_cons (de_lcv [(("k" : Str), 2)] rfl sc__law_text.nd (di_rng (da_cons (de_ff h__law_take hr (dar1 (da_cons (de_var 0) (da_cons de_int da_nil)))) da_nil) rfl B.n_range) (blkOk_by (N := N__law_text) (sc := defScope s__law_text) (by decide +kernel)) (gr_name (i := 2)) (fun _ _ _ _ _ => (pg_name (i := 2) sc__law_text.nd rfl (Or.inl rfl))) (fun _ _ _ _ _ => dts_nil) (fun _ _ _ _ _ => (de_ix (de_var 1) (de_ff h__law_take hr (dar1 (da_cons (de_var 0) (da_cons (de_fnB cd_len B.n_len (by decide +kernel) (da_cons (de_var 1) da_nil)) da_nil))))))) da_nil))))))
def u__law_number (K : PySem.W.Frag) (c : Cs) (sp__law_take : FS) : US := (usSeq (usSet 1 (uCall (sp__law_take) gId (uA1 2 (uCons (uVar 0) (uCons (uC (.int 4)) uNil)))))
  (usSeq (usIf (uTb (uBin dEq (uVar 1) (uC (.int 0)))) (usRet (uBin dIx (uTup (uCons (uC (.int 0)) (uCons (uC (.int 9)) (uCons (uC (.int 99)) (uCons (uC (.int 899999999)) (uCons (uC (.int 900000000)) (uCons (uC (.int 1)) (uCons (uC (.int 10)) uNil)))))))) (uCall (sp__law_take) gId (uA1 2 (uCons (uVar 0) (uCons (uC (.int 7)) uNil)))))) usNil)
  (usSeq (usIf (uTb (uBin dEq (uVar 1) (uC (.int 1)))) (usRet (uCall (sp__law_take) gId (uA1 2 (uCons (uVar 0) (uCons (uC (.int 900000001)) uNil))))) usNil)
  (usRet (uCall (sp__law_take) gId (uA1 2 (uCons (uVar 0) (uCons (uC (.int 30)) uNil))))))))
theorem der__law_number {cdv : Value} {A : Around} {outer : List Env} {s : Shared} {H : Hp} {E : XK} {f : Addr} {sp__law_take : FS} (B : Bs K mg c) (h__law_take : FF P w K mg base "_law_take" 1 ps__law_take (sp__law_take) 2 [] gId) (hr : Room 1 (A.deeper (PyProof.Rows.envOfC "_law_number" (defScope s__law_number) s.heap.objs.size f cdv))) :
    DB (cxOf (L2N.CX P w) P w K mg base N__law_number "_law_number" (defScope s__law_number) f cdv A outer s H E) (defBody s__law_number) (u__law_number K c sp__law_take) :=
  (db_cons (ds_set 1 sc__law_number.nd (de_ff h__law_take hr (dar1 (da_cons (de_var 0) (da_cons de_int da_nil)))))
  (db_cons (ds_if (dt_cmp (od_eq (hu64 hr)) (de_var 1) de_int) (db_one (ds_ret (de_ix (de_tup (da_cons de_int (da_cons de_int (da_cons de_int (da_cons de_int (da_cons de_int (da_cons de_int (da_cons de_int da_nil)))))))) (de_ff h__law_take hr (dar1 (da_cons (de_var 0) (da_cons de_int da_nil))))))) db_nil)
  (db_cons (ds_if (dt_cmp (od_eq (hu64 hr)) (de_var 1) de_int) (db_one (ds_ret (de_ff h__law_take hr (dar1 (da_cons (de_var 0) (da_cons de_int da_nil)))))) db_nil)
  (db_one (ds_ret (de_ff h__law_take hr (dar1 (da_cons (de_var 0) (da_cons de_int da_nil)))))))))
def u__law_place (K : PySem.W.Frag) (c : Cs) (sp__law_text : FS) (sp__law_take : FS) (sp__law_head : FS) : US := (usSeq (usSet 2 (uCall (sp__law_text) gId (uA1 1 (uCons (uVar 0) uNil))))
  (usSeq (usSet 3 (uBin dAdd (uBin dAdd (uBin dAdd (uFn (gP fStr) (uCons (uVar 1) uNil)) (uC (.str (cs " ")))) (uVar 2)) (uC (.str (cs "\n")))))
  (usSeq (usSet 4 (uCall (sp__law_take) gId (uA1 2 (uCons (uVar 0) (uCons (uC (.int 24)) uNil)))))
  (usSeq (usIf (uTb (uBin dLt (uVar 4) (uC (.int 12)))) (usSeq (usSet 5 (uTup (uCons (uC (.str (cs ""))) (uCons (uFn (gP fStr) (uCons (uVar 1) uNil)) (uCons (uSl (uVar 3) uNoPart (uPart (uBin dSub (uFn (gP fLen) (uCons (uVar 3) uNil)) (uC (.int 1))))) (uCons (uBin dAdd (uC (.str (cs "0"))) (uVar 3)) (uCons (uBin dAdd (uC (.str (cs " "))) (uVar 3)) (uCons (uBin dAdd (uC (.str (cs "-"))) (uVar 3)) (uCons (uBin dAdd (uC (.str (cs "+"))) (uVar 3)) (uCons (uBin dAdd (uBin dAdd (uBin dAdd (uFn (gP fStr) (uCons (uVar 1) uNil)) (uC (.str (cs "\t")))) (uVar 2)) (uC (.str (cs "\n")))) (uCons (uBin dAdd (uBin dAdd (uC (.str (cs "1_0 "))) (uVar 2)) (uC (.str (cs "\n")))) (uCons (uBin dAdd (uBin dAdd (uC (.str (cs "1234567890 "))) (uVar 2)) (uC (.str (cs "\n")))) (uCons (uBin dAdd (uC (.str (cs "\n"))) (uVar 3)) (uCons (uBin dAdd (uFn (gP fStr) (uCons (uVar 1) uNil)) (uC (.str (cs "\n")))) uNil))))))))))))))
  (usSet 3 (uBin dIx (uVar 5) (uVar 4)))) (usIf (uTb (uBin dEq (uVar 4) (uC (.int 12)))) (usSet 3 (uBin dAdd (uC (.str (cs "a"))) (uVar 3))) (usIf (uTb (uBin dEq (uVar 4) (uC (.int 13)))) (usSet 3 (uBin dAdd (uBin dAdd (uBin dAdd (uFn (gP fStr) (uCons (uVar 1) uNil)) (uC (.str (cs "x ")))) (uVar 2)) (uC (.str (cs "\n"))))) usNil)))
  (usSeq (usIf (uOr (uTb (uBin dEq (uVar 3) (uC (.str (cs ""))))) (uTb (uBin dEq (uSl (uVar 3) (uPart (uBin dSub (uFn (gP fLen) (uCons (uVar 3) uNil)) (uC (.int 1)))) uNoPart) (uC (.str (cs "\n")))))) (usFor (isRng (uCall (sp__law_take) gId (uA1 2 (uCons (uVar 0) (uCons (uC (.int 4)) uNil))))) (ugName 6) (usSet 3 (uBin dAdd (uBin dAdd (uVar 3) (uCall (sp__law_text) gId (uA1 1 (uCons (uVar 0) uNil)))) (uC (.str (cs "\n")))))) usNil)
  (usSeq (usIf (uTb (uBin dEq (uCall (sp__law_take) gId (uA1 2 (uCons (uVar 0) (uCons (uC (.int 3)) uNil)))) (uC (.int 0)))) (usSet 3 (uBin dAdd (uVar 3) (uCall (sp__law_text) gId (uA1 1 (uCons (uVar 0) uNil))))) usNil)
  (usSeq (usSet 7 (uCall (sp__law_head) gId (uA1 1 (uCons (uVar 3) uNil))))
  (usSeq (usIf (uAnd (uTb (uBin dIsNot (uVar 7) (uC .non))) (uTb (uBin dGt (uBin dIx (uVar 7) (uC (.int 0))) (uC (.int 900000000))))) (usRet (uBin dAdd (uC (.str (cs "9"))) (uVar 3))) usNil)
  (usRet (uVar 3))))))))))
theorem der__law_place {cdv : Value} {A : Around} {outer : List Env} {s : Shared} {H : Hp} {E : XK} {f : Addr} {sp__law_text : FS} {sp__law_take : FS} {sp__law_head : FS} (B : Bs K mg c) (h__law_text : FF P w K mg base "_law_text" 2 ps__law_text (sp__law_text) 1 [] gId) (h__law_take : FF P w K mg base "_law_take" 1 ps__law_take (sp__law_take) 2 [] gId) (h__law_head : FF P w K mg base "_law_head" 1 ps__law_head (sp__law_head) 1 [] gId) (hr : Room 2 (A.deeper (PyProof.Rows.envOfC "_law_place" (defScope s__law_place) s.heap.objs.size f cdv))) :
    DB (cxOf (L2N.CX P w) P w K mg base N__law_place "_law_place" (defScope s__law_place) f cdv A outer s H E) (defBody s__law_place) (u__law_place K c sp__law_text sp__law_take sp__law_head) :=
  (db_cons (ds_set 2 sc__law_place.nd (de_ff h__law_text hr (dar1 (da_cons (de_var 0) da_nil))))
  (db_cons (ds_set 3 sc__law_place.nd (de_bin od_add (de_bin od_add (de_bin od_add (de_fnT cd_str B.n_str (by decide +kernel) (da_cons (de_var 1) da_nil)) (de_str (s := " "))) (de_var 2)) (de_str (s := "\n"))))
  (db_cons (ds_set 4 sc__law_place.nd (de_ff h__law_take hr (dar1 (da_cons (de_var 0) (da_cons de_int da_nil)))))
  (db_cons (ds_if (dt_cmp od_lt (de_var 4) de_int) (db_cons (ds_set 5 sc__law_place.nd (de_tup (da_cons (de_str (s := "")) (da_cons (de_fnT cd_str B.n_str (by decide +kernel) (da_cons (de_var 1) da_nil)) (da_cons (de_slice (de_var 3) do_none (do_some (de_bin od_sub (de_fnB cd_len B.n_len (by decide +kernel) (da_cons (de_var 3) da_nil)) de_int))) (da_cons (de_bin od_add (de_str (s := "0")) (de_var 3)) (da_cons (de_bin od_add (de_str (s := " ")) (de_var 3)) (da_cons (de_bin od_add (de_str (s := "-")) (de_var 3)) (da_cons (de_bin od_add (de_str (s := "+")) (de_var 3)) (da_cons (de_bin od_add (de_bin od_add (de_bin od_add (de_fnT cd_str B.n_str (by decide +kernel) (da_cons (de_var 1) da_nil)) (de_str (s := "\t"))) (de_var 2)) (de_str (s := "\n"))) (da_cons (de_bin od_add (de_bin od_add (de_str (s := "1_0 ")) (de_var 2)) (de_str (s := "\n"))) (da_cons (de_bin od_add (de_bin od_add (de_str (s := "1234567890 ")) (de_var 2)) (de_str (s := "\n"))) (da_cons (de_bin od_add (de_str (s := "\n")) (de_var 3)) (da_cons (de_bin od_add (de_fnT cd_str B.n_str (by decide +kernel) (da_cons (de_var 1) da_nil)) (de_str (s := "\n"))) da_nil))))))))))))))
  (db_one (ds_set 3 sc__law_place.nd (de_ix (de_var 5) (de_var 4))))) (db_one (ds_if (dt_cmp (od_eq (hu64 hr)) (de_var 4) de_int) (db_one (ds_set 3 sc__law_place.nd (de_bin od_add (de_str (s := "a")) (de_var 3)))) (db_one (ds_if (dt_cmp (od_eq (hu64 hr)) (de_var 4) de_int) (db_one (ds_set 3 sc__law_place.nd (de_bin od_add (de_bin od_add (de_bin od_add (de_fnT cd_str B.n_str (by decide +kernel) (da_cons (de_var 1) da_nil)) (de_str (s := "x "))) (de_var 2)) (de_str (s := "\n"))))) db_nil)))))
  (db_cons (ds_if (dt_bool (dw_or (dt_cmp (od_eq (hu64 hr)) (de_var 3) (de_str (s := ""))) (dw_or1 (dt_cmp (od_eq (hu64 hr)) (de_slice (de_var 3) (do_some (de_bin od_sub (de_fnB cd_len B.n_len (by decide +kernel) (da_cons (de_var 3) da_nil)) de_int)) do_none) (de_str (s := "\n")))))) (db_one (ds_for (passes_of rfl) rfl (di_rng (da_cons (de_ff h__law_take hr (dar1 (da_cons (de_var 0) (da_cons de_int da_nil)))) da_nil) rfl B.n_range) (dg_name 6 sc__law_place.nd) (db_one (ds_set 3 sc__law_place.nd (de_bin od_add (de_bin od_add (de_var 3) (de_ff h__law_text hr (dar1 (da_cons (de_var 0) da_nil)))) (de_str (s := "\n"))))))) db_nil)
  (db_cons (ds_if (dt_cmp (od_eq (hu64 hr)) (de_ff h__law_take hr (dar1 (da_cons (de_var 0) (da_cons de_int da_nil)))) de_int) (db_one (ds_set 3 sc__law_place.nd (de_bin od_add (de_var 3) (de_ff h__law_text hr (dar1 (da_cons (de_var 0) da_nil)))))) db_nil)
  (db_cons (ds_set 7 sc__law_place.nd (de_ff h__law_head hr (dar1 (da_cons (de_var 3) da_nil))))
  (db_cons (ds_if (dt_bool (dw_and (dt_cmp od_isnot (de_var 7) de_non) (dw_and1 (dt_cmp od_gt (de_ix (de_var 7) de_int) de_int)))) (db_one (ds_ret (de_bin od_add (de_str (s := "9")) (de_var 3)))) db_nil)
  (db_one (ds_ret (de_var 3)))))))))))
def u__law_head (K : PySem.W.Frag) (c : Cs) : US := (usSeq (usSet 1 (uBM "str" (gM mFind) (uVar 0) (uCons (uC (.str (cs "\n"))) uNil)))
  (usSeq (usIf (uTb (uBin dLt (uVar 1) (uC (.int 0)))) (usRet (uC .non)) usNil)
  (usSeq (usSet 2 (uSl (uVar 0) uNoPart (uPart (uVar 1))))
  (usSeq (usSet 3 (uBM "str" (gM mFind) (uVar 2) (uCons (uC (.str (cs " "))) uNil)))
  (usSeq (usIf (uOr (uTb (uBin dLt (uVar 3) (uC (.int 1)))) (uOr (uTb (uBin dGt (uVar 3) (uC (.int 9)))) (uAnd (uTb (uBin dGt (uVar 3) (uC (.int 1)))) (uTb (uBin dEq (uSl (uVar 2) uNoPart (uPart (uC (.int 1)))) (uC (.str (cs "0")))))))) (usRet (uC .non)) usNil)
  (usSeq (usFor (isSeq (uSl (uVar 2) uNoPart (uPart (uVar 3)))) (ugName 4) (usIf (uTb (uBin dNotIn1 (uVar 4) (uC (.str (cs "0123456789"))))) (usRet (uC .non)) usNil))
  (usRet (uTup (uCons (uFn (gP fInt) (uCons (uSl (uVar 2) uNoPart (uPart (uVar 3))) uNil)) (uCons (uSl (uVar 2) (uPart (uBin dAdd (uVar 3) (uC (.int 1)))) uNoPart) uNil))))))))))
theorem der__law_head {cdv : Value} {A : Around} {outer : List Env} {s : Shared} {H : Hp} {E : XK} {f : Addr} (B : Bs K mg c) (hr : Room 0 (A.deeper (PyProof.Rows.envOfC "_law_head" (defScope s__law_head) s.heap.objs.size f cdv))) :
    DB (cxOf (L2N.CX P w) P w K mg base N__law_head "_law_head" (defScope s__law_head) f cdv A outer s H E) (defBody s__law_head) (u__law_head K c) :=
  (db_cons (ds_set 1 sc__law_head.nd (de_bm PySem.F.plainAttrs_str PySem.F.slot_str_find PySem.F.type_str_find md_find (de_var 0) (da_cons (de_str (s := "\n")) da_nil)))
  (db_cons (ds_if (dt_cmp od_lt (de_var 1) de_int) (db_one (ds_ret de_non)) db_nil)
  (db_cons (ds_set 2 sc__law_head.nd (de_slice (de_var 0) do_none (do_some (de_var 1))))
  (db_cons (ds_set 3 sc__law_head.nd (de_bm PySem.F.plainAttrs_str PySem.F.slot_str_find PySem.F.type_str_find md_find (de_var 2) (da_cons (de_str (s := " ")) da_nil)))
  (db_cons (ds_if (dt_bool (dw_or (dt_cmp od_lt (de_var 3) de_int) (dw_or (dt_cmp od_gt (de_var 3) de_int) (dw_or1 (dt_bool (dw_and (dt_cmp od_gt (de_var 3) de_int) (dw_and1 (dt_cmp (od_eq (hu64 hr)) (de_slice (de_var 2) do_none (do_some de_int)) (de_str (s := "0")))))))))) (db_one (ds_ret de_non)) db_nil)
  (db_cons (ds_for (passes_of rfl) rfl (di_seq (de_slice (de_var 2) do_none (do_some (de_var 3)))) (dg_name 4 sc__law_head.nd) (db_one (ds_if (dt_cmp (od_notin (hu65 hr)) (de_var 4) (de_str (s := "0123456789"))) (db_one (ds_ret de_non)) db_nil)))
  (db_one (ds_ret (de_tup (da_cons (de_fnT cd_int B.n_int (by decide +kernel) (da_cons (de_slice (de_var 2) do_none (do_some (de_var 3))) da_nil)) (da_cons (de_slice (de_var 2) (do_some (de_bin od_add (de_var 3) de_int)) do_none) da_nil)))))))))))
def u__law_present (K : PySem.W.Frag) (c : Cs) (sp__law_head : FS) : US := (usSeq (usSet 1 (uCall (sp__law_head) gId (uA1 1 (uCons (uBin dIx (uVar 0) (uC (.int 0))) uNil))))
  (usSeq (usSet 2 (uCall (sp__law_head) gId (uA1 1 (uCons (uBin dIx (uVar 0) (uC (.int 1))) uNil))))
  (usSeq (usIf (uAnd (uTb (uBin dIs (uVar 1) (uC .non))) (uTb (uBin dIs (uVar 2) (uC .non)))) (usRet (uUn dNeg (uC (.int 1)))) usNil)
  (usSeq (usIf (uTb (uBin dIs (uVar 1) (uC .non))) (usRet (uC (.int 1))) usNil)
  (usSeq (usIf (uOr (uTb (uBin dIs (uVar 2) (uC .non))) (uTb (uBin dLe (uBin dIx (uVar 2) (uC (.int 0))) (uBin dIx (uVar 1) (uC (.int 0)))))) (usRet (uC (.int 0))) usNil)
  (usRet (uC (.int 1))))))))
theorem der__law_present {cdv : Value} {A : Around} {outer : List Env} {s : Shared} {H : Hp} {E : XK} {f : Addr} {sp__law_head : FS} (B : Bs K mg c) (h__law_head : FF P w K mg base "_law_head" 1 ps__law_head (sp__law_head) 1 [] gId) (hr : Room 1 (A.deeper (PyProof.Rows.envOfC "_law_present" (defScope s__law_present) s.heap.objs.size f cdv))) :
    DB (cxOf (L2N.CX P w) P w K mg base N__law_present "_law_present" (defScope s__law_present) f cdv A outer s H E) (defBody s__law_present) (u__law_present K c sp__law_head) :=
  (db_cons (ds_set 1 sc__law_present.nd (de_ff h__law_head hr (dar1 (da_cons (de_ix (de_var 0) de_int) da_nil))))
  (db_cons (ds_set 2 sc__law_present.nd (de_ff h__law_head hr (dar1 (da_cons (de_ix (de_var 0) de_int) da_nil))))
  (db_cons (ds_if (dt_bool (dw_and (dt_cmp od_is (de_var 1) de_non) (dw_and1 (dt_cmp od_is (de_var 2) de_non)))) (db_one (ds_ret (de_neg de_int))) db_nil)
  (db_cons (ds_if (dt_cmp od_is (de_var 1) de_non) (db_one (ds_ret de_int)) db_nil)
  (db_cons (ds_if (dt_bool (dw_or (dt_cmp od_is (de_var 2) de_non) (dw_or1 (dt_cmp od_le (de_ix (de_var 2) de_int) (de_ix (de_var 1) de_int))))) (db_one (ds_ret de_int)) db_nil)
  (db_one (ds_ret de_int)))))))
def u__law_torn (K : PySem.W.Frag) (c : Cs) : US := (usRet (uSl (uVar 0) (uPart (uBin dAdd (uBM "str" (gM mRfind) (uVar 0) (uCons (uC (.str (cs "\n"))) uNil)) (uC (.int 1)))) uNoPart))
theorem der__law_torn {cdv : Value} {A : Around} {outer : List Env} {s : Shared} {H : Hp} {E : XK} {f : Addr} (B : Bs K mg c) (hr : Room 0 (A.deeper (PyProof.Rows.envOfC "_law_torn" (defScope s__law_torn) s.heap.objs.size f cdv))) :
    DB (cxOf (L2N.CX P w) P w K mg base N__law_torn "_law_torn" (defScope s__law_torn) f cdv A outer s H E) (defBody s__law_torn) (u__law_torn K c) :=
  (db_one (ds_ret (de_slice (de_var 0) (do_some (de_bin od_add (de_bm PySem.F.plainAttrs_str PySem.F.slot_str_rfind PySem.F.type_str_rfind md_rfind (de_var 0) (da_cons (de_str (s := "\n")) da_nil)) de_int)) do_none)))
def u__law_is (K : PySem.W.Frag) (c : Cs) (sp__law_present : FS) (sp__law_head : FS) (sp_Disk_places : FS) (sp__law_same : FS) (sp_Disk_book : FS) (sp_Disk_head : FS) (sp_Disk_records : FS) (sp_Disk___len__ : FS) : US := (usSeq (usSet 2 (uCall (sp__law_present) gId (uA1 1 (uCons (uVar 1) uNil))))
  (usSeq (usSet 3 (uCall (sp__law_head) gId (uA1 1 (uCons (uBin dIx (uVar 1) (uVar 2)) uNil))))
  (usSeq (usSet 4 (uBM "str" gSplit (uBin dIx (uVar 1) (uVar 2)) (uCons (uC (.str (cs "\n"))) uNil)))
  (usSeq (usSet 5 (uFn (gP fTup) (uCons (uSl (uVar 4) (uPart (uC (.int 1))) (uPart (uBin dSub (uFn (gP fLen) (uCons (uVar 4) uNil)) (uC (.int 1))))) uNil)))
  (usSeq (usIf (uOr (uNot (uTru (uCall (sp__law_same) gId (uA1 2 (uCons (uMeth c.Disk "places" (sp_Disk_places) gId (uVar 0) uA0) (uCons (uFn (gP fTup) (uCons (uVar 1) uNil)) uNil)))))) (uNot (uTru (uCall (sp__law_same) gId (uA1 2 (uCons (uProp c.Disk (sp_Disk_book) (uVar 0)) (uCons (uBin dIx (uVar 3) (uC (.int 0))) uNil))))))) (usRet (uC (.bl false))) usNil)
  (usSeq (usIf (uOr (uNot (uTru (uCall (sp__law_same) gId (uA1 2 (uCons (uMeth c.Disk "head" (sp_Disk_head) gId (uVar 0) uA0) (uCons (uBin dIx (uVar 3) (uC (.int 1))) uNil)))))) (uNot (uTru (uCall (sp__law_same) gId (uA1 2 (uCons (uMeth c.Disk "records" (sp_Disk_records) gId (uVar 0) uA0) (uCons (uVar 5) uNil))))))) (usRet (uC (.bl false))) usNil)
  (usRet (uCall (sp__law_same) gId (uA1 2 (uCons (uLenI c.Disk (sp_Disk___len__) (uVar 0)) (uCons (uFn (gP fLen) (uCons (uVar 5) uNil)) uNil)))))))))))
theorem der__law_is {cdv : Value} {A : Around} {outer : List Env} {s : Shared} {H : Hp} {E : XK} {f : Addr} {sp__law_present : FS} {sp__law_head : FS} {sp_Disk_places : FS} {sp__law_same : FS} {sp_Disk_book : FS} {sp_Disk_head : FS} {sp_Disk_records : FS} {sp_Disk___len__ : FS} (B : Bs K mg c) (h__law_present : FF P w K mg base "_law_present" 2 ps__law_present (sp__law_present) 1 [] gId) (h__law_head : FF P w K mg base "_law_head" 1 ps__law_head (sp__law_head) 1 [] gId) (h_Disk_places : MF P w K mg base c.Disk "places" 1 ps_Disk_places (sp_Disk_places) 0 [] gId) (h__law_same : FF P w K mg base "_law_same" 30 ps__law_same (sp__law_same) 2 [] gId) (h_Disk_book : PF P w K mg base c.Disk "book" 3 ps_Disk_book (sp_Disk_book)) (h_Disk_head : MF P w K mg base c.Disk "head" 3 ps_Disk_head (sp_Disk_head) 0 [] gId) (h_Disk_records : MF P w K mg base c.Disk "records" 3 ps_Disk_records (sp_Disk_records) 0 [] gId) (h_Disk___len__ : LF P w K mg base c.Disk 4 ps_Disk___len__ (sp_Disk___len__)) (hr : Room 30 (A.deeper (PyProof.Rows.envOfC "_law_is" (defScope s__law_is) s.heap.objs.size f cdv))) :
    DB (cxOf (L2N.CX P w) P w K mg base N__law_is "_law_is" (defScope s__law_is) f cdv A outer s H E) (defBody s__law_is) (u__law_is K c sp__law_present sp__law_head sp_Disk_places sp__law_same sp_Disk_book sp_Disk_head sp_Disk_records sp_Disk___len__) :=
  (db_cons (ds_set 2 sc__law_is.nd (de_ff h__law_present hr (dar1 (da_cons (de_var 1) da_nil))))
  (db_cons (ds_set 3 sc__law_is.nd (de_ff h__law_head hr (dar1 (da_cons (de_ix (de_var 1) (de_var 2)) da_nil))))
  (db_cons (ds_set 4 sc__law_is.nd (de_bm PySem.F.plainAttrs_str PySem.F.slot_str_split PySem.F.type_str_split md_split (de_ix (de_var 1) (de_var 2)) (da_cons (de_str (s := "\n")) da_nil)))
  (db_cons (ds_set 5 sc__law_is.nd (de_fnT cd_tup B.n_tuple (by decide +kernel) (da_cons (de_slice (de_var 4) (do_some de_int) (do_some (de_bin od_sub (de_fnB cd_len B.n_len (by decide +kernel) (da_cons (de_var 4) da_nil)) de_int))) da_nil)))
  (db_cons (ds_if (dt_bool (dw_or (dt_not (dt_val (de_ff h__law_same hr (dar1 (da_cons (de_mf (de_var 0) h_Disk_places hr dar0) (da_cons (de_fnT cd_tup B.n_tuple (by decide +kernel) (da_cons (de_var 1) da_nil)) da_nil)))))) (dw_or1 (dt_not (dt_val (de_ff h__law_same hr (dar1 (da_cons (de_pf (de_var 0) h_Disk_book hr) (da_cons (de_ix (de_var 3) de_int) da_nil))))))))) (db_one (ds_ret de_bl)) db_nil)
  (db_cons (ds_if (dt_bool (dw_or (dt_not (dt_val (de_ff h__law_same hr (dar1 (da_cons (de_mf (de_var 0) h_Disk_head hr dar0) (da_cons (de_ix (de_var 3) de_int) da_nil)))))) (dw_or1 (dt_not (dt_val (de_ff h__law_same hr (dar1 (da_cons (de_mf (de_var 0) h_Disk_records hr dar0) (da_cons (de_var 5) da_nil))))))))) (db_one (ds_ret de_bl)) db_nil)
  (db_one (ds_ret (de_ff h__law_same hr (dar1 (da_cons (de_lf (de_var 0) h_Disk___len__ hr B.n_len) (da_cons (de_fnB cd_len B.n_len (by decide +kernel) (da_cons (de_var 5) da_nil)) da_nil))))))))))))
def u__law_new (K : PySem.W.Frag) (c : Cs) (sp__law_take : FS) (sp__law_text : FS) (sp_Disk___init__ : FS) (sp__law_number : FS) (sp__law_place : FS) (sp_Disk_of_places : FS) (sp__law_present : FS) (sp__law_same : FS) : US := (usSeq (usIf (uTb (uBin dEq (uCall (sp__law_take) gId (uA1 2 (uCons (uVar 0) (uCons (uC (.int 4)) uNil)))) (uC (.int 0)))) (usSeq (usSet 1 (uCall (sp__law_text) gId (uA1 1 (uCons (uVar 0) uNil))))
  (usRet (uTup (uCons (uMake c.Disk (sp_Disk___init__) gId (uA1 1 (uCons (uVar 1) uNil))) (uCons (uLst (uCons (uBin dAdd (uBin dAdd (uC (.str (cs "0 "))) (uVar 1)) (uC (.str (cs "\n")))) (uCons (uC (.str (cs ""))) uNil))) uNil))))) usNil)
  (usSeq (usSet 2 (uCall (sp__law_number) gId (uA1 1 (uCons (uVar 0) uNil))))
  (usSeq (usSet 3 (uLst (uCons (uCall (sp__law_place) gId (uA1 2 (uCons (uVar 0) (uCons (uVar 2) uNil)))) (uCons (uCall (sp__law_place) gId (uA1 2 (uCons (uVar 0) (uCons (uVar 2) uNil)))) uNil))))
  (usSeq (usIf (uTb (uBin dGt (uCall (sp__law_take) gId (uA1 2 (uCons (uVar 0) (uCons (uC (.int 3)) uNil)))) (uC (.int 0)))) (usSeq (usSet 4 (uFn (gP fMin) (uCons (uC (.int 900000000)) (uCons (uFn (gP fMax) (uCons (uC (.int 0)) (uCons (uBin dAdd (uVar 2) (uBin dIx (uTup (uCons (uC (.int 1)) (uCons (uUn dNeg (uC (.int 1))) (uCons (uC (.int 10)) uNil)))) (uCall (sp__law_take) gId (uA1 2 (uCons (uVar 0) (uCons (uC (.int 3)) uNil)))))) uNil))) uNil))))
  (usSub (uVar 3) (uC (.int 1)) (uCall (sp__law_place) gId (uA1 2 (uCons (uVar 0) (uCons (uBin dIx (uTup (uCons (uVar 4) (uCons (uCall (sp__law_number) gId (uA1 1 (uCons (uVar 0) uNil))) uNil))) (uCall (sp__law_take) gId (uA1 2 (uCons (uVar 0) (uCons (uC (.int 2)) uNil))))) uNil)))))) usNil)
  (usSeq (usSet 5 (uFn (gP fTup) (uCons (uVar 3) uNil)))
  (usSeq (usIf (uTb (uBin dEq (uCall (sp__law_take) gId (uA1 2 (uCons (uVar 0) (uCons (uC (.int 2)) uNil)))) (uC (.int 0)))) (usSet 5 (uFn gLst (uCons (uVar 3) uNil))) usNil)
  (usSeq (usTryAs K (.ref c.BadBook) 7 (usSet 6 (uCMeth c.Disk (fun ds S Q X => ds.length = ps_Disk_of_places.length ∧ sp_Disk_of_places ds S Q X) (uC (.ref c.Disk)) (uCons (uVar 5) uNil))) (fun a cls d => (usSeq (usIf (uOr (uTb (uBin dGe (uCallH 1 (sp__law_present) (uCons (uVar 3) uNil)) (uC (.int 0)))) (uNot (uTru (uCallH 2 (sp__law_same) (uCons (uExF a c.BadBook cls d "texts" (uVar 7)) (uCons (uFn (gP fTup) (uCons (uVar 3) uNil)) uNil)))))) (usRet (uC .non)) usNil)
  (usRet (uTup (uCons (uMakeH 1 c.Disk (sp_Disk___init__) (uCons (uRepl (uBin dIx (uVar 3) (uC (.int 0))) (cs "\n") (cs "")) uNil)) (uCons (uLst (uCons (uBin dAdd (uBin dAdd (uC (.str (cs "0 "))) (uRepl (uBin dIx (uVar 3) (uC (.int 0))) (cs "\n") (cs ""))) (uC (.str (cs "\n")))) (uCons (uC (.str (cs ""))) uNil))) uNil)))))))
  (usSeq (usIf (uOr (uTb (uBin dLt (uCall (sp__law_present) gId (uA1 1 (uCons (uVar 3) uNil))) (uC (.int 0)))) (uNot (uTru (uCall (sp__law_same) gId (uA1 2 (uCons (uFn (gP fTup) (uCons (uVar 5) uNil)) (uCons (uFn (gP fTup) (uCons (uVar 3) uNil)) uNil))))))) (usRet (uC .non)) usNil)
  (usSeq (usIf (uTru (uIsi ["list"] (uVar 5))) (usSeq (usSub (uVar 5) (uC (.int 0)) (uC (.str (cs "7 changed\n"))))
  (usExpr (uBM "list" gAppend (uVar 5) (uCons (uC (.str (cs ""))) uNil)))) usNil)
  (usRet (uTup (uCons (uVar 6) (uCons (uVar 3) uNil)))))))))))))
theorem der__law_new {cdv : Value} {A : Around} {outer : List Env} {s : Shared} {H : Hp} {E : XK} {f : Addr} {sp__law_take : FS} {sp__law_text : FS} {sp_Disk___init__ : FS} {sp__law_number : FS} {sp__law_place : FS} {sp_Disk_of_places : FS} {sp__law_present : FS} {sp__law_same : FS} (B : Bs K mg c) (h__law_take : FF P w K mg base "_law_take" 1 ps__law_take (sp__law_take) 2 [] gId) (h__law_text : FF P w K mg base "_law_text" 2 ps__law_text (sp__law_text) 1 [] gId) (k_Disk : KF P w K mg base "Disk" c.Disk 1 ps_Disk___init__ (sp_Disk___init__) 1 [] gId) (h__law_number : FF P w K mg base "_law_number" 2 ps__law_number (sp__law_number) 1 [] gId) (h__law_place : FF P w K mg base "_law_place" 3 ps__law_place (sp__law_place) 2 [] gId) (h_Disk_of_places : CF P w K mg base c.Disk "of_places" 3 ps_Disk_of_places (sp_Disk_of_places) 1) (hh__law_present : FH P w K mg base "_law_present" 2 ps__law_present (sp__law_present)) (hh__law_same : FH P w K mg base "_law_same" 30 ps__law_same (sp__law_same)) (kh_Disk : KH P w K mg base "Disk" c.Disk 1 ps_Disk___init__ (sp_Disk___init__)) (h__law_present : FF P w K mg base "_law_present" 2 ps__law_present (sp__law_present) 1 [] gId) (h__law_same : FF P w K mg base "_law_same" 30 ps__law_same (sp__law_same) 2 [] gId) (hr : Room 30 (A.deeper (PyProof.Rows.envOfC "_law_new" (defScope s__law_new) s.heap.objs.size f cdv))) :
    DB (cxOf (L2N.CX P w) P w K mg base N__law_new "_law_new" (defScope s__law_new) f cdv A outer s H E) (defBody s__law_new) (u__law_new K c sp__law_take sp__law_text sp_Disk___init__ sp__law_number sp__law_place sp_Disk_of_places sp__law_present sp__law_same) :=
  (db_cons (ds_if (dt_cmp (od_eq (hu64 hr)) (de_ff h__law_take hr (dar1 (da_cons (de_var 0) (da_cons de_int da_nil)))) de_int) (db_cons (ds_set 1 sc__law_new.nd (de_ff h__law_text hr (dar1 (da_cons (de_var 0) da_nil))))
  (db_one (ds_ret (de_tup (da_cons (de_kf k_Disk hr (dar1 (da_cons (de_var 1) da_nil))) (da_cons (de_lst (da_cons (de_bin od_add (de_bin od_add (de_str (s := "0 ")) (de_var 1)) (de_str (s := "\n"))) (da_cons (de_str (s := "")) da_nil))) da_nil)))))) db_nil)
  (db_cons (ds_set 2 sc__law_new.nd (de_ff h__law_number hr (dar1 (da_cons (de_var 0) da_nil))))
  (db_cons (ds_set 3 sc__law_new.nd (de_lst (da_cons (de_ff h__law_place hr (dar1 (da_cons (de_var 0) (da_cons (de_var 2) da_nil)))) (da_cons (de_ff h__law_place hr (dar1 (da_cons (de_var 0) (da_cons (de_var 2) da_nil)))) da_nil))))
  (db_cons (ds_if (dt_cmp od_gt (de_ff h__law_take hr (dar1 (da_cons (de_var 0) (da_cons de_int da_nil)))) de_int) (db_cons (ds_set 4 sc__law_new.nd (de_fnB (cd_min rfl) B.n_min (by decide +kernel) (da_cons de_int (da_cons (de_fnB (cd_max rfl) B.n_max (by decide +kernel) (da_cons de_int (da_cons (de_bin od_add (de_var 2) (de_ix (de_tup (da_cons de_int (da_cons (de_neg de_int) (da_cons de_int da_nil)))) (de_ff h__law_take hr (dar1 (da_cons (de_var 0) (da_cons de_int da_nil)))))) da_nil))) da_nil))))
  (db_one (ds_sub (de_var 3) de_int (de_ff h__law_place hr (dar1 (da_cons (de_var 0) (da_cons (de_ix (de_tup (da_cons (de_var 4) (da_cons (de_ff h__law_number hr (dar1 (da_cons (de_var 0) da_nil))) da_nil))) (de_ff h__law_take hr (dar1 (da_cons (de_var 0) (da_cons de_int da_nil))))) da_nil))))))) db_nil)
  (db_cons (ds_set 5 sc__law_new.nd (de_fnT cd_tup B.n_tuple (by decide +kernel) (da_cons (de_var 3) da_nil)))
  (db_cons (ds_if (dt_cmp (od_eq (hu64 hr)) (de_ff h__law_take hr (dar1 (da_cons (de_var 0) (da_cons de_int da_nil)))) de_int) (db_one (ds_set 5 sc__law_new.nd (de_fnT cd_list B.n_list (by decide +kernel) (da_cons (de_var 3) da_nil)))) db_nil)
  (db_cons (ds_try_as 7 rfl rfl sc__law_new.nd (names_own B.c_BadBook) (fun pn xe po => (db_one (ds_set 6 sc__law_new.nd (de_cf (de_cls B.c_Disk) h_Disk_of_places hr (da_cons (de_var 5) da_nil))))) (fun a oe cls d pn hz hd hot => (db_cons (ds_if (dt_bool (dw_or (dt_cmp od_ge (de_ffH hh__law_present (rhM hr) hot (da_cons (de_var 3) da_nil)) de_int) (dw_or1 (dt_not (dt_val (de_ffH hh__law_same (rhM hr) hot (da_cons (de_exf (B.x_BadBook_texts) hz hd (de_var 7)) (da_cons (de_fnT cd_tup B.n_tuple (by decide +kernel) (da_cons (de_var 3) da_nil)) da_nil)))))))) (db_one (ds_ret de_non)) db_nil)
  (db_one (ds_ret (de_tup (da_cons (de_kH (n := 1) kh_Disk (rhM hr) hot (da_cons (de_replIx (y := "\n") (z := "") (de_var 3)) da_nil)) (da_cons (de_lst (da_cons (de_bin od_add (de_bin od_add (de_str (s := "0 ")) (de_replIx (y := "\n") (z := "") (de_var 3))) (de_str (s := "\n"))) (da_cons (de_str (s := "")) da_nil))) da_nil))))))))
  (db_cons (ds_if (dt_bool (dw_or (dt_cmp od_lt (de_ff h__law_present hr (dar1 (da_cons (de_var 3) da_nil))) de_int) (dw_or1 (dt_not (dt_val (de_ff h__law_same hr (dar1 (da_cons (de_fnT cd_tup B.n_tuple (by decide +kernel) (da_cons (de_var 5) da_nil)) (da_cons (de_fnT cd_tup B.n_tuple (by decide +kernel) (da_cons (de_var 3) da_nil)) da_nil))))))))) (db_one (ds_ret de_non)) db_nil)
  (db_cons (ds_if (dt_val (de_isi (de_var 5) B.n_isinstance B.n_list (by decide +kernel))) (db_cons (ds_sub (de_var 5) de_int (de_str (s := "7 changed\n")))
  (db_one (ds_expr (de_bm PySem.F.plainAttrs_list PySem.F.slot_list_append PySem.F.type_list_append md_append (de_var 5) (da_cons (de_str (s := "")) da_nil))))) db_nil)
  (db_one (ds_ret (de_tup (da_cons (de_var 6) (da_cons (de_var 3) da_nil))))))))))))))
def u__law_cut (K : PySem.W.Frag) (c : Cs) (sp__law_take : FS) : US := (usSeq (usSet 2 (uCall (sp__law_take) gId (uA1 2 (uCons (uVar 0) (uCons (uC (.int 4)) uNil)))))
  (usSeq (usIf (uTb (uBin dLt (uVar 2) (uC (.int 2)))) (usRet (uC .non)) usNil)
  (usSeq (usIf (uTb (uBin dEq (uVar 2) (uC (.int 2)))) (usRet (uCall (sp__law_take) gId (uA1 2 (uCons (uVar 0) (uCons (uBin dAdd (uVar 1) (uC (.int 2))) uNil))))) usNil)
  (usRet (uFn (gP fMax) (uCons (uC (.int 0)) (uCons (uBin dAdd (uBin dSub (uVar 1) (uC (.int 2))) (uCall (sp__law_take) gId (uA1 2 (uCons (uVar 0) (uCons (uC (.int 4)) uNil))))) uNil)))))))
theorem der__law_cut {cdv : Value} {A : Around} {outer : List Env} {s : Shared} {H : Hp} {E : XK} {f : Addr} {sp__law_take : FS} (B : Bs K mg c) (h__law_take : FF P w K mg base "_law_take" 1 ps__law_take (sp__law_take) 2 [] gId) (hr : Room 1 (A.deeper (PyProof.Rows.envOfC "_law_cut" (defScope s__law_cut) s.heap.objs.size f cdv))) :
    DB (cxOf (L2N.CX P w) P w K mg base N__law_cut "_law_cut" (defScope s__law_cut) f cdv A outer s H E) (defBody s__law_cut) (u__law_cut K c sp__law_take) :=
  (db_cons (ds_set 2 sc__law_cut.nd (de_ff h__law_take hr (dar1 (da_cons (de_var 0) (da_cons de_int da_nil)))))
  (db_cons (ds_if (dt_cmp od_lt (de_var 2) de_int) (db_one (ds_ret de_non)) db_nil)
  (db_cons (ds_if (dt_cmp (od_eq (hu64 hr)) (de_var 2) de_int) (db_one (ds_ret (de_ff h__law_take hr (dar1 (da_cons (de_var 0) (da_cons (de_bin od_add (de_var 1) de_int) da_nil)))))) db_nil)
  (db_one (ds_ret (de_fnB (cd_max rfl) B.n_max (by decide +kernel) (da_cons de_int (da_cons (de_bin od_add (de_bin od_sub (de_var 1) de_int) (de_ff h__law_take hr (dar1 (da_cons (de_var 0) (da_cons de_int da_nil))))) da_nil))))))))
def u__law_write (K : PySem.W.Frag) (c : Cs) (sp__law_present : FS) (sp__law_text : FS) (sp__law_cut : FS) (sp_Disk_write : FS) (sp__law_torn : FS) (sp__law_same : FS) : US := (usSeq (usSet 3 (uCall (sp__law_present) gId (uA1 1 (uCons (uVar 2) uNil))))
  (usSeq (usSet 4 (uCall (sp__law_text) gId (uA1 1 (uCons (uVar 0) uNil))))
  (usSeq (usSet 5 (uCall (sp__law_cut) gId (uA1 2 (uCons (uVar 0) (uCons (uBin dAdd (uFn (gP fLen) (uCons (uVar 4) uNil)) (uC (.int 1))) uNil)))))
  (usSeq (usSet 6 (uBin dAdd (uVar 4) (uC (.str (cs "\n")))))
  (usSeq (usIf (uTb (uBin dIsNot (uVar 5) (uC .non))) (usSet 6 (uSl (uVar 6) uNoPart (uPart (uVar 5)))) usNil)
  (usSeq (usTryAs K (.ref c.Torn) 8 (usIf (uTb (uBin dIs (uVar 5) (uC .non))) (usSet 7 (uMeth c.Disk "write" (sp_Disk_write) gNon (uVar 1) (uA1 1 (uCons (uVar 4) uNil)))) (usSet 7 (uMeth c.Disk "write" (sp_Disk_write) gApp (uVar 1) (uA2 1 1 (uCons (uVar 4) uNil) (uCons (uVar 5) uNil))))) (fun a cls d => (usRet (uAndV (uBin dNe (uCallH 1 (sp__law_torn) (uCons (uBin dIx (uVar 2) (uVar 3)) uNil)) (uC (.str (cs "")))) (uCallH 2 (sp__law_same) (uCons (uExF a c.Torn cls d "text" (uVar 8)) (uCons (uVar 4) uNil)))))))
  (usSeq (usIf (uTb (uBin dNe (uCall (sp__law_torn) gId (uA1 1 (uCons (uBin dIx (uVar 2) (uVar 3)) uNil))) (uC (.str (cs ""))))) (usRet (uC (.bl false))) usNil)
  (usSeq (usSub (uVar 2) (uVar 3) (uBin dAdd (uBin dIx (uVar 2) (uVar 3)) (uVar 6)))
  (usRet (uCall (sp__law_same) gId (uA1 2 (uCons (uVar 7) (uCons (uBin dEq (uFn (gP fLen) (uCons (uVar 6) uNil)) (uBin dAdd (uFn (gP fLen) (uCons (uVar 4) uNil)) (uC (.int 1)))) uNil)))))))))))))
theorem der__law_write {cdv : Value} {A : Around} {outer : List Env} {s : Shared} {H : Hp} {E : XK} {f : Addr} {sp__law_present : FS} {sp__law_text : FS} {sp__law_cut : FS} {sp_Disk_write : FS} {sp__law_torn : FS} {sp__law_same : FS} (B : Bs K mg c) (h__law_present : FF P w K mg base "_law_present" 2 ps__law_present (sp__law_present) 1 [] gId) (h__law_text : FF P w K mg base "_law_text" 2 ps__law_text (sp__law_text) 1 [] gId) (h__law_cut : FF P w K mg base "_law_cut" 2 ps__law_cut (sp__law_cut) 2 [] gId) (h_Disk_write_gNon : MF P w K mg base c.Disk "write" 3 ps_Disk_write (sp_Disk_write) 1 [] gNon) (h_Disk_write_gApp : MF P w K mg base c.Disk "write" 3 ps_Disk_write (sp_Disk_write) 1 [("cut" : Str)] gApp) (hh__law_torn : FH P w K mg base "_law_torn" 1 ps__law_torn (sp__law_torn)) (hh__law_same : FH P w K mg base "_law_same" 30 ps__law_same (sp__law_same)) (h__law_torn : FF P w K mg base "_law_torn" 1 ps__law_torn (sp__law_torn) 1 [] gId) (h__law_same : FF P w K mg base "_law_same" 30 ps__law_same (sp__law_same) 2 [] gId) (hr : Room 30 (A.deeper (PyProof.Rows.envOfC "_law_write" (defScope s__law_write) s.heap.objs.size f cdv))) :
    DB (cxOf (L2N.CX P w) P w K mg base N__law_write "_law_write" (defScope s__law_write) f cdv A outer s H E) (defBody s__law_write) (u__law_write K c sp__law_present sp__law_text sp__law_cut sp_Disk_write sp__law_torn sp__law_same) :=
  (db_cons (ds_set 3 sc__law_write.nd (de_ff h__law_present hr (dar1 (da_cons (de_var 2) da_nil))))
  (db_cons (ds_set 4 sc__law_write.nd (de_ff h__law_text hr (dar1 (da_cons (de_var 0) da_nil))))
  (db_cons (ds_set 5 sc__law_write.nd (de_ff h__law_cut hr (dar1 (da_cons (de_var 0) (da_cons (de_bin od_add (de_fnB cd_len B.n_len (by decide +kernel) (da_cons (de_var 4) da_nil)) de_int) da_nil)))))
  (db_cons (ds_set 6 sc__law_write.nd (de_bin od_add (de_var 4) (de_str (s := "\n"))))
  (db_cons (ds_if (dt_cmp od_isnot (de_var 5) de_non) (db_one (ds_set 6 sc__law_write.nd (de_slice (de_var 6) do_none (do_some (de_var 5))))) db_nil)
  (db_cons (ds_try_as 8 rfl rfl sc__law_write.nd (names_own B.c_Torn) (fun pn xe po => (db_one (ds_if (dt_cmp od_is (de_var 5) de_non) (db_one (ds_set 7 sc__law_write.nd (de_mf (de_var 1) h_Disk_write_gNon hr (dar1 (da_cons (de_var 4) da_nil))))) (db_one (ds_set 7 sc__law_write.nd (de_mf (de_var 1) h_Disk_write_gApp hr (dar2 (da_cons (de_var 4) da_nil) (dk_cons (de_var 5) dk_nil)))))))) (fun a oe cls d pn hz hd hot => (db_one (ds_ret (de_and (de_cmp (od_ne (huH64 (rhM hr))) (de_ffH hh__law_torn (rhM hr) hot (da_cons (de_ix (de_var 2) (de_var 3)) da_nil)) (de_str (s := ""))) (de_one (de_ffH hh__law_same (rhM hr) hot (da_cons (de_exf (B.x_Torn_text) hz hd (de_var 8)) (da_cons (de_var 4) da_nil)))))))))
  (db_cons (ds_if (dt_cmp (od_ne (hu64 hr)) (de_ff h__law_torn hr (dar1 (da_cons (de_ix (de_var 2) (de_var 3)) da_nil))) (de_str (s := ""))) (db_one (ds_ret de_bl)) db_nil)
  (db_cons (ds_sub (de_var 2) (de_var 3) (de_bin od_add (de_ix (de_var 2) (de_var 3)) (de_var 6)))
  (db_one (ds_ret (de_ff h__law_same hr (dar1 (da_cons (de_var 7) (da_cons (de_cmp (od_eq (hu64 hr)) (de_fnB cd_len B.n_len (by decide +kernel) (da_cons (de_var 6) da_nil)) (de_bin od_add (de_fnB cd_len B.n_len (by decide +kernel) (da_cons (de_var 4) da_nil)) de_int)) da_nil))))))))))))))
def u__law_close (K : PySem.W.Frag) (c : Cs) (sp__law_present : FS) (sp__law_text : FS) (sp__law_head : FS) (sp__law_cut : FS) (sp_Disk_close : FS) (sp__law_same : FS) : US := (usSeq (usSet 3 (uCall (sp__law_present) gId (uA1 1 (uCons (uVar 2) uNil))))
  (usSeq (usSet 4 (uCall (sp__law_text) gId (uA1 1 (uCons (uVar 0) uNil))))
  (usSeq (usSet 5 (uBin dAdd (uBin dAdd (uBin dAdd (uFn (gP fStr) (uCons (uBin dAdd (uBin dIx (uCall (sp__law_head) gId (uA1 1 (uCons (uBin dIx (uVar 2) (uVar 3)) uNil))) (uC (.int 0))) (uC (.int 1))) uNil)) (uC (.str (cs " ")))) (uVar 4)) (uC (.str (cs "\n")))))
  (usSeq (usSet 6 (uFn (gP fLen) (uCons (uVar 5) uNil)))
  (usSeq (usSet 7 (uCall (sp__law_cut) gId (uA1 2 (uCons (uVar 0) (uCons (uVar 6) uNil)))))
  (usSeq (usIf (uTb (uBin dIs (uVar 7) (uC .non))) (usSet 8 (uMeth c.Disk "close" (sp_Disk_close) gNon (uVar 1) (uA1 1 (uCons (uVar 4) uNil)))) (usSeq (usSet 5 (uSl (uVar 5) uNoPart (uPart (uVar 7))))
  (usSet 8 (uMeth c.Disk "close" (sp_Disk_close) gApp (uVar 1) (uA2 1 1 (uCons (uVar 4) uNil) (uCons (uVar 7) uNil))))))
  (usSeq (usSub (uVar 2) (uBin dSub (uC (.int 1)) (uVar 3)) (uVar 5))
  (usRet (uCall (sp__law_same) gId (uA1 2 (uCons (uVar 8) (uCons (uBin dEq (uFn (gP fLen) (uCons (uVar 5) uNil)) (uVar 6)) uNil))))))))))))
theorem der__law_close {cdv : Value} {A : Around} {outer : List Env} {s : Shared} {H : Hp} {E : XK} {f : Addr} {sp__law_present : FS} {sp__law_text : FS} {sp__law_head : FS} {sp__law_cut : FS} {sp_Disk_close : FS} {sp__law_same : FS} (B : Bs K mg c) (h__law_present : FF P w K mg base "_law_present" 2 ps__law_present (sp__law_present) 1 [] gId) (h__law_text : FF P w K mg base "_law_text" 2 ps__law_text (sp__law_text) 1 [] gId) (h__law_head : FF P w K mg base "_law_head" 1 ps__law_head (sp__law_head) 1 [] gId) (h__law_cut : FF P w K mg base "_law_cut" 2 ps__law_cut (sp__law_cut) 2 [] gId) (h_Disk_close_gNon : MF P w K mg base c.Disk "close" 5 ps_Disk_close (sp_Disk_close) 1 [] gNon) (h_Disk_close_gApp : MF P w K mg base c.Disk "close" 5 ps_Disk_close (sp_Disk_close) 1 [("cut" : Str)] gApp) (h__law_same : FF P w K mg base "_law_same" 30 ps__law_same (sp__law_same) 2 [] gId) (hr : Room 30 (A.deeper (PyProof.Rows.envOfC "_law_close" (defScope s__law_close) s.heap.objs.size f cdv))) :
    DB (cxOf (L2N.CX P w) P w K mg base N__law_close "_law_close" (defScope s__law_close) f cdv A outer s H E) (defBody s__law_close) (u__law_close K c sp__law_present sp__law_text sp__law_head sp__law_cut sp_Disk_close sp__law_same) :=
  (db_cons (ds_set 3 sc__law_close.nd (de_ff h__law_present hr (dar1 (da_cons (de_var 2) da_nil))))
  (db_cons (ds_set 4 sc__law_close.nd (de_ff h__law_text hr (dar1 (da_cons (de_var 0) da_nil))))
  (db_cons (ds_set 5 sc__law_close.nd (de_bin od_add (de_bin od_add (de_bin od_add (de_fnT cd_str B.n_str (by decide +kernel) (da_cons (de_bin od_add (de_ix (de_ff h__law_head hr (dar1 (da_cons (de_ix (de_var 2) (de_var 3)) da_nil))) de_int) de_int) da_nil)) (de_str (s := " "))) (de_var 4)) (de_str (s := "\n"))))
  (db_cons (ds_set 6 sc__law_close.nd (de_fnB cd_len B.n_len (by decide +kernel) (da_cons (de_var 5) da_nil)))
  (db_cons (ds_set 7 sc__law_close.nd (de_ff h__law_cut hr (dar1 (da_cons (de_var 0) (da_cons (de_var 6) da_nil)))))
  (db_cons (ds_if (dt_cmp od_is (de_var 7) de_non) (db_one (ds_set 8 sc__law_close.nd (de_mf (de_var 1) h_Disk_close_gNon hr (dar1 (da_cons (de_var 4) da_nil))))) (db_cons (ds_set 5 sc__law_close.nd (de_slice (de_var 5) do_none (do_some (de_var 7))))
  (db_one (ds_set 8 sc__law_close.nd (de_mf (de_var 1) h_Disk_close_gApp hr (dar2 (da_cons (de_var 4) da_nil) (dk_cons (de_var 7) dk_nil)))))))
  (db_cons (ds_sub (de_var 2) (de_bin od_sub de_int (de_var 3)) (de_var 5))
  (db_one (ds_ret (de_ff h__law_same hr (dar1 (da_cons (de_var 8) (da_cons (de_cmp (od_eq (hu64 hr)) (de_fnB cd_len B.n_len (by decide +kernel) (da_cons (de_var 5) da_nil)) (de_var 6)) da_nil)))))))))))))
def u__law_mend (K : PySem.W.Frag) (c : Cs) (sp__law_present : FS) (sp__law_torn : FS) (sp_Disk_mend : FS) (sp__law_same : FS) : US := (usSeq (usSet 2 (uCall (sp__law_present) gId (uA1 1 (uCons (uVar 1) uNil))))
  (usSeq (usSet 3 (uCall (sp__law_torn) gId (uA1 1 (uCons (uBin dIx (uVar 1) (uVar 2)) uNil))))
  (usSeq (usSub (uVar 1) (uVar 2) (uSl (uBin dIx (uVar 1) (uVar 2)) uNoPart (uPart (uBin dSub (uFn (gP fLen) (uCons (uBin dIx (uVar 1) (uVar 2)) uNil)) (uFn (gP fLen) (uCons (uVar 3) uNil))))))
  (usRet (uCall (sp__law_same) gId (uA1 2 (uCons (uMeth c.Disk "mend" (sp_Disk_mend) gId (uVar 0) uA0) (uCons (uBin dNe (uVar 3) (uC (.str (cs "")))) uNil))))))))
theorem der__law_mend {cdv : Value} {A : Around} {outer : List Env} {s : Shared} {H : Hp} {E : XK} {f : Addr} {sp__law_present : FS} {sp__law_torn : FS} {sp_Disk_mend : FS} {sp__law_same : FS} (B : Bs K mg c) (h__law_present : FF P w K mg base "_law_present" 2 ps__law_present (sp__law_present) 1 [] gId) (h__law_torn : FF P w K mg base "_law_torn" 1 ps__law_torn (sp__law_torn) 1 [] gId) (h_Disk_mend : MF P w K mg base c.Disk "mend" 3 ps_Disk_mend (sp_Disk_mend) 0 [] gId) (h__law_same : FF P w K mg base "_law_same" 30 ps__law_same (sp__law_same) 2 [] gId) (hr : Room 30 (A.deeper (PyProof.Rows.envOfC "_law_mend" (defScope s__law_mend) s.heap.objs.size f cdv))) :
    DB (cxOf (L2N.CX P w) P w K mg base N__law_mend "_law_mend" (defScope s__law_mend) f cdv A outer s H E) (defBody s__law_mend) (u__law_mend K c sp__law_present sp__law_torn sp_Disk_mend sp__law_same) :=
  (db_cons (ds_set 2 sc__law_mend.nd (de_ff h__law_present hr (dar1 (da_cons (de_var 1) da_nil))))
  (db_cons (ds_set 3 sc__law_mend.nd (de_ff h__law_torn hr (dar1 (da_cons (de_ix (de_var 1) (de_var 2)) da_nil))))
  (db_cons (ds_sub (de_var 1) (de_var 2) (de_slice (de_ix (de_var 1) (de_var 2)) do_none (do_some (de_bin od_sub (de_fnB cd_len B.n_len (by decide +kernel) (da_cons (de_ix (de_var 1) (de_var 2)) da_nil)) (de_fnB cd_len B.n_len (by decide +kernel) (da_cons (de_var 3) da_nil))))))
  (db_one (ds_ret (de_ff h__law_same hr (dar1 (da_cons (de_mf (de_var 0) h_Disk_mend hr dar0) (da_cons (de_cmp (od_ne (hu64 hr)) (de_var 3) (de_str (s := ""))) da_nil)))))))))
def u_law (K : PySem.W.Frag) (c : Cs) (sp__law_flow : FS) (sp__law_new : FS) (sp__law_take : FS) (sp__law_is : FS) (sp__law_write : FS) (sp__law_mend : FS) (sp__law_close : FS) : US := (usSeq (usSet 1 (uCall (sp__law_flow) gId (uA1 1 (uCons (uVar 0) uNil))))
  (usTry K (.ref c.ShopError) (usSeq (usSet 2 (uCall (sp__law_new) gId (uA1 1 (uCons (uVar 1) uNil))))
  (usSeq (usSet 3 (uCall (sp__law_new) gId (uA1 1 (uCons (uVar 1) uNil))))
  (usSeq (usIf (uOr (uTb (uBin dIs (uVar 2) (uC .non))) (uTb (uBin dIs (uVar 3) (uC .non)))) (usRet (uC (.bl false))) usNil)
  (usSeq (usFor (isRng (uBin dAdd (uC (.int 1)) (uCall (sp__law_take) gId (uA1 2 (uCons (uVar 1) (uCons (uC (.int 24)) uNil)))))) (ugName 4) (usSeq (usIf (uOr (uNot (uTru (uCall (sp__law_is) gId (uA1 2 (uCons (uBin dIx (uVar 2) (uC (.int 0))) (uCons (uBin dIx (uVar 2) (uC (.int 1))) uNil)))))) (uNot (uTru (uCall (sp__law_is) gId (uA1 2 (uCons (uBin dIx (uVar 3) (uC (.int 0))) (uCons (uBin dIx (uVar 3) (uC (.int 1))) uNil))))))) (usRet (uC (.bl false))) usNil)
  (usSeq (usSet 5 (uBin dIx (uTup (uCons (uVar 2) (uCons (uVar 3) uNil))) (uCall (sp__law_take) gId (uA1 2 (uCons (uVar 1) (uCons (uC (.int 2)) uNil))))))
  (usSeq (usSet 6 (uCall (sp__law_take) gId (uA1 2 (uCons (uVar 1) (uCons (uC (.int 6)) uNil)))))
  (usSeq (usIf (uAnd (uTb (uBin dLt (uVar 6) (uC (.int 3)))) (uNot (uTru (uCall (sp__law_write) gId (uA1 3 (uCons (uVar 1) (uCons (uBin dIx (uVar 5) (uC (.int 0))) (uCons (uBin dIx (uVar 5) (uC (.int 1))) uNil)))))))) (usRet (uC (.bl false))) usNil)
  (usSeq (usIf (uAnd (uTb (uBin dEq (uVar 6) (uC (.int 3)))) (uNot (uTru (uCall (sp__law_mend) gId (uA1 2 (uCons (uBin dIx (uVar 5) (uC (.int 0))) (uCons (uBin dIx (uVar 5) (uC (.int 1))) uNil))))))) (usRet (uC (.bl false))) usNil)
  (usIf (uAnd (uTb (uBin dGt (uVar 6) (uC (.int 3)))) (uNot (uTru (uCall (sp__law_close) gId (uA1 3 (uCons (uVar 1) (uCons (uBin dIx (uVar 5) (uC (.int 0))) (uCons (uBin dIx (uVar 5) (uC (.int 1))) uNil)))))))) (usRet (uC (.bl false))) usNil)))))))
  (usRet (uAndV (uCall (sp__law_is) gId (uA1 2 (uCons (uBin dIx (uVar 2) (uC (.int 0))) (uCons (uBin dIx (uVar 2) (uC (.int 1))) uNil)))) (uCall (sp__law_is) gId (uA1 2 (uCons (uBin dIx (uVar 3) (uC (.int 0))) (uCons (uBin dIx (uVar 3) (uC (.int 1))) uNil)))))))))) (fun a cls d => (usRet (uC (.bl false))))))
theorem der_law {cdv : Value} {A : Around} {outer : List Env} {s : Shared} {H : Hp} {E : XK} {f : Addr} {sp__law_flow : FS} {sp__law_new : FS} {sp__law_take : FS} {sp__law_is : FS} {sp__law_write : FS} {sp__law_mend : FS} {sp__law_close : FS} (B : Bs K mg c) (h__law_flow : FF P w K mg base "_law_flow" 1 ps__law_flow (sp__law_flow) 1 [] gId) (h__law_new : FF P w K mg base "_law_new" 31 ps__law_new (sp__law_new) 1 [] gId) (h__law_take : FF P w K mg base "_law_take" 1 ps__law_take (sp__law_take) 2 [] gId) (h__law_is : FF P w K mg base "_law_is" 31 ps__law_is (sp__law_is) 2 [] gId) (h__law_write : FF P w K mg base "_law_write" 31 ps__law_write (sp__law_write) 3 [] gId) (h__law_mend : FF P w K mg base "_law_mend" 31 ps__law_mend (sp__law_mend) 2 [] gId) (h__law_close : FF P w K mg base "_law_close" 31 ps__law_close (sp__law_close) 3 [] gId) (hr : Room 31 (A.deeper (PyProof.Rows.envOfC "law" (defScope s_law) s.heap.objs.size f cdv))) :
    DB (cxOf (L2N.CX P w) P w K mg base N_law "law" (defScope s_law) f cdv A outer s H E) (defBody s_law) (u_law K c sp__law_flow sp__law_new sp__law_take sp__law_is sp__law_write sp__law_mend sp__law_close) :=
  (db_cons (ds_set 1 sc_law.nd (de_ff h__law_flow hr (dar1 (da_cons (de_var 0) da_nil))))
  (db_one (ds_try rfl rfl (names_own B.c_ShopError) (fun pn xe po => (db_cons (ds_set 2 sc_law.nd (de_ff h__law_new hr (dar1 (da_cons (de_var 1) da_nil))))
  (db_cons (ds_set 3 sc_law.nd (de_ff h__law_new hr (dar1 (da_cons (de_var 1) da_nil))))
  (db_cons (ds_if (dt_bool (dw_or (dt_cmp od_is (de_var 2) de_non) (dw_or1 (dt_cmp od_is (de_var 3) de_non)))) (db_one (ds_ret de_bl)) db_nil)
  (db_cons (ds_for po rfl (di_rng (da_cons (de_bin od_add de_int (de_ff h__law_take hr (dar1 (da_cons (de_var 1) (da_cons de_int da_nil))))) da_nil) rfl B.n_range) (dg_name 4 sc_law.nd) (db_cons (ds_if (dt_bool (dw_or (dt_not (dt_val (de_ff h__law_is hr (dar1 (da_cons (de_ix (de_var 2) de_int) (da_cons (de_ix (de_var 2) de_int) da_nil)))))) (dw_or1 (dt_not (dt_val (de_ff h__law_is hr (dar1 (da_cons (de_ix (de_var 3) de_int) (da_cons (de_ix (de_var 3) de_int) da_nil))))))))) (db_one (ds_ret de_bl)) db_nil)
  (db_cons (ds_set 5 sc_law.nd (de_ix (de_tup (da_cons (de_var 2) (da_cons (de_var 3) da_nil))) (de_ff h__law_take hr (dar1 (da_cons (de_var 1) (da_cons de_int da_nil))))))
  (db_cons (ds_set 6 sc_law.nd (de_ff h__law_take hr (dar1 (da_cons (de_var 1) (da_cons de_int da_nil)))))
  (db_cons (ds_if (dt_bool (dw_and (dt_cmp od_lt (de_var 6) de_int) (dw_and1 (dt_not (dt_val (de_ff h__law_write hr (dar1 (da_cons (de_var 1) (da_cons (de_ix (de_var 5) de_int) (da_cons (de_ix (de_var 5) de_int) da_nil)))))))))) (db_one (ds_ret de_bl)) db_nil)
  (db_cons (ds_if (dt_bool (dw_and (dt_cmp (od_eq (hu64 hr)) (de_var 6) de_int) (dw_and1 (dt_not (dt_val (de_ff h__law_mend hr (dar1 (da_cons (de_ix (de_var 5) de_int) (da_cons (de_ix (de_var 5) de_int) da_nil))))))))) (db_one (ds_ret de_bl)) db_nil)
  (db_one (ds_if (dt_bool (dw_and (dt_cmp od_gt (de_var 6) de_int) (dw_and1 (dt_not (dt_val (de_ff h__law_close hr (dar1 (da_cons (de_var 1) (da_cons (de_ix (de_var 5) de_int) (da_cons (de_ix (de_var 5) de_int) da_nil)))))))))) (db_one (ds_ret de_bl)) db_nil))))))))
  (db_one (ds_ret (de_and (de_ff h__law_is hr (dar1 (da_cons (de_ix (de_var 2) de_int) (da_cons (de_ix (de_var 2) de_int) da_nil)))) (de_one (de_ff h__law_is hr (dar1 (da_cons (de_ix (de_var 3) de_int) (da_cons (de_ix (de_var 3) de_int) da_nil))))))))))))) (fun a oe cls d pn hz hd hot => (db_one (ds_ret de_bl))))))
def uH__law_same (K : PySem.W.Frag) (c : Cs) (sp__law_same : FS) : US := (usSeq (usIf (uTru (uIsi ["tuple", "list"] (uVar 1))) (usSeq (usIf (uOr (uNot (uTru (uIsi ["tuple", "list"] (uVar 0)))) (uTb (uBin dNe (uIsi ["tuple"] (uVar 0)) (uIsi ["tuple"] (uVar 1))))) (usRet (uC (.bl false))) usNil)
  (usRet (uAndV (uBin dEq (uFn (gP fLen) (uCons (uVar 0) uNil)) (uFn (gP fLen) (uCons (uVar 1) uNil))) (uBin dEq (uFn (gP fLen) (uCons (uLc (isRng (uFn (gP fLen) (uCons (uVar 1) uNil))) (ugName 2) (uNot (uTru (uCallH 2 (sp__law_same) (uCons (uBin dIx (uVar 0) (uVar 2)) (uCons (uBin dIx (uVar 1) (uVar 2)) uNil))))) (uVar 2) [2]) uNil)) (uC (.int 0)))))) usNil)
  (usSeq (usIf (uTru (uIsi ["bool"] (uVar 1))) (usRet (uAndV (uIsi ["bool"] (uVar 0)) (uBin dEq (uVar 0) (uVar 1)))) usNil)
  (usSeq (usIf (uTru (uIsi ["int"] (uVar 1))) (usRet (uAndV (uIsi ["int"] (uVar 0)) (uAndV (uNotV (uIsi ["bool"] (uVar 0))) (uBin dEq (uVar 0) (uVar 1))))) usNil)
  (usSeq (usIf (uTru (uIsi ["str"] (uVar 1))) (usRet (uAndV (uIsi ["str"] (uVar 0)) (uBin dEq (uVar 0) (uVar 1)))) usNil)
  (usRet (uAndV (uBin dIs (uVar 0) (uC .non)) (uBin dIs (uVar 1) (uC .non))))))))
theorem derH__law_same {cdv : Value} {A : Around} {outer : List Env} {s : Shared} {H : Hp} {E : XK} {f : Addr} {p : Addr × Obj} {sp__law_same : FS} {m : Nat} (hm : 2 ≤ m) (B : Bs K mg c) (hh__law_same : FH P w K mg base "_law_same" m ps__law_same (sp__law_same)) (hr : RoomH m (A.deeper (PyProof.Rows.envOfC "_law_same" (defScope s__law_same) s.heap.objs.size f cdv))) (hot : HotC (cxH CX0 P w K mg base N__law_same "_law_same" (defScope s__law_same) f cdv A outer s H E p)) :
    DB (cxH CX0 P w K mg base N__law_same "_law_same" (defScope s__law_same) f cdv A outer s H E p) (defBody s__law_same) (uH__law_same K c sp__law_same) :=
  (db_cons (ds_if (dt_val (de_isi2 (de_var 1) B.n_isinstance B.n_tuple (by decide +kernel) B.n_list (by decide +kernel))) (db_cons (ds_if (dt_bool (dw_or (dt_not (dt_val (de_isi2 (de_var 0) B.n_isinstance B.n_tuple (by decide +kernel) B.n_list (by decide +kernel)))) (dw_or1 (dt_cmp (od_ne (huH64 hr)) (de_isi (de_var 0) B.n_isinstance B.n_tuple (by decide +kernel)) (de_isi (de_var 1) B.n_isinstance B.n_tuple (by decide +kernel)))))) (db_one (ds_ret de_bl)) db_nil)
  (db_one (ds_ret (de_and (de_cmp (od_eq (huH64 hr)) (de_fnB cd_len B.n_len (by decide +kernel) (da_cons (de_var 0) da_nil)) (de_fnB cd_len B.n_len (by decide +kernel) (da_cons (de_var 1) da_nil))) (de_one (de_cmp (od_eq (huH64 hr)) (de_fnB cd_len B.n_len (by decide +kernel) (da_cons (de_lcvH [(("k" : Str), 2)] hot sc__law_same.nd (di_rngH (da_cons (de_fnB cd_len B.n_len (by decide +kernel) (da_cons (de_var 1) da_nil)) da_nil) rfl B.n_range) (blkOk_by (N := N__law_same) (sc := defScope s__law_same) (by decide +kernel)) (gr_name (i := 2)) (fun _ _ _ _ _ => (pg_name (i := 2) sc__law_same.nd rfl (Or.inl rfl))) (fun _ _ _ _ _ => dts_one (dt_not (dt_val (de_ffH hh__law_same hr (hot_blk hot) (da_cons (de_ix (de_var 0) (de_var 2)) (da_cons (de_ix (de_var 1) (de_var 2)) da_nil)) (hk := Nat.le_refl _))))) (fun _ _ _ _ _ => (de_var 2))) da_nil)) de_int)))))) db_nil)
  (db_cons (ds_if (dt_val (de_isi (de_var 1) B.n_isinstance B.n_bool (by decide +kernel))) (db_one (ds_ret (de_and (de_isi (de_var 0) B.n_isinstance B.n_bool (by decide +kernel)) (de_one (de_cmp (od_eq (huH64 hr)) (de_var 0) (de_var 1)))))) db_nil)
  (db_cons (ds_if (dt_val (de_isi (de_var 1) B.n_isinstance B.n_int (by decide +kernel))) (db_one (ds_ret (de_and (de_isi (de_var 0) B.n_isinstance B.n_int (by decide +kernel)) (de_and (de_not (de_isi (de_var 0) B.n_isinstance B.n_bool (by decide +kernel))) (de_one (de_cmp (od_eq (huH64 hr)) (de_var 0) (de_var 1))))))) db_nil)
  (db_cons (ds_if (dt_val (de_isi (de_var 1) B.n_isinstance B.n_str (by decide +kernel))) (db_one (ds_ret (de_and (de_isi (de_var 0) B.n_isinstance B.n_str (by decide +kernel)) (de_one (de_cmp (od_eq (huH64 hr)) (de_var 0) (de_var 1)))))) db_nil)
  (db_one (ds_ret (de_and (de_cmp od_is (de_var 0) de_non) (de_one (de_cmp od_is (de_var 1) de_non)))))))))
def uH__law_head (K : PySem.W.Frag) (c : Cs) : US := (usSeq (usSet 1 (uBM "str" (gM mFind) (uVar 0) (uCons (uC (.str (cs "\n"))) uNil)))
  (usSeq (usIf (uTb (uBin dLt (uVar 1) (uC (.int 0)))) (usRet (uC .non)) usNil)
  (usSeq (usSet 2 (uSl (uVar 0) uNoPart (uPart (uVar 1))))
  (usSeq (usSet 3 (uBM "str" (gM mFind) (uVar 2) (uCons (uC (.str (cs " "))) uNil)))
  (usSeq (usIf (uOr (uTb (uBin dLt (uVar 3) (uC (.int 1)))) (uOr (uTb (uBin dGt (uVar 3) (uC (.int 9)))) (uAnd (uTb (uBin dGt (uVar 3) (uC (.int 1)))) (uTb (uBin dEq (uSl (uVar 2) uNoPart (uPart (uC (.int 1)))) (uC (.str (cs "0")))))))) (usRet (uC .non)) usNil)
  (usSeq (usFor (isSeq (uSl (uVar 2) uNoPart (uPart (uVar 3)))) (ugName 4) (usIf (uTb (uBin dNotIn1 (uVar 4) (uC (.str (cs "0123456789"))))) (usRet (uC .non)) usNil))
  (usRet (uTup (uCons (uFn (gP fInt) (uCons (uSl (uVar 2) uNoPart (uPart (uVar 3))) uNil)) (uCons (uSl (uVar 2) (uPart (uBin dAdd (uVar 3) (uC (.int 1)))) uNoPart) uNil))))))))))
theorem derH__law_head {cdv : Value} {A : Around} {outer : List Env} {s : Shared} {H : Hp} {E : XK} {f : Addr} {p : Addr × Obj} (B : Bs K mg c) (hr : RoomH 0 (A.deeper (PyProof.Rows.envOfC "_law_head" (defScope s__law_head) s.heap.objs.size f cdv))) (hot : HotC (cxH CX0 P w K mg base N__law_head "_law_head" (defScope s__law_head) f cdv A outer s H E p)) :
    DB (cxH CX0 P w K mg base N__law_head "_law_head" (defScope s__law_head) f cdv A outer s H E p) (defBody s__law_head) (uH__law_head K c) :=
  (db_cons (ds_set 1 sc__law_head.nd (de_bm PySem.F.plainAttrs_str PySem.F.slot_str_find PySem.F.type_str_find md_find (de_var 0) (da_cons (de_str (s := "\n")) da_nil)))
  (db_cons (ds_if (dt_cmp od_lt (de_var 1) de_int) (db_one (ds_ret de_non)) db_nil)
  (db_cons (ds_set 2 sc__law_head.nd (de_slice (de_var 0) do_none (do_some (de_var 1))))
  (db_cons (ds_set 3 sc__law_head.nd (de_bm PySem.F.plainAttrs_str PySem.F.slot_str_find PySem.F.type_str_find md_find (de_var 2) (da_cons (de_str (s := " ")) da_nil)))
  (db_cons (ds_if (dt_bool (dw_or (dt_cmp od_lt (de_var 3) de_int) (dw_or (dt_cmp od_gt (de_var 3) de_int) (dw_or1 (dt_bool (dw_and (dt_cmp od_gt (de_var 3) de_int) (dw_and1 (dt_cmp (od_eq (huH64 hr)) (de_slice (de_var 2) do_none (do_some de_int)) (de_str (s := "0")))))))))) (db_one (ds_ret de_non)) db_nil)
  (db_cons (ds_forH (passes_of rfl) hot (di_seqH (de_slice (de_var 2) do_none (do_some (de_var 3)))) (dg_name 4 sc__law_head.nd) (db_one (ds_if (dt_cmp (od_notin (huH65 hr)) (de_var 4) (de_str (s := "0123456789"))) (db_one (ds_ret de_non)) db_nil)))
  (db_one (ds_ret (de_tup (da_cons (de_fnT cd_int B.n_int (by decide +kernel) (da_cons (de_slice (de_var 2) do_none (do_some (de_var 3))) da_nil)) (da_cons (de_slice (de_var 2) (do_some (de_bin od_add (de_var 3) de_int)) do_none) da_nil)))))))))))
def uH__law_present (K : PySem.W.Frag) (c : Cs) (sp__law_head : FS) : US := (usSeq (usSet 1 (uCallH 1 (sp__law_head) (uCons (uBin dIx (uVar 0) (uC (.int 0))) uNil)))
  (usSeq (usSet 2 (uCallH 1 (sp__law_head) (uCons (uBin dIx (uVar 0) (uC (.int 1))) uNil)))
  (usSeq (usIf (uAnd (uTb (uBin dIs (uVar 1) (uC .non))) (uTb (uBin dIs (uVar 2) (uC .non)))) (usRet (uUn dNeg (uC (.int 1)))) usNil)
  (usSeq (usIf (uTb (uBin dIs (uVar 1) (uC .non))) (usRet (uC (.int 1))) usNil)
  (usSeq (usIf (uOr (uTb (uBin dIs (uVar 2) (uC .non))) (uTb (uBin dLe (uBin dIx (uVar 2) (uC (.int 0))) (uBin dIx (uVar 1) (uC (.int 0)))))) (usRet (uC (.int 0))) usNil)
  (usRet (uC (.int 1))))))))
theorem derH__law_present {cdv : Value} {A : Around} {outer : List Env} {s : Shared} {H : Hp} {E : XK} {f : Addr} {p : Addr × Obj} {sp__law_head : FS} (B : Bs K mg c) (hh__law_head : FH P w K mg base "_law_head" 1 ps__law_head (sp__law_head)) (hr : RoomH 1 (A.deeper (PyProof.Rows.envOfC "_law_present" (defScope s__law_present) s.heap.objs.size f cdv))) (hot : HotC (cxH CX0 P w K mg base N__law_present "_law_present" (defScope s__law_present) f cdv A outer s H E p)) :
    DB (cxH CX0 P w K mg base N__law_present "_law_present" (defScope s__law_present) f cdv A outer s H E p) (defBody s__law_present) (uH__law_present K c sp__law_head) :=
  (db_cons (ds_set 1 sc__law_present.nd (de_ffH hh__law_head hr hot (da_cons (de_ix (de_var 0) de_int) da_nil)))
  (db_cons (ds_set 2 sc__law_present.nd (de_ffH hh__law_head hr hot (da_cons (de_ix (de_var 0) de_int) da_nil)))
  (db_cons (ds_if (dt_bool (dw_and (dt_cmp od_is (de_var 1) de_non) (dw_and1 (dt_cmp od_is (de_var 2) de_non)))) (db_one (ds_ret (de_neg de_int))) db_nil)
  (db_cons (ds_if (dt_cmp od_is (de_var 1) de_non) (db_one (ds_ret de_int)) db_nil)
  (db_cons (ds_if (dt_bool (dw_or (dt_cmp od_is (de_var 2) de_non) (dw_or1 (dt_cmp od_le (de_ix (de_var 2) de_int) (de_ix (de_var 1) de_int))))) (db_one (ds_ret de_int)) db_nil)
  (db_one (ds_ret de_int)))))))
def uH__law_torn (K : PySem.W.Frag) (c : Cs) : US := (usRet (uSl (uVar 0) (uPart (uBin dAdd (uBM "str" (gM mRfind) (uVar 0) (uCons (uC (.str (cs "\n"))) uNil)) (uC (.int 1)))) uNoPart))
theorem derH__law_torn {cdv : Value} {A : Around} {outer : List Env} {s : Shared} {H : Hp} {E : XK} {f : Addr} {p : Addr × Obj} (B : Bs K mg c) (hr : RoomH 0 (A.deeper (PyProof.Rows.envOfC "_law_torn" (defScope s__law_torn) s.heap.objs.size f cdv))) (hot : HotC (cxH CX0 P w K mg base N__law_torn "_law_torn" (defScope s__law_torn) f cdv A outer s H E p)) :
    DB (cxH CX0 P w K mg base N__law_torn "_law_torn" (defScope s__law_torn) f cdv A outer s H E p) (defBody s__law_torn) (uH__law_torn K c) :=
  (db_one (ds_ret (de_slice (de_var 0) (do_some (de_bin od_add (de_bm PySem.F.plainAttrs_str PySem.F.slot_str_rfind PySem.F.type_str_rfind md_rfind (de_var 0) (da_cons (de_str (s := "\n")) da_nil)) de_int)) do_none)))
def uH_Disk___init__ (K : PySem.W.Frag) (c : Cs) : US := (usFld K "pair" (uVar 0) (uTup (uCons (uBin dAdd (uBin dAdd (uC (.str (cs "0 "))) (uVar 1)) (uC (.str (cs "\n")))) (uCons (uC (.str (cs ""))) uNil))))
theorem derH_Disk___init__ {cdv : Value} {A : Around} {outer : List Env} {s : Shared} {H : Hp} {E : XK} {f : Addr} {p : Addr × Obj} (B : Bs K mg c) (hr : RoomH 0 (A.deeper (PyProof.Rows.envOfC "Disk.__init__" (defScope s_Disk___init__) s.heap.objs.size f cdv))) (hot : HotC (cxH CX0 P w K mg base N_Disk___init__ "Disk.__init__" (defScope s_Disk___init__) f cdv A outer s H E p)) :
    DB (cxH CX0 P w K mg base N_Disk___init__ "Disk.__init__" (defScope s_Disk___init__) f cdv A outer s H E p) (defBody s_Disk___init__) (uH_Disk___init__ K c) :=
  (db_one (ds_fld (de_var 0) (de_tup (da_cons (de_bin od_add (de_bin od_add (de_str (s := "0 ")) (de_var 1)) (de_str (s := "\n"))) (da_cons (de_str (s := "")) da_nil)))))
end
end K82

set_option Elab.async false
set_option linter.all false
set_option maxRecDepth 100000
set_option maxHeartbeats 4000000
namespace K82
open PySem PySem.Spec L2 SL NumText
variable {K : PySem.W.Frag} {c : Cs}
abbrev FIG : List Nat := cs "0123456789"
theorem fig_iff {c : Nat} : c ∈ FIG ↔ 48 ≤ c ∧ c ≤ 57 := by
  have e : FIG = [48,49,50,51,52,53,54,55,56,57] := by decide +kernel
  rw [e]; simp; omega
def DigL (w : List Nat) : Prop := ∀ c ∈ w, c ∈ FIG
theorem dig_nat (n : Nat) : dig (n : Int) = TL.numL n := by
  have := TL.tl_num n
  unfold dig cs
  rw [← this]
  show _ = (Str.ofString (toString (n : Int))).cps.toList
  rw [← tx_cs]; rfl
theorem dig_neg {n : Nat} (h : 0 < n) : dig (-(n : Int)) = 45 :: TL.numL n := by
  have e : toString (-(n : Int)) = "-" ++ toString (n : Int) := by
    rw [PyProof.Rows.toString_neg (n := -(n : Int)) (by omega)]
    congr 2
    omega
  rw [← dig_nat]
  unfold dig cs
  rw [e, String.toList_append, List.map_append]
  rfl
theorem digitsVal_lt : ∀ {w : List Nat}, DigL w → NumText.digitsVal w < 10 ^ w.length := by
  intro w
  have key : ∀ (w : List Nat) (a : Nat), DigL w → w.foldl (fun acc c => acc * 10 + (c - 48)) a < (a + 1) * 10 ^ w.length := by
    intro w
    induction w with
    | nil => intro a _; simp
    | cons c r ih =>
      intro a h
      have hc := fig_iff.mp (h c (List.mem_cons_self ..))
      have := ih (a * 10 + (c - 48)) (fun x hx => h x (List.mem_cons_of_mem _ hx))
      rw [List.foldl_cons, List.length_cons, Nat.pow_succ]
      refine Nat.lt_of_lt_of_le this ?_
      have e : (a + 1) * (10 ^ r.length * 10) = ((a + 1) * 10) * 10 ^ r.length := by
        rw [Nat.mul_comm (10 ^ r.length) 10, Nat.mul_assoc]
      rw [e]
      exact Nat.mul_le_mul_right _ (by omega)
  intro h
  have := key w 0 h
  simpa [NumText.digitsVal] using this
theorem numL_mem {n : Nat} : ∀ a ∈ TL.numL n, 48 ≤ a ∧ a ≤ 57 := TL.numL_digits n
theorem dig_cases (i : Int) : (∃ n : Nat, i = n ∧ dig i = TL.numL n) ∨ (∃ n : Nat, 0 < n ∧ i = -(n : Int) ∧ dig i = 45 :: TL.numL n) := by
  rcases Int.lt_or_le i 0 with h | h
  · right
    refine ⟨i.natAbs, by omega, by omega, ?_⟩
    have e : i = -((i.natAbs : Nat) : Int) := by omega
    rw [e, dig_neg (by omega)]; simp
  · left
    refine ⟨i.toNat, by omega, ?_⟩
    have e : i = ((i.toNat : Nat) : Int) := by omega
    have h2 := dig_nat i.toNat
    rwa [← e] at h2
theorem dig_mem {i : Int} : ∀ a ∈ dig i, a = 45 ∨ (48 ≤ a ∧ a ≤ 57) := fun a ha => by
  rcases dig_cases i with ⟨n, e, d⟩ | ⟨n, h0, e, d⟩
  · rw [d] at ha; exact .inr (numL_mem a ha)
  · rw [d] at ha
    rcases List.mem_cons.mp ha with z | z
    · exact .inl z
    · exact .inr (numL_mem a z)
theorem numL_head : ∀ n : Nat, 0 < n → ∃ a r, TL.numL n = a :: r ∧ 49 ≤ a := by
  intro n
  induction n using Nat.strongRecOn with
  | _ n ih =>
    intro h
    by_cases h9 : n < 10
    · exact ⟨48 + n, [], TL.numL_lt h9, by omega⟩
    · obtain ⟨a, r, e, h1⟩ := ih (n / 10) (by omega) (by omega)
      exact ⟨a, r ++ [48 + n % 10], by rw [TL.numL_step (by omega), e]; rfl, h1⟩
theorem szl {n : Nat} (h : n ≤ 1000000) : n ≤ sizeLine := by rw [sizeLine_eq]; omega
theorem cut_app {α : Type} {pre rest : List α} {b : Int} (hb : 0 ≤ b) : cut (pre ++ rest) (some (pre.length : Int)) (some ((pre.length : Int) + b)) = rest.take b.toNat := by
  rw [cut_int (by omega) (by omega)]
  have e : ((pre.length : Int) + b).toNat - ((pre.length : Int)).toNat = b.toNat := by omega
  rw [e]; simp
theorem cut_app2 {α : Type} {pre rest : List α} {a b : Int} (ha : 0 ≤ a) (hb : a ≤ b) : cut (pre ++ rest) (some ((pre.length : Int) + a)) (some ((pre.length : Int) + b)) = (rest.drop a.toNat).take (b.toNat - a.toNat) := by
  rw [cut_int (by omega) (by omega)]
  have e : ((pre.length : Int) + b).toNat - ((pre.length : Int) + a).toNat = b.toNat - a.toNat := by omega
  have e2 : ((pre.length : Int) + a).toNat = pre.length + a.toNat := by omega
  rw [e, e2, List.drop_append, List.drop_of_length_le (by omega)]
  simp
theorem cut_len {α : Type} {l : List α} {a b : Option Int} (h : l.length ≤ sizeLine) : (cut l a b).length ≤ sizeLine := by
  unfold cut; rw [List.length_take, List.length_drop]; omega
theorem take_len {α : Type} {l : List α} {k : Nat} (h : l.length ≤ sizeLine) : (l.take k).length ≤ sizeLine := by
  rw [List.length_take]; omega
theorem app_len {α : Type} {a b : List α} (h : (a ++ b).length ≤ sizeLine) : b.length ≤ sizeLine := by
  rw [List.length_append] at h; omega
theorem z3 : (3 : Nat) ≤ sizeLine := by rw [sizeLine_eq]; decide
theorem z2 : (2 : Nat) ≤ sizeLine := by rw [sizeLine_eq]; decide
theorem sgl {a b : Nat} : ([a] == [b]) = decide (a = b) := by rw [Bool.eq_iff_iff]; simp
theorem pre1 {a b : Nat} {r : List Nat} : TL.pre [a] (b :: r) = decide (b = a) := by
  unfold TL.pre
  rw [Bool.eq_iff_iff]; simp
theorem at1 {x : List Nat} {a i : Nat} : StrLaws.At (tx x) (tx [a]) (tx x).length i ↔ x[i]? = some a := by
  have := TL.at_iff (x := tx x) (y := tx [a]) (by simp [TL.tl, tx]) i
  rw [this]
  show TL.pre [a] (x.drop i) = true ↔ _
  cases e : x.drop i with
  | nil =>
    rw [List.drop_eq_nil_iff] at e
    rw [List.getElem?_eq_none e]
    simp [TL.pre]
  | cons b r =>
    rw [pre1]
    have : x[i]? = some b := by
      have := congrArg (fun l : List Nat => l[0]?) e
      simpa using this
    rw [this]; simp
theorem find_none {x : List Nat} {a : Nat} (h : a ∉ x) : sFind x [a] = -1 := by
  unfold sFind Txt.find
  rcases StrLaws.occ_head (tx x) (tx [a]) 1 (Nat.le_refl _) with ⟨e, _⟩ | ⟨i, r, e, h1, _⟩
  · rw [e]
  · exact (h (List.mem_of_getElem? (at1.mp h1))).elim
theorem find_at {p r : List Nat} {a : Nat} (h : a ∉ p) : sFind (p ++ a :: r) [a] = p.length := by
  unfold sFind Txt.find
  have hp : (p ++ a :: r)[p.length]? = some a := by simp
  rcases StrLaws.occ_head (tx (p ++ a :: r)) (tx [a]) 1 (Nat.le_refl _) with ⟨e, h2⟩ | ⟨i, t, e, h1, h2⟩
  · exact (h2 p.length (at1.mpr hp)).elim
  · rw [e]
    have h3 := at1.mp h1
    have h4 : ¬ i < p.length := fun z => by
      rw [List.getElem?_append_left z] at h3
      exact h (List.mem_of_getElem? h3)
    have h5 : ¬ p.length < i := fun z => h2 p.length z (at1.mpr hp)
    show ((i : Nat) : Int) = _
    omega
theorem rfind_none {x : List Nat} {a : Nat} (h : a ∉ x) : sRfind x [a] = -1 := by
  unfold sRfind Txt.rfind
  rcases StrLaws.last_spec (tx x) (tx [a]) with ⟨e, _⟩ | ⟨i, e, h1, _⟩
  · rw [e]
  · exact (h (List.mem_of_getElem? (at1.mp h1))).elim
theorem rfind_at {p r : List Nat} {a : Nat} (h : a ∉ r) : sRfind (p ++ a :: r) [a] = p.length := by
  unfold sRfind Txt.rfind
  have hp : (p ++ a :: r)[p.length]? = some a := by simp
  rcases StrLaws.last_spec (tx (p ++ a :: r)) (tx [a]) with ⟨e, h2⟩ | ⟨i, e, h1, h2⟩
  · exact (h2 p.length (at1.mpr hp)).elim
  · rw [e]
    have h3 := at1.mp h1
    have h4 : ¬ p.length < i := fun z => by
      rw [List.getElem?_append_right (by omega), show i - p.length = (i - p.length - 1) + 1 by omega, List.getElem?_cons_succ] at h3
      exact h (List.mem_of_getElem? h3)
    have h5 : ¬ i < p.length := fun z => h2 p.length z (at1.mpr hp)
    show ((i : Nat) : Int) = _
    omega
theorem split_at {x : List Nat} {a : Nat} (ha : a < 256) : sSplit x [a] = TL.spl [a] 0 [] x := by
  have := TL.split_spl (tx x) (tx [a]) (by simp [TL.tl, tx]) (TL.kind_ok (by simp [tx]; exact ha))
  unfold sSplit
  exact this
theorem part_at {p r : List Nat} {a : Nat} (h : a ∉ p) : sPart (p ++ a :: r) [a] = (p, [a], r) := by
  unfold sPart
  rw [TL.partition_par _ _ (by simp [TL.tl, tx])]
  have : TL.par (TL.tl (tx [a])) [] (TL.tl (tx (p ++ a :: r))) = some (p, r) := TL.par_part1 (s := a) (S := []) (acc := []) h
  rw [this]
  simp [tx]
def wl (ls : List (List Nat)) : List Nat := (ls.map (· ++ [10])).flatten
theorem wl_cons {l : List Nat} {ls : List (List Nat)} : wl (l :: ls) = l ++ 10 :: wl ls := by simp [wl]
theorem wl_nil : wl [] = [] := rfl
theorem wl_app {a b : List (List Nat)} : wl (a ++ b) = wl a ++ wl b := by simp [wl]
theorem wl_snoc {a : List (List Nat)} {l : List Nat} : wl (a ++ [l]) = wl a ++ (l ++ [10]) := by simp [wl]
theorem split_plc : ∀ {ls : List (List Nat)} {e : List Nat}, (∀ l ∈ ls, 10 ∉ l) → 10 ∉ e → sSplit (wl ls ++ e) [10] = ls ++ [e]
  | [], e, _, he => by rw [split_at (by decide)]; exact TL.spl_last1 he
  | l :: ls, e, h, he => by
    rw [split_at (by decide), wl_cons]
    have ih := split_plc (fun m hm => h m (List.mem_cons_of_mem _ hm)) he (ls := ls)
    rw [split_at (by decide)] at ih
    rw [List.append_assoc]
    have := TL.spl_part1 (s := 10) (S := []) (acc := []) (rest := wl ls ++ e) (h l (List.mem_cons_self ..))
    rw [show l ++ (10 :: wl ls ++ e) = l ++ (10 :: [] ++ (wl ls ++ e)) by simp, this, ih]
    rfl
theorem rfind_plc {ls : List (List Nat)} {e : List Nat} (he : 10 ∉ e) : sRfind (wl ls ++ e) [10] + 1 = ((wl ls).length : Int) := by
  rcases List.eq_nil_or_concat ls with h | ⟨l0, l, h⟩
  · subst h
    rw [wl_nil, List.nil_append, rfind_none he]; rfl
  · subst h
    rw [List.concat_eq_append, wl_snoc, show wl l0 ++ (l ++ [10]) ++ e = (wl l0 ++ l) ++ 10 :: e by simp, rfind_at he]
    simp; omega
def NumP (p : List Nat) : Prop := 1 ≤ p.length ∧ p.length ≤ 9 ∧ (∀ c ∈ p, 48 ≤ c ∧ c ≤ 57) ∧ (p.head? = some 48 → p.length = 1)
instance (p : List Nat) : Decidable (NumP p) := by unfold NumP; infer_instance
def hn (x : List Nat) : Int := if 32 ∈ x ∧ 10 ∈ x ∧ NumP (x.takeWhile (· ≠ 32)) then (NumText.digitsVal (x.takeWhile (· ≠ 32)) : Int) else -1
theorem tw_at {p r : List Nat} (h : 32 ∉ p) : (p ++ 32 :: r).takeWhile (· ≠ 32) = p := by
  induction p with
  | nil => rfl
  | cons a p ih =>
    simp only [List.mem_cons, not_or] at h
    rw [List.cons_append, List.takeWhile_cons, if_pos (by simp; exact fun z => h.1 z.symm), ih h.2]
theorem hn_at {p r : List Nat} (h : 32 ∉ p) : hn (p ++ 32 :: r) = if 10 ∈ p ++ 32 :: r ∧ NumP p then (NumText.digitsVal p : Int) else -1 := by
  unfold hn
  rw [tw_at h]
  simp
theorem hn_none {x : List Nat} (h : 32 ∉ x) : hn x = -1 := by
  unfold hn
  rw [if_neg (fun z => h z.1)]
theorem hn_lo {x : List Nat} : -1 ≤ hn x := by unfold hn; split <;> omega
theorem numP_num {n : Nat} (h : n < 1000000000) : NumP (TL.numL n) := by
  refine ⟨List.length_pos_iff.mpr (TL.numL_ne n), TL.numL_len (by decide) (by omega), numL_mem, fun h0 => ?_⟩
  by_cases z : n = 0
  · rw [z, TL.numL_lt (by decide)]; rfl
  · obtain ⟨a, r, e, h9⟩ := numL_head n (by omega)
    rw [e] at h0; simp at h0; omega
theorem hn_dig {i : Int} {r : List Nat} (h0 : 0 ≤ i) (h1 : i < 1000000000) (h10 : 10 ∈ r) : hn (dig i ++ 32 :: r) = i := by
  obtain ⟨n, rfl⟩ := Int.eq_ofNat_of_zero_le h0
  have e : dig ((n : Nat) : Int) = TL.numL n := dig_nat n
  have h32 : 32 ∉ TL.numL n := fun z => by have := numL_mem _ z; omega
  show hn (dig ((n : Nat) : Int) ++ 32 :: r) = ((n : Nat) : Int)
  rw [e, hn_at h32, if_pos ⟨by simp [h10], numP_num (by omega)⟩, TL.numL_val]
theorem hn_nolf {x : List Nat} (h : 10 ∉ x) : hn x = -1 := by
  unfold hn
  rw [if_neg (fun z => h z.2.1)]
theorem dig_no {i : Int} {a : Nat} (ha : a < 45) : a ∉ dig i := fun z => by have := dig_mem a z; omega
theorem wl_len {ls : List (List Nat)} : (wl ls).length = (ls.map List.length).sum + ls.length := by
  induction ls with
  | nil => rfl
  | cons l ls ih => rw [wl_cons]; simp only [List.length_append, List.length_cons, ih, List.map_cons, List.sum_cons]; omega
end K82

set_option Elab.async false
set_option linter.all false
set_option maxRecDepth 100000
set_option maxHeartbeats 4000000
namespace K82
open PySem PySem.Spec L2 SL NumText
variable {K : PySem.W.Frag} {c : Cs}
theorem c_sp : cs " " = [32] := by decide +kernel
theorem c_lf : cs "\n" = [10] := by decide +kernel
theorem c_z : cs "0" = [48] := by decide +kernel
theorem c_zs : cs "0 " = [48, 32] := by decide +kernel
theorem c_em : cs "" = [] := by decide +kernel
theorem cut_m1 {α : Type} {l : List α} : cut l none (some (-1)) = l.dropLast := by
  simp only [cut, HT.sIx]
  rw [if_pos (by omega)]
  simp only [Nat.sub_zero, List.drop_zero]
  rw [List.dropLast_eq_take]
  congr 1
  omega
def sp_head_number : FS := fun ds S Q X => ∃ x, ds = [.str x] ∧ x.length ≤ sizeLine ∧ Q (.int (hn x)) S
theorem hn_for {Z : EndsS} {S : SS} {x : List Nat} {b : Int} : ∀ (p : List Nat) (e2 : Option D), ((∀ a ∈ p, 48 ≤ a ∧ a ≤ 57) → ∀ e2, Z.nx [some (.str x), some (.int b), e2] S) → ((∃ a ∈ p, ¬ (48 ≤ a ∧ a ≤ 57)) → Z.rt (.int (-1)) S) →
    forL (ugName 2) (usIf (uTb (uBin dNotIn1 (uVar 2) (uC gv_FIGURES))) (usRet (uUn dNeg (uC (.int 1)))) usNil) (fun _ => True) Z (p.map fun a => D.str [a]) [some (.str x), some (.int b), e2] S
  | [], e2, k, _ => ⟨trivial, k (fun a h => by cases h) e2⟩
  | a :: p, e2, k, k2 => by
    refine ⟨trivial, ?_⟩
    have el : dNotIn1 S (.str [a]) gv_FIGURES = some (.bl (!decide (a ∈ FIG))) := rfl
    simp only [dAdd, dAddI, dSub, dEq, dNe, dLt, dLe, dGt, dGe, dIs, SL.isNon, dNeg, fLen, lenD, isTy, mLstrip, seqOf, tru, tyOf, Option.map_some, String.reduceEq, usNil, usSeq, usSet, usExpr, usRet, usRetN, usIf, usBrk, usCnt, usAug, usAsg, usDPut, usRaise, usSub, uVar, uC, uBin, uChain, uUn, uTru, uTb, uAnd, uOr, uNot, uAndV, uOrV, uNotV, uIte, uNil, uCons, uTup, uLst, uNoPart, uPart, uSl, vSl, uFn, gP, uIsi, uBM, uBM0, gM, gAppend, gPop, uCall, uA0, uA1, gId, gApp, isSeq, isRng, isRng2, uDGet, bodyE, startE, ugName, List.map_cons, List.map_nil, List.length_cons, List.length_nil, List.cons_append, List.nil_append, List.getElem?_cons_zero, List.getElem?_cons_succ, List.set_cons_zero, List.set_cons_succ, List.replicate, Nat.add_one_sub_one, Nat.sub_self, Nat.reduceSub, Nat.reduceAdd, Option.some.injEq, exists_eq_left', exists_eq_left, exists_and_left, true_and, and_true, D.bl.injEq, D.int.injEq, D.str.injEq, D.tup.injEq, D.ref.injEq, Ob.lst.injEq, List.cons.injEq, fTup, if_true, if_false, ite_true, ite_false, Bool.false_eq_true, Bool.true_eq_false, reduceIte, el]
    by_cases h : a ∈ FIG
    · simp only [h, decide_true, Bool.not_true, Bool.false_eq_true, if_false]
      exact hn_for p _ (fun h2 => k (fun b hb => (List.mem_cons.mp hb).elim (fun z => z ▸ fig_iff.mp h) (fun z => h2 b z))) (fun ⟨b, hb, n⟩ => k2 ⟨b, List.mem_cons_of_mem _ hb, n⟩)
    · simp only [h, decide_false, Bool.not_false, if_true]
      exact k2 ⟨a, List.mem_cons_self .., fun z => h (fig_iff.mpr z)⟩
theorem mem_split1 {a : Nat} : ∀ {x : List Nat}, a ∈ x → ∃ p r, x = p ++ a :: r ∧ a ∉ p := by
  intro x
  induction x with
  | nil => intro h; cases h
  | cons b x ih =>
    intro h
    by_cases e : b = a
    · exact ⟨[], x, by rw [e]; rfl, by simp⟩
    · obtain ⟨p, r, e1, e2⟩ := ih ((List.mem_cons.mp h).elim (fun z => (e z.symm).elim) id)
      exact ⟨b :: p, r, by rw [e1]; rfl, by simp; exact ⟨fun z => e z.symm, e2⟩⟩
theorem find_ge {x : List Nat} {a : Nat} : -1 ≤ sFind x [a] := by
  by_cases h : a ∈ x
  · obtain ⟨p, r, e, h2⟩ := mem_split1 h
    rw [e, find_at h2]; omega
  · rw [find_none h]; omega
theorem ok_head_number {ds : List D} {S : SS} {Q : QN} {X : QX} (h : sp_head_number ds S Q X) : u_head_number K c (bodyE Q X) (startE N_head_number ds) S := by
  obtain ⟨x, rfl, hl, q⟩ := h
  have no : ∀ {S'}, S' = S → hn x = -1 → ∃ S1, Le S1 S' ∧ Q (.int (-1)) S1 := fun {S'} e e2 => ⟨S, by rw [e]; exact Le.refl _, by rw [← e2]; exact q⟩
  unfold u_head_number
  by_cases h32 : (32 : Nat) ∈ x
  · obtain ⟨p, r, e, hp⟩ := mem_split1 h32
    have hf : sFind x [32] = p.length := by rw [e, find_at hp]
    have e1 : hn x = if 10 ∈ p ++ 32 :: r ∧ NumP p then (NumText.digitsVal p : Int) else -1 := by rw [e, hn_at hp]
    have ht : cut x none (some ((p.length : Nat) : Int)) = p := by
      rw [cut_to (by omega), e]; simp
    simp only [dAdd, dAddI, dSub, dEq, dNe, dLt, dLe, dGt, dGe, dIs, SL.isNon, dNeg, fLen, lenD, isTy, mLstrip, seqOf, tru, tyOf, Option.map_some, String.reduceEq, usNil, usSeq, usSet, usExpr, usRet, usRetN, usIf, usBrk, usCnt, usAug, usAsg, usDPut, usRaise, usSub, uVar, uC, uBin, uChain, uUn, uTru, uTb, uAnd, uOr, uNot, uAndV, uOrV, uNotV, uIte, uNil, uCons, uTup, uLst, uNoPart, uPart, uSl, vSl, uFn, gP, uIsi, uBM, uBM0, gM, gAppend, gPop, uCall, uA0, uA1, gId, gApp, isSeq, isRng, isRng2, uDGet, bodyE, startE, ugName, List.map_cons, List.map_nil, List.length_cons, List.length_nil, List.cons_append, List.nil_append, List.getElem?_cons_zero, List.getElem?_cons_succ, List.set_cons_zero, List.set_cons_succ, List.replicate, Nat.add_one_sub_one, Nat.sub_self, Nat.reduceSub, Nat.reduceAdd, Option.some.injEq, exists_eq_left', exists_eq_left, exists_and_left, true_and, and_true, D.bl.injEq, D.int.injEq, D.str.injEq, D.tup.injEq, D.ref.injEq, Ob.lst.injEq, List.cons.injEq, fTup, if_true, if_false, ite_true, ite_false, Bool.false_eq_true, Bool.true_eq_false, reduceIte, c_sp, c_lf, c_z, mFind, hf]
    by_cases h1 : decide ((1 : Int) ≤ (p.length : Int)) = true ∧ decide ((p.length : Int) ≤ 9) = true
    · have g1 : ¬ ((p.length : Int) < 1) := by simpa using of_decide_eq_true h1.1
      have g2 : (p.length : Int) ≤ 9 := of_decide_eq_true h1.2
      simp only [h1.1, h1.2, if_true, Bool.not_true, Bool.false_eq_true, if_false]
      by_cases h2 : sFind x [10] < (p.length : Int)
      · simp only [decide_eq_true h2, if_true]
        refine no rfl ?_
        rw [e1, if_neg]
        rintro ⟨h3, n1, n2, n3, n4⟩
        have h10 : 10 ∉ p := fun z => by have := n3 10 z; omega
        have h4 : (10 : Nat) ∈ 32 :: r := (List.mem_append.mp h3).elim (fun z => (h10 z).elim) id
        obtain ⟨p2, r2, e2, hp2⟩ := mem_split1 h4
        have : x = (p ++ p2) ++ 10 :: r2 := by rw [e, e2]; simp
        rw [this, find_at (by simp; exact ⟨h10, hp2⟩)] at h2
        simp at h2; omega
      · simp only [decide_eq_false h2, dAdd, dAddI, dSub, dEq, dNe, dLt, dLe, dGt, dGe, dIs, SL.isNon, dNeg, fLen, lenD, isTy, mLstrip, seqOf, tru, tyOf, Option.map_some, String.reduceEq, usNil, usSeq, usSet, usExpr, usRet, usRetN, usIf, usBrk, usCnt, usAug, usAsg, usDPut, usRaise, usSub, uVar, uC, uBin, uChain, uUn, uTru, uTb, uAnd, uOr, uNot, uAndV, uOrV, uNotV, uIte, uNil, uCons, uTup, uLst, uNoPart, uPart, uSl, vSl, uFn, gP, uIsi, uBM, uBM0, gM, gAppend, gPop, uCall, uA0, uA1, gId, gApp, isSeq, isRng, isRng2, uDGet, bodyE, startE, ugName, List.map_cons, List.map_nil, List.length_cons, List.length_nil, List.cons_append, List.nil_append, List.getElem?_cons_zero, List.getElem?_cons_succ, List.set_cons_zero, List.set_cons_succ, List.replicate, Nat.add_one_sub_one, Nat.sub_self, Nat.reduceSub, Nat.reduceAdd, Option.some.injEq, exists_eq_left', exists_eq_left, exists_and_left, true_and, and_true, D.bl.injEq, D.int.injEq, D.str.injEq, D.tup.injEq, D.ref.injEq, Ob.lst.injEq, List.cons.injEq, fTup, if_true, if_false, ite_true, ite_false, Bool.false_eq_true, Bool.true_eq_false, reduceIte, usFor, vSeq, hl, ht]
        have h10x : (10 : Nat) ∈ x := by
          by_cases z : (10 : Nat) ∈ x
          · exact z
          · rw [find_none z] at h2; omega
        have h10x' := h10x
        rw [e] at h10x'
        refine hn_for (x := x) (b := p.length) p none (fun hall e2 => ?_) (fun ⟨a, ha, hn⟩ => ?_)
        · have hne : p ≠ [] := fun z => by rw [z] at g1; simp at g1
          obtain ⟨a, t, ep⟩ : ∃ a t, p = a :: t := by cases p with
            | nil => exact (hne rfl).elim
            | cons a t => exact ⟨a, t, rfl⟩
          have ei : dIx S (.str x) (.int 0) = some (.str [a]) := by
            show (if _ then _ else none) = _
            have := atI_nat (xs := x) (n := 0)
            rw [show ((0 : Nat) : Int) = 0 from rfl] at this
            rw [if_pos hl, this, e, ep]; rfl
          simp only [dAdd, dAddI, dSub, dEq, dNe, dLt, dLe, dGt, dGe, dIs, SL.isNon, dNeg, fLen, lenD, isTy, mLstrip, seqOf, tru, tyOf, Option.map_some, String.reduceEq, usNil, usSeq, usSet, usExpr, usRet, usRetN, usIf, usBrk, usCnt, usAug, usAsg, usDPut, usRaise, usSub, uVar, uC, uBin, uChain, uUn, uTru, uTb, uAnd, uOr, uNot, uAndV, uOrV, uNotV, uIte, uNil, uCons, uTup, uLst, uNoPart, uPart, uSl, vSl, uFn, gP, uIsi, uBM, uBM0, gM, gAppend, gPop, uCall, uA0, uA1, gId, gApp, isSeq, isRng, isRng2, uDGet, bodyE, startE, ugName, List.map_cons, List.map_nil, List.length_cons, List.length_nil, List.cons_append, List.nil_append, List.getElem?_cons_zero, List.getElem?_cons_succ, List.set_cons_zero, List.set_cons_succ, List.replicate, Nat.add_one_sub_one, Nat.sub_self, Nat.reduceSub, Nat.reduceAdd, Option.some.injEq, exists_eq_left', exists_eq_left, exists_and_left, true_and, and_true, D.bl.injEq, D.int.injEq, D.str.injEq, D.tup.injEq, D.ref.injEq, Ob.lst.injEq, List.cons.injEq, fTup, if_true, if_false, ite_true, ite_false, Bool.false_eq_true, Bool.true_eq_false, reduceIte, ei, sgl]
          have hint : fInt S [.str p] = some (.int (NumText.digitsVal p)) := by
            show (if _ then _ else none) = _
            rw [if_pos (by omega), intText_digits (x := tx p) (by rw [tx_cps]; exact hall) (by rw [tx_cps]; exact hne) (by rw [tx_len]; omega), tx_cps]
            rfl
          by_cases h48 : a = 48
          · simp only [h48, decide_true, if_true]
            by_cases h1l : decide ((1 : Int) < (p.length : Int)) = true
            · simp only [h1l, if_true]
              refine no rfl ?_
              rw [e1, if_neg]
              rintro ⟨_, _, _, _, n4⟩
              have := n4 (by rw [ep, h48]; rfl)
              have := of_decide_eq_true h1l
              omega
            · simp only [h1l, Bool.false_eq_true, if_false]
              have h1l' : ¬ ((1 : Int) < (p.length : Int)) := fun z => h1l (decide_eq_true z)
              simp only [hl, ht, hint, dAdd, dAddI, dSub, dEq, dNe, dLt, dLe, dGt, dGe, dIs, SL.isNon, dNeg, fLen, lenD, isTy, mLstrip, seqOf, tru, tyOf, Option.map_some, String.reduceEq, usNil, usSeq, usSet, usExpr, usRet, usRetN, usIf, usBrk, usCnt, usAug, usAsg, usDPut, usRaise, usSub, uVar, uC, uBin, uChain, uUn, uTru, uTb, uAnd, uOr, uNot, uAndV, uOrV, uNotV, uIte, uNil, uCons, uTup, uLst, uNoPart, uPart, uSl, vSl, uFn, gP, uIsi, uBM, uBM0, gM, gAppend, gPop, uCall, uA0, uA1, gId, gApp, isSeq, isRng, isRng2, uDGet, bodyE, startE, ugName, List.map_cons, List.map_nil, List.length_cons, List.length_nil, List.cons_append, List.nil_append, List.getElem?_cons_zero, List.getElem?_cons_succ, List.set_cons_zero, List.set_cons_succ, List.replicate, Nat.add_one_sub_one, Nat.sub_self, Nat.reduceSub, Nat.reduceAdd, Option.some.injEq, exists_eq_left', exists_eq_left, exists_and_left, true_and, and_true, D.bl.injEq, D.int.injEq, D.str.injEq, D.tup.injEq, D.ref.injEq, Ob.lst.injEq, List.cons.injEq, fTup, if_true, if_false, ite_true, ite_false, Bool.false_eq_true, Bool.true_eq_false, reduceIte]
              refine ⟨S, Le.refl _, ?_⟩
              rw [e1, if_pos ⟨h10x', by omega, by omega, hall, fun _ => by omega⟩] at q
              exact q
          · simp only [h48, decide_false, Bool.false_eq_true, if_false]
            simp only [hl, ht, hint, dAdd, dAddI, dSub, dEq, dNe, dLt, dLe, dGt, dGe, dIs, SL.isNon, dNeg, fLen, lenD, isTy, mLstrip, seqOf, tru, tyOf, Option.map_some, String.reduceEq, usNil, usSeq, usSet, usExpr, usRet, usRetN, usIf, usBrk, usCnt, usAug, usAsg, usDPut, usRaise, usSub, uVar, uC, uBin, uChain, uUn, uTru, uTb, uAnd, uOr, uNot, uAndV, uOrV, uNotV, uIte, uNil, uCons, uTup, uLst, uNoPart, uPart, uSl, vSl, uFn, gP, uIsi, uBM, uBM0, gM, gAppend, gPop, uCall, uA0, uA1, gId, gApp, isSeq, isRng, isRng2, uDGet, bodyE, startE, ugName, List.map_cons, List.map_nil, List.length_cons, List.length_nil, List.cons_append, List.nil_append, List.getElem?_cons_zero, List.getElem?_cons_succ, List.set_cons_zero, List.set_cons_succ, List.replicate, Nat.add_one_sub_one, Nat.sub_self, Nat.reduceSub, Nat.reduceAdd, Option.some.injEq, exists_eq_left', exists_eq_left, exists_and_left, true_and, and_true, D.bl.injEq, D.int.injEq, D.str.injEq, D.tup.injEq, D.ref.injEq, Ob.lst.injEq, List.cons.injEq, fTup, if_true, if_false, ite_true, ite_false, Bool.false_eq_true, Bool.true_eq_false, reduceIte]
            refine ⟨S, Le.refl _, ?_⟩
            rw [e1, if_pos ⟨h10x', by omega, by omega, hall, fun z => by rw [ep] at z; simp at z; exact (h48 z).elim⟩] at q
            exact q
        · refine no rfl ?_
          rw [e1, if_neg]
          rintro ⟨_, _, _, n3, _⟩
          exact hn (n3 a ha)
    · have e3 : hn x = -1 := by
        rw [e1, if_neg]
        rintro ⟨_, n1, n2, _⟩
        exact h1 ⟨decide_eq_true (by omega), decide_eq_true (by omega)⟩
      by_cases h4 : decide ((1 : Int) ≤ (p.length : Int)) = true
      · have h5 : decide ((p.length : Int) ≤ 9) = false := by
          cases z : decide ((p.length : Int) ≤ 9) with
          | true => exact (h1 ⟨h4, z⟩).elim
          | false => rfl
        simp only [h4, h5, if_true, Bool.not_false]
        exact no rfl e3
      · simp only [h4, Bool.false_eq_true, if_false, Bool.not_false, if_true]
        exact no rfl e3
  · have hf : sFind x [32] = -1 := find_none h32
    simp only [dAdd, dAddI, dSub, dEq, dNe, dLt, dLe, dGt, dGe, dIs, SL.isNon, dNeg, fLen, lenD, isTy, mLstrip, seqOf, tru, tyOf, Option.map_some, String.reduceEq, usNil, usSeq, usSet, usExpr, usRet, usRetN, usIf, usBrk, usCnt, usAug, usAsg, usDPut, usRaise, usSub, uVar, uC, uBin, uChain, uUn, uTru, uTb, uAnd, uOr, uNot, uAndV, uOrV, uNotV, uIte, uNil, uCons, uTup, uLst, uNoPart, uPart, uSl, vSl, uFn, gP, uIsi, uBM, uBM0, gM, gAppend, gPop, uCall, uA0, uA1, gId, gApp, isSeq, isRng, isRng2, uDGet, bodyE, startE, ugName, List.map_cons, List.map_nil, List.length_cons, List.length_nil, List.cons_append, List.nil_append, List.getElem?_cons_zero, List.getElem?_cons_succ, List.set_cons_zero, List.set_cons_succ, List.replicate, Nat.add_one_sub_one, Nat.sub_self, Nat.reduceSub, Nat.reduceAdd, Option.some.injEq, exists_eq_left', exists_eq_left, exists_and_left, true_and, and_true, D.bl.injEq, D.int.injEq, D.str.injEq, D.tup.injEq, D.ref.injEq, Ob.lst.injEq, List.cons.injEq, fTup, if_true, if_false, ite_true, ite_false, Bool.false_eq_true, Bool.true_eq_false, reduceIte, c_sp, c_lf, mFind, hf, show decide ((1 : Int) ≤ -1) = false by decide, Bool.not_false]
    exact no rfl (hn_none h32)
theorem s1z : (1 : Nat) ≤ sizeLine := by rw [sizeLine_eq]; decide
def sp_whole_lines : FS := fun ds S Q X => ∃ ls e, ds = [.str (wl ls ++ e)] ∧ (∀ l ∈ ls, 10 ∉ l) ∧ 10 ∉ e ∧ (wl ls ++ e).length + 2 ≤ sizeLine ∧ ∀ p, S p = none → Q (.ref p) (SL.sup S p (.lst (ls.map .str)))
theorem ok_whole_lines {ds : List D} {S : SS} {Q : QN} {X : QX} (h : sp_whole_lines ds S Q X) : u_whole_lines K c (bodyE Q X) (startE N_whole_lines ds) S := by
  obtain ⟨ls, e, rfl, hls, he, hl, q⟩ := h
  unfold u_whole_lines
  simp only [dAdd, dAddI, dSub, dEq, dNe, dLt, dLe, dGt, dGe, dIs, SL.isNon, dNeg, fLen, lenD, isTy, mLstrip, seqOf, tru, tyOf, Option.map_some, String.reduceEq, usNil, usSeq, usSet, usExpr, usRet, usRetN, usIf, usBrk, usCnt, usAug, usAsg, usDPut, usRaise, usSub, uVar, uC, uBin, uChain, uUn, uTru, uTb, uAnd, uOr, uNot, uAndV, uOrV, uNotV, uIte, uNil, uCons, uTup, uLst, uNoPart, uPart, uSl, vSl, uFn, gP, uIsi, uBM, uBM0, gM, gAppend, gPop, uCall, uA0, uA1, gId, gApp, isSeq, isRng, isRng2, uDGet, bodyE, startE, ugName, List.map_cons, List.map_nil, List.length_cons, List.length_nil, List.cons_append, List.nil_append, List.getElem?_cons_zero, List.getElem?_cons_succ, List.set_cons_zero, List.set_cons_succ, List.replicate, Nat.add_one_sub_one, Nat.sub_self, Nat.reduceSub, Nat.reduceAdd, Option.some.injEq, exists_eq_left', exists_eq_left, exists_and_left, true_and, and_true, D.bl.injEq, D.int.injEq, D.str.injEq, D.tup.injEq, D.ref.injEq, Ob.lst.injEq, List.cons.injEq, fTup, if_true, if_false, ite_true, ite_false, Bool.false_eq_true, Bool.true_eq_false, reduceIte, c_lf, gSplit]
  refine ⟨by simp, hl, fun p hp => ?_⟩
  rw [split_plc hls he]
  simp only [dAdd, dAddI, dSub, dEq, dNe, dLt, dLe, dGt, dGe, dIs, SL.isNon, dNeg, fLen, lenD, isTy, mLstrip, seqOf, tru, tyOf, Option.map_some, String.reduceEq, usNil, usSeq, usSet, usExpr, usRet, usRetN, usIf, usBrk, usCnt, usAug, usAsg, usDPut, usRaise, usSub, uVar, uC, uBin, uChain, uUn, uTru, uTb, uAnd, uOr, uNot, uAndV, uOrV, uNotV, uIte, uNil, uCons, uTup, uLst, uNoPart, uPart, uSl, vSl, uFn, gP, uIsi, uBM, uBM0, gM, gAppend, gPop, uCall, uA0, uA1, gId, gApp, isSeq, isRng, isRng2, uDGet, bodyE, startE, ugName, List.map_cons, List.map_nil, List.length_cons, List.length_nil, List.cons_append, List.nil_append, List.getElem?_cons_zero, List.getElem?_cons_succ, List.set_cons_zero, List.set_cons_succ, List.replicate, Nat.add_one_sub_one, Nat.sub_self, Nat.reduceSub, Nat.reduceAdd, Option.some.injEq, exists_eq_left', exists_eq_left, exists_and_left, true_and, and_true, D.bl.injEq, D.int.injEq, D.str.injEq, D.tup.injEq, D.ref.injEq, Ob.lst.injEq, List.cons.injEq, fTup, if_true, if_false, ite_true, ite_false, Bool.false_eq_true, Bool.true_eq_false, reduceIte, sup_same]
  intro p2 hp2
  have hne : p2 ≠ p := fun z => by rw [z, sup_same] at hp2; cases hp2
  have h2 : S p2 = none := by rw [← hp2, sup_ne hne]
  refine ⟨_, Le.sup (Le.new hp), ?_⟩
  have := q p2 h2
  rw [cut_m1]
  simpa using this
def sp_torn_end : FS := fun ds S Q X => ∃ ls e, ds = [.str (wl ls ++ e)] ∧ 10 ∉ e ∧ (wl ls ++ e).length ≤ sizeLine ∧ Q (.str e) S
theorem ok_torn_end {ds : List D} {S : SS} {Q : QN} {X : QX} (h : sp_torn_end ds S Q X) : u_torn_end K c (bodyE Q X) (startE N_torn_end ds) S := by
  obtain ⟨ls, e, rfl, he, hl, q⟩ := h
  unfold u_torn_end
  simp only [dAdd, dAddI, dSub, dEq, dNe, dLt, dLe, dGt, dGe, dIs, SL.isNon, dNeg, fLen, lenD, isTy, mLstrip, seqOf, tru, tyOf, Option.map_some, String.reduceEq, usNil, usSeq, usSet, usExpr, usRet, usRetN, usIf, usBrk, usCnt, usAug, usAsg, usDPut, usRaise, usSub, uVar, uC, uBin, uChain, uUn, uTru, uTb, uAnd, uOr, uNot, uAndV, uOrV, uNotV, uIte, uNil, uCons, uTup, uLst, uNoPart, uPart, uSl, vSl, uFn, gP, uIsi, uBM, uBM0, gM, gAppend, gPop, uCall, uA0, uA1, gId, gApp, isSeq, isRng, isRng2, uDGet, bodyE, startE, ugName, List.map_cons, List.map_nil, List.length_cons, List.length_nil, List.cons_append, List.nil_append, List.getElem?_cons_zero, List.getElem?_cons_succ, List.set_cons_zero, List.set_cons_succ, List.replicate, Nat.add_one_sub_one, Nat.sub_self, Nat.reduceSub, Nat.reduceAdd, Option.some.injEq, exists_eq_left', exists_eq_left, exists_and_left, true_and, and_true, D.bl.injEq, D.int.injEq, D.str.injEq, D.tup.injEq, D.ref.injEq, Ob.lst.injEq, List.cons.injEq, fTup, if_true, if_false, ite_true, ite_false, Bool.false_eq_true, Bool.true_eq_false, reduceIte, c_lf, mRfind, rfind_plc he]
  refine ⟨hl, S, Le.refl _, ?_⟩
  rw [cut_from (by omega)]
  simpa using q
def fsg (x : List Nat) : D → List Nat
  | .int k => x.take k.toNat
  | _ => x
def CutOk (cu : D) : Prop := cu = .non ∨ ∃ k : Int, 0 ≤ k ∧ cu = .int k
theorem fsg_len {x : List Nat} {cu : D} : (fsg x cu).length ≤ x.length := by
  unfold fsg; split
  · rw [List.length_take]; omega
  · exact Nat.le_refl _
def sp_first_signs : FS := fun ds S Q X => ∃ x cu, ds = [.str x, cu] ∧ CutOk cu ∧ x.length ≤ sizeLine ∧ Q (.str (fsg x cu)) S
theorem ok_first_signs {ds : List D} {S : SS} {Q : QN} {X : QX} (h : sp_first_signs ds S Q X) : u_first_signs K c (bodyE Q X) (startE N_first_signs ds) S := by
  obtain ⟨x, cu, rfl, hc, hl, q⟩ := h
  unfold u_first_signs
  rcases hc with rfl | ⟨k, hk, rfl⟩
  · simp only [dAdd, dAddI, dSub, dEq, dNe, dLt, dLe, dGt, dGe, dIs, SL.isNon, dNeg, fLen, lenD, isTy, mLstrip, seqOf, tru, tyOf, Option.map_some, String.reduceEq, usNil, usSeq, usSet, usExpr, usRet, usRetN, usIf, usBrk, usCnt, usAug, usAsg, usDPut, usRaise, usSub, uVar, uC, uBin, uChain, uUn, uTru, uTb, uAnd, uOr, uNot, uAndV, uOrV, uNotV, uIte, uNil, uCons, uTup, uLst, uNoPart, uPart, uSl, vSl, uFn, gP, uIsi, uBM, uBM0, gM, gAppend, gPop, uCall, uA0, uA1, gId, gApp, isSeq, isRng, isRng2, uDGet, bodyE, startE, ugName, List.map_cons, List.map_nil, List.length_cons, List.length_nil, List.cons_append, List.nil_append, List.getElem?_cons_zero, List.getElem?_cons_succ, List.set_cons_zero, List.set_cons_succ, List.replicate, Nat.add_one_sub_one, Nat.sub_self, Nat.reduceSub, Nat.reduceAdd, Option.some.injEq, exists_eq_left', exists_eq_left, exists_and_left, true_and, and_true, D.bl.injEq, D.int.injEq, D.str.injEq, D.tup.injEq, D.ref.injEq, Ob.lst.injEq, List.cons.injEq, fTup, if_true, if_false, ite_true, ite_false, Bool.false_eq_true, Bool.true_eq_false, reduceIte]
    exact ⟨S, Le.refl _, q⟩
  · simp only [dAdd, dAddI, dSub, dEq, dNe, dLt, dLe, dGt, dGe, dIs, SL.isNon, dNeg, fLen, lenD, isTy, mLstrip, seqOf, tru, tyOf, Option.map_some, String.reduceEq, usNil, usSeq, usSet, usExpr, usRet, usRetN, usIf, usBrk, usCnt, usAug, usAsg, usDPut, usRaise, usSub, uVar, uC, uBin, uChain, uUn, uTru, uTb, uAnd, uOr, uNot, uAndV, uOrV, uNotV, uIte, uNil, uCons, uTup, uLst, uNoPart, uPart, uSl, vSl, uFn, gP, uIsi, uBM, uBM0, gM, gAppend, gPop, uCall, uA0, uA1, gId, gApp, isSeq, isRng, isRng2, uDGet, bodyE, startE, ugName, List.map_cons, List.map_nil, List.length_cons, List.length_nil, List.cons_append, List.nil_append, List.getElem?_cons_zero, List.getElem?_cons_succ, List.set_cons_zero, List.set_cons_succ, List.replicate, Nat.add_one_sub_one, Nat.sub_self, Nat.reduceSub, Nat.reduceAdd, Option.some.injEq, exists_eq_left', exists_eq_left, exists_and_left, true_and, and_true, D.bl.injEq, D.int.injEq, D.str.injEq, D.tup.injEq, D.ref.injEq, Ob.lst.injEq, List.cons.injEq, fTup, if_true, if_false, ite_true, ite_false, Bool.false_eq_true, Bool.true_eq_false, reduceIte, hl]
    refine ⟨S, Le.refl _, ?_⟩
    rw [cut_to hk]
    exact q
def dsk (a b : List Nat) : Fs := [("pair", .tup [.str a, .str b])]
def Dk (c : Cs) (S : SS) (d : Addr) (a b : List Nat) : Prop := S d = some (.ins c.Disk (dsk a b)) ∧ a.length ≤ 10000000 ∧ b.length ≤ 10000000
def prs (a b : List Nat) : List Nat := if hn a < hn b then b else a
def pat (a b : List Nat) : Int := if hn a < hn b then 1 else 0
def putP (a b x : List Nat) : Fs := if hn a < hn b then dsk a x else dsk x b
def putO (a b x : List Nat) : Fs := if hn a < hn b then dsk x b else dsk a x
theorem lk_pair {a b : List Nat} : (dsk a b).lookup (Str.ofString "pair") = some (.tup [.str a, .str b]) := by simp [dsk, List.lookup]
theorem put_pair {a b x y : List Nat} : putS (Str.ofString "pair") (.tup [.str x, .str y]) (dsk a b) = dsk x y := by simp [dsk, putS]
theorem lz7 {n : Nat} (h : n ≤ 10000000) : n ≤ sizeLine := by rw [sizeLine_eq]; omega
theorem prs_len {a b : List Nat} (h1 : a.length ≤ 10000000) (h2 : b.length ≤ 10000000) : (prs a b).length ≤ 10000000 := by unfold prs; split <;> assumption
theorem atI0 {α : Type} {a b : α} : L2.atI [a, b] 0 = some a := rfl
theorem atI1 {α : Type} {a b : α} : L2.atI [a, b] 1 = some b := rfl
theorem atIp {a b : List Nat} : L2.atI [D.str a, D.str b] (pat a b) = some (.str (prs a b)) := by unfold pat prs; split <;> rfl
abbrev gvp : List Nat → List Nat → List D := fun a b => [.str a, .str b]
def sp_Disk_places (c : Cs) : FS := fun ds S Q X => ∃ d a b, ds = [.ref d] ∧ Dk c S d a b ∧ Q (.tup [.str a, .str b]) S
theorem ok_Disk_places {ds : List D} {S : SS} {Q : QN} {X : QX} (hF : FldOk K c.Disk "pair") (h : sp_Disk_places c ds S Q X) : u_Disk_places K c (bodyE Q X) (startE N_Disk_places ds) S := by
  obtain ⟨d, a, b, rfl, ⟨hd, ha, hb⟩, q⟩ := h
  unfold u_Disk_places
  simp only [dAdd, dAddI, dSub, dEq, dNe, dLt, dLe, dGt, dGe, dIs, SL.isNon, dNeg, fLen, lenD, isTy, mLstrip, seqOf, tru, tyOf, Option.map_some, String.reduceEq, usNil, usSeq, usSet, usExpr, usRet, usRetN, usIf, usBrk, usCnt, usAug, usAsg, usDPut, usRaise, usSub, uVar, uC, uBin, uChain, uUn, uTru, uTb, uAnd, uOr, uNot, uAndV, uOrV, uNotV, uIte, uNil, uCons, uTup, uLst, uNoPart, uPart, uSl, vSl, uFn, gP, uIsi, uBM, uBM0, gM, gAppend, gPop, uCall, uA0, uA1, gId, gApp, isSeq, isRng, isRng2, uDGet, bodyE, startE, ugName, List.map_cons, List.map_nil, List.length_cons, List.length_nil, List.cons_append, List.nil_append, List.getElem?_cons_zero, List.getElem?_cons_succ, List.set_cons_zero, List.set_cons_succ, List.replicate, Nat.add_one_sub_one, Nat.sub_self, Nat.reduceSub, Nat.reduceAdd, Option.some.injEq, exists_eq_left', exists_eq_left, exists_and_left, true_and, and_true, D.bl.injEq, D.int.injEq, D.str.injEq, D.tup.injEq, D.ref.injEq, Ob.lst.injEq, List.cons.injEq, fTup, if_true, if_false, ite_true, ite_false, Bool.false_eq_true, Bool.true_eq_false, reduceIte, uFld, vFld, hd, lk_pair]
  exact ⟨hF, S, Le.refl _, q⟩
def sp_Disk_present_at (c : Cs) : FS := fun ds S Q X => ∃ d a b, ds = [.ref d] ∧ Dk c S d a b ∧ Q (.int (pat a b)) S
theorem ok_Disk_present_at {ds : List D} {S : SS} {Q : QN} {X : QX} (hF : FldOk K c.Disk "pair") (h : sp_Disk_present_at c ds S Q X) : u_Disk_present_at K c sp_head_number (bodyE Q X) (startE N_Disk_present_at ds) S := by
  obtain ⟨d, a, b, rfl, ⟨hd, ha, hb⟩, q⟩ := h
  unfold u_Disk_present_at
  simp only [dAdd, dAddI, dSub, dEq, dNe, dLt, dLe, dGt, dGe, dIs, SL.isNon, dNeg, fLen, lenD, isTy, mLstrip, seqOf, tru, tyOf, Option.map_some, String.reduceEq, usNil, usSeq, usSet, usExpr, usRet, usRetN, usIf, usBrk, usCnt, usAug, usAsg, usDPut, usRaise, usSub, uVar, uC, uBin, uChain, uUn, uTru, uTb, uAnd, uOr, uNot, uAndV, uOrV, uNotV, uIte, uNil, uCons, uTup, uLst, uNoPart, uPart, uSl, vSl, uFn, gP, uIsi, uBM, uBM0, gM, gAppend, gPop, uCall, uA0, uA1, gId, gApp, isSeq, isRng, isRng2, uDGet, bodyE, startE, ugName, List.map_cons, List.map_nil, List.length_cons, List.length_nil, List.cons_append, List.nil_append, List.getElem?_cons_zero, List.getElem?_cons_succ, List.set_cons_zero, List.set_cons_succ, List.replicate, Nat.add_one_sub_one, Nat.sub_self, Nat.reduceSub, Nat.reduceAdd, Option.some.injEq, exists_eq_left', exists_eq_left, exists_and_left, true_and, and_true, D.bl.injEq, D.int.injEq, D.str.injEq, D.tup.injEq, D.ref.injEq, Ob.lst.injEq, List.cons.injEq, fTup, if_true, if_false, ite_true, ite_false, Bool.false_eq_true, Bool.true_eq_false, reduceIte, uFld, vFld, hd, lk_pair, dIx, atI0, atI1]
  refine ⟨hF, b, rfl, lz7 hb, ?_⟩
  simp only [dAdd, dAddI, dSub, dEq, dNe, dLt, dLe, dGt, dGe, dIs, SL.isNon, dNeg, fLen, lenD, isTy, mLstrip, seqOf, tru, tyOf, Option.map_some, String.reduceEq, usNil, usSeq, usSet, usExpr, usRet, usRetN, usIf, usBrk, usCnt, usAug, usAsg, usDPut, usRaise, usSub, uVar, uC, uBin, uChain, uUn, uTru, uTb, uAnd, uOr, uNot, uAndV, uOrV, uNotV, uIte, uNil, uCons, uTup, uLst, uNoPart, uPart, uSl, vSl, uFn, gP, uIsi, uBM, uBM0, gM, gAppend, gPop, uCall, uA0, uA1, gId, gApp, isSeq, isRng, isRng2, uDGet, bodyE, startE, ugName, List.map_cons, List.map_nil, List.length_cons, List.length_nil, List.cons_append, List.nil_append, List.getElem?_cons_zero, List.getElem?_cons_succ, List.set_cons_zero, List.set_cons_succ, List.replicate, Nat.add_one_sub_one, Nat.sub_self, Nat.reduceSub, Nat.reduceAdd, Option.some.injEq, exists_eq_left', exists_eq_left, exists_and_left, true_and, and_true, D.bl.injEq, D.int.injEq, D.str.injEq, D.tup.injEq, D.ref.injEq, Ob.lst.injEq, List.cons.injEq, fTup, if_true, if_false, ite_true, ite_false, Bool.false_eq_true, Bool.true_eq_false, reduceIte, uFld, vFld, hd, lk_pair, dIx, atI0, atI1]
  refine ⟨hF, a, rfl, lz7 ha, ?_⟩
  simp only [dAdd, dAddI, dSub, dEq, dNe, dLt, dLe, dGt, dGe, dIs, SL.isNon, dNeg, fLen, lenD, isTy, mLstrip, seqOf, tru, tyOf, Option.map_some, String.reduceEq, usNil, usSeq, usSet, usExpr, usRet, usRetN, usIf, usBrk, usCnt, usAug, usAsg, usDPut, usRaise, usSub, uVar, uC, uBin, uChain, uUn, uTru, uTb, uAnd, uOr, uNot, uAndV, uOrV, uNotV, uIte, uNil, uCons, uTup, uLst, uNoPart, uPart, uSl, vSl, uFn, gP, uIsi, uBM, uBM0, gM, gAppend, gPop, uCall, uA0, uA1, gId, gApp, isSeq, isRng, isRng2, uDGet, bodyE, startE, ugName, List.map_cons, List.map_nil, List.length_cons, List.length_nil, List.cons_append, List.nil_append, List.getElem?_cons_zero, List.getElem?_cons_succ, List.set_cons_zero, List.set_cons_succ, List.replicate, Nat.add_one_sub_one, Nat.sub_self, Nat.reduceSub, Nat.reduceAdd, Option.some.injEq, exists_eq_left', exists_eq_left, exists_and_left, true_and, and_true, D.bl.injEq, D.int.injEq, D.str.injEq, D.tup.injEq, D.ref.injEq, Ob.lst.injEq, List.cons.injEq, fTup, if_true, if_false, ite_true, ite_false, Bool.false_eq_true, Bool.true_eq_false, reduceIte]
  unfold pat at q
  by_cases h : hn a < hn b
  · rw [if_pos h] at q
    simp only [decide_eq_true h, if_true]
    exact ⟨S, Le.refl _, q⟩
  · rw [if_neg h] at q
    simp only [decide_eq_false h, Bool.false_eq_true, if_false]
    exact ⟨S, Le.refl _, q⟩
def sp_Disk_put (c : Cs) : FS := fun ds S Q X => ∃ d a b i x, ds = [.ref d, .int i, .str x] ∧ Dk c S d a b ∧ (i = 0 ∨ i = 1) ∧ Q .non (SL.sup S d (.ins c.Disk (if i = 0 then dsk x b else dsk a x)))
theorem dsk_len {a b : List Nat} : (dsk a b).length < 1000 := by simp [dsk]
theorem ok_Disk_put {ds : List D} {S : SS} {Q : QN} {X : QX} (hF : FldOk K c.Disk "pair") (h : sp_Disk_put c ds S Q X) : u_Disk_put K c (bodyE Q X) (startE N_Disk_put ds) S := by
  obtain ⟨d, a, b, i, x, rfl, ⟨hd, ha, hb⟩, hi, q⟩ := h
  unfold u_Disk_put
  rcases hi with rfl | rfl
  · simp only [dAdd, dAddI, dSub, dEq, dNe, dLt, dLe, dGt, dGe, dIs, SL.isNon, dNeg, fLen, lenD, isTy, mLstrip, seqOf, tru, tyOf, Option.map_some, String.reduceEq, usNil, usSeq, usSet, usExpr, usRet, usRetN, usIf, usBrk, usCnt, usAug, usAsg, usDPut, usRaise, usSub, uVar, uC, uBin, uChain, uUn, uTru, uTb, uAnd, uOr, uNot, uAndV, uOrV, uNotV, uIte, uNil, uCons, uTup, uLst, uNoPart, uPart, uSl, vSl, uFn, gP, uIsi, uBM, uBM0, gM, gAppend, gPop, uCall, uA0, uA1, gId, gApp, isSeq, isRng, isRng2, uDGet, bodyE, startE, ugName, List.map_cons, List.map_nil, List.length_cons, List.length_nil, List.cons_append, List.nil_append, List.getElem?_cons_zero, List.getElem?_cons_succ, List.set_cons_zero, List.set_cons_succ, List.replicate, Nat.add_one_sub_one, Nat.sub_self, Nat.reduceSub, Nat.reduceAdd, Option.some.injEq, exists_eq_left', exists_eq_left, exists_and_left, true_and, and_true, D.bl.injEq, D.int.injEq, D.str.injEq, D.tup.injEq, D.ref.injEq, Ob.lst.injEq, List.cons.injEq, fTup, if_true, if_false, ite_true, ite_false, Bool.false_eq_true, Bool.true_eq_false, reduceIte, usFld, uFld, vFld, vPut, hd, lk_pair, dIx, atI0, atI1, beq_self_eq_true, put_pair, dsk_len]
    rw [if_pos rfl] at q
    exact ⟨hF, z2, hF, _, Le.refl _, q⟩
  · have e : ((1 : Int) == 0) = false := by decide
    simp only [dAdd, dAddI, dSub, dEq, dNe, dLt, dLe, dGt, dGe, dIs, SL.isNon, dNeg, fLen, lenD, isTy, mLstrip, seqOf, tru, tyOf, Option.map_some, String.reduceEq, usNil, usSeq, usSet, usExpr, usRet, usRetN, usIf, usBrk, usCnt, usAug, usAsg, usDPut, usRaise, usSub, uVar, uC, uBin, uChain, uUn, uTru, uTb, uAnd, uOr, uNot, uAndV, uOrV, uNotV, uIte, uNil, uCons, uTup, uLst, uNoPart, uPart, uSl, vSl, uFn, gP, uIsi, uBM, uBM0, gM, gAppend, gPop, uCall, uA0, uA1, gId, gApp, isSeq, isRng, isRng2, uDGet, bodyE, startE, ugName, List.map_cons, List.map_nil, List.length_cons, List.length_nil, List.cons_append, List.nil_append, List.getElem?_cons_zero, List.getElem?_cons_succ, List.set_cons_zero, List.set_cons_succ, List.replicate, Nat.add_one_sub_one, Nat.sub_self, Nat.reduceSub, Nat.reduceAdd, Option.some.injEq, exists_eq_left', exists_eq_left, exists_and_left, true_and, and_true, D.bl.injEq, D.int.injEq, D.str.injEq, D.tup.injEq, D.ref.injEq, Ob.lst.injEq, List.cons.injEq, fTup, if_true, if_false, ite_true, ite_false, Bool.false_eq_true, Bool.true_eq_false, reduceIte, usFld, uFld, vFld, vPut, hd, lk_pair, dIx, atI0, atI1, e, put_pair, dsk_len]
    rw [if_neg (by decide)] at q
    exact ⟨hF, z2, hF, _, Le.refl _, q⟩
def sp_Disk_book (c : Cs) : FS := fun ds S Q X => ∃ d a b, ds = [.ref d] ∧ Dk c S d a b ∧ Q (.int (hn (prs a b))) S
theorem lk_dn {a b : List Nat} {m : Str} (h : (m == Str.ofString "pair") = false) : (dsk a b).lookup m = none := by simp [dsk, List.lookup, h]
theorem nd_pa {a b : List Nat} : (dsk a b).lookup (Str.ofString "present_at") = none := lk_dn (by decide +kernel)
theorem nd_put {a b : List Nat} : (dsk a b).lookup (Str.ofString "put") = none := lk_dn (by decide +kernel)
theorem nd_rec {a b : List Nat} : (dsk a b).lookup (Str.ofString "records") = none := lk_dn (by decide +kernel)
theorem ok_Disk_book {ds : List D} {S : SS} {Q : QN} {X : QX} (hF : FldOk K c.Disk "pair") (h : sp_Disk_book c ds S Q X) : u_Disk_book K c (sp_Disk_present_at c) sp_head_number (bodyE Q X) (startE N_Disk_book ds) S := by
  obtain ⟨d, a, b, rfl, ⟨hd, ha, hb⟩, q⟩ := h
  unfold u_Disk_book
  simp only [dAdd, dAddI, dSub, dEq, dNe, dLt, dLe, dGt, dGe, dIs, SL.isNon, dNeg, fLen, lenD, isTy, mLstrip, seqOf, tru, tyOf, Option.map_some, String.reduceEq, usNil, usSeq, usSet, usExpr, usRet, usRetN, usIf, usBrk, usCnt, usAug, usAsg, usDPut, usRaise, usSub, uVar, uC, uBin, uChain, uUn, uTru, uTb, uAnd, uOr, uNot, uAndV, uOrV, uNotV, uIte, uNil, uCons, uTup, uLst, uNoPart, uPart, uSl, vSl, uFn, gP, uIsi, uBM, uBM0, gM, gAppend, gPop, uCall, uA0, uA1, gId, gApp, isSeq, isRng, isRng2, uDGet, bodyE, startE, ugName, List.map_cons, List.map_nil, List.length_cons, List.length_nil, List.cons_append, List.nil_append, List.getElem?_cons_zero, List.getElem?_cons_succ, List.set_cons_zero, List.set_cons_succ, List.replicate, Nat.add_one_sub_one, Nat.sub_self, Nat.reduceSub, Nat.reduceAdd, Option.some.injEq, exists_eq_left', exists_eq_left, exists_and_left, true_and, and_true, D.bl.injEq, D.int.injEq, D.str.injEq, D.tup.injEq, D.ref.injEq, Ob.lst.injEq, List.cons.injEq, fTup, if_true, if_false, ite_true, ite_false, Bool.false_eq_true, Bool.true_eq_false, reduceIte, uFld, vFld, uMeth, hd, lk_pair, Ob.ins.injEq]
  refine ⟨hF, nd_pa, d, a, b, rfl, ⟨hd, ha, hb⟩, ?_⟩
  simp only [dAdd, dAddI, dSub, dEq, dNe, dLt, dLe, dGt, dGe, dIs, SL.isNon, dNeg, fLen, lenD, isTy, mLstrip, seqOf, tru, tyOf, Option.map_some, String.reduceEq, usNil, usSeq, usSet, usExpr, usRet, usRetN, usIf, usBrk, usCnt, usAug, usAsg, usDPut, usRaise, usSub, uVar, uC, uBin, uChain, uUn, uTru, uTb, uAnd, uOr, uNot, uAndV, uOrV, uNotV, uIte, uNil, uCons, uTup, uLst, uNoPart, uPart, uSl, vSl, uFn, gP, uIsi, uBM, uBM0, gM, gAppend, gPop, uCall, uA0, uA1, gId, gApp, isSeq, isRng, isRng2, uDGet, bodyE, startE, ugName, List.map_cons, List.map_nil, List.length_cons, List.length_nil, List.cons_append, List.nil_append, List.getElem?_cons_zero, List.getElem?_cons_succ, List.set_cons_zero, List.set_cons_succ, List.replicate, Nat.add_one_sub_one, Nat.sub_self, Nat.reduceSub, Nat.reduceAdd, Option.some.injEq, exists_eq_left', exists_eq_left, exists_and_left, true_and, and_true, D.bl.injEq, D.int.injEq, D.str.injEq, D.tup.injEq, D.ref.injEq, Ob.lst.injEq, List.cons.injEq, fTup, if_true, if_false, ite_true, ite_false, Bool.false_eq_true, Bool.true_eq_false, reduceIte, dIx, atIp]
  exact ⟨_, rfl, lz7 (prs_len ha hb), S, Le.refl _, q⟩
def sp_Disk_head (c : Cs) : FS := fun ds S Q X => ∃ d a b p h ls e, ds = [.ref d] ∧ Dk c S d a b ∧ prs a b = wl ((p ++ 32 :: h) :: ls) ++ e ∧ (∀ l ∈ (p ++ 32 :: h) :: ls, 10 ∉ l) ∧ 10 ∉ e ∧ 32 ∉ p ∧ Q (.str h) S
theorem lz72 {n : Nat} (h : n ≤ 10000000) : n + 2 ≤ sizeLine := by rw [sizeLine_eq]; omega
theorem ok_Disk_head {ds : List D} {S : SS} {Q : QN} {X : QX} (hF : FldOk K c.Disk "pair") (h : sp_Disk_head c ds S Q X) : u_Disk_head K c (sp_Disk_present_at c) sp_whole_lines (bodyE Q X) (startE N_Disk_head ds) S := by
  obtain ⟨d, a, b, p, h, ls, e, rfl, ⟨hd, ha, hb⟩, hp, hls, he, h32, q⟩ := h
  unfold u_Disk_head
  simp only [dAdd, dAddI, dSub, dEq, dNe, dLt, dLe, dGt, dGe, dIs, SL.isNon, dNeg, fLen, lenD, isTy, mLstrip, seqOf, tru, tyOf, Option.map_some, String.reduceEq, usNil, usSeq, usSet, usExpr, usRet, usRetN, usIf, usBrk, usCnt, usAug, usAsg, usDPut, usRaise, usSub, uVar, uC, uBin, uChain, uUn, uTru, uTb, uAnd, uOr, uNot, uAndV, uOrV, uNotV, uIte, uNil, uCons, uTup, uLst, uNoPart, uPart, uSl, vSl, uFn, gP, uIsi, uBM, uBM0, gM, gAppend, gPop, uCall, uA0, uA1, gId, gApp, isSeq, isRng, isRng2, uDGet, bodyE, startE, ugName, List.map_cons, List.map_nil, List.length_cons, List.length_nil, List.cons_append, List.nil_append, List.getElem?_cons_zero, List.getElem?_cons_succ, List.set_cons_zero, List.set_cons_succ, List.replicate, Nat.add_one_sub_one, Nat.sub_self, Nat.reduceSub, Nat.reduceAdd, Option.some.injEq, exists_eq_left', exists_eq_left, exists_and_left, true_and, and_true, D.bl.injEq, D.int.injEq, D.str.injEq, D.tup.injEq, D.ref.injEq, Ob.lst.injEq, List.cons.injEq, fTup, if_true, if_false, ite_true, ite_false, Bool.false_eq_true, Bool.true_eq_false, reduceIte, uFld, vFld, uMeth, hd, lk_pair, Ob.ins.injEq]
  refine ⟨hF, nd_pa, d, a, b, rfl, ⟨hd, ha, hb⟩, ?_⟩
  simp only [dAdd, dAddI, dSub, dEq, dNe, dLt, dLe, dGt, dGe, dIs, SL.isNon, dNeg, fLen, lenD, isTy, mLstrip, seqOf, tru, tyOf, Option.map_some, String.reduceEq, usNil, usSeq, usSet, usExpr, usRet, usRetN, usIf, usBrk, usCnt, usAug, usAsg, usDPut, usRaise, usSub, uVar, uC, uBin, uChain, uUn, uTru, uTb, uAnd, uOr, uNot, uAndV, uOrV, uNotV, uIte, uNil, uCons, uTup, uLst, uNoPart, uPart, uSl, vSl, uFn, gP, uIsi, uBM, uBM0, gM, gAppend, gPop, uCall, uA0, uA1, gId, gApp, isSeq, isRng, isRng2, uDGet, bodyE, startE, ugName, List.map_cons, List.map_nil, List.length_cons, List.length_nil, List.cons_append, List.nil_append, List.getElem?_cons_zero, List.getElem?_cons_succ, List.set_cons_zero, List.set_cons_succ, List.replicate, Nat.add_one_sub_one, Nat.sub_self, Nat.reduceSub, Nat.reduceAdd, Option.some.injEq, exists_eq_left', exists_eq_left, exists_and_left, true_and, and_true, D.bl.injEq, D.int.injEq, D.str.injEq, D.tup.injEq, D.ref.injEq, Ob.lst.injEq, List.cons.injEq, fTup, if_true, if_false, ite_true, ite_false, Bool.false_eq_true, Bool.true_eq_false, reduceIte, dIx, atIp]
  have hl := prs_len ha hb
  refine ⟨_, e, by rw [hp], hls, he, by rw [← hp]; exact lz72 hl, fun r hr => ?_⟩
  have hpl : (p ++ 32 :: h).length ≤ sizeLine := by
    rw [hp, wl_cons] at hl
    simp only [List.length_append, List.length_cons] at hl ⊢
    rw [sizeLine_eq]; omega
  have e0 : L2.atI (D.str (p ++ 32 :: h) :: List.map D.str ls) 0 = some (.str (p ++ 32 :: h)) := atI_nat (n := 0)
  have e1 : mPart (.str (p ++ 32 :: h)) [.str [32]] = some (.tup [.str p, .str [32], .str h]) := by
    show (if _ then _ else none) = _
    rw [if_pos ⟨by simp, hpl⟩, part_at h32]
  simp only [dAdd, dAddI, dSub, dEq, dNe, dLt, dLe, dGt, dGe, dIs, SL.isNon, dNeg, fLen, lenD, isTy, mLstrip, seqOf, tru, tyOf, Option.map_some, String.reduceEq, usNil, usSeq, usSet, usExpr, usRet, usRetN, usIf, usBrk, usCnt, usAug, usAsg, usDPut, usRaise, usSub, uVar, uC, uBin, uChain, uUn, uTru, uTb, uAnd, uOr, uNot, uAndV, uOrV, uNotV, uIte, uNil, uCons, uTup, uLst, uNoPart, uPart, uSl, vSl, uFn, gP, uIsi, uBM, uBM0, gM, gAppend, gPop, uCall, uA0, uA1, gId, gApp, isSeq, isRng, isRng2, uDGet, bodyE, startE, ugName, List.map_cons, List.map_nil, List.length_cons, List.length_nil, List.cons_append, List.nil_append, List.getElem?_cons_zero, List.getElem?_cons_succ, List.set_cons_zero, List.set_cons_succ, List.replicate, Nat.add_one_sub_one, Nat.sub_self, Nat.reduceSub, Nat.reduceAdd, Option.some.injEq, exists_eq_left', exists_eq_left, exists_and_left, true_and, and_true, D.bl.injEq, D.int.injEq, D.str.injEq, D.tup.injEq, D.ref.injEq, Ob.lst.injEq, List.cons.injEq, fTup, if_true, if_false, ite_true, ite_false, Bool.false_eq_true, Bool.true_eq_false, reduceIte, sup_same, dIx, e0, c_sp, e1, isTy]
  exact ⟨_, rfl, S, Le.new hr, q⟩
def sp_Disk_records (c : Cs) : FS := fun ds S Q X => ∃ d a b l ls e, ds = [.ref d] ∧ Dk c S d a b ∧ prs a b = wl (l :: ls) ++ e ∧ (∀ x ∈ l :: ls, 10 ∉ x) ∧ 10 ∉ e ∧ Q (.tup (ls.map .str)) S
theorem ok_Disk_records {ds : List D} {S : SS} {Q : QN} {X : QX} (hF : FldOk K c.Disk "pair") (h : sp_Disk_records c ds S Q X) : u_Disk_records K c (sp_Disk_present_at c) sp_whole_lines (bodyE Q X) (startE N_Disk_records ds) S := by
  obtain ⟨d, a, b, l, ls, e, rfl, ⟨hd, ha, hb⟩, hp, hls, he, q⟩ := h
  unfold u_Disk_records
  simp only [dAdd, dAddI, dSub, dEq, dNe, dLt, dLe, dGt, dGe, dIs, SL.isNon, dNeg, fLen, lenD, isTy, mLstrip, seqOf, tru, tyOf, Option.map_some, String.reduceEq, usNil, usSeq, usSet, usExpr, usRet, usRetN, usIf, usBrk, usCnt, usAug, usAsg, usDPut, usRaise, usSub, uVar, uC, uBin, uChain, uUn, uTru, uTb, uAnd, uOr, uNot, uAndV, uOrV, uNotV, uIte, uNil, uCons, uTup, uLst, uNoPart, uPart, uSl, vSl, uFn, gP, uIsi, uBM, uBM0, gM, gAppend, gPop, uCall, uA0, uA1, gId, gApp, isSeq, isRng, isRng2, uDGet, bodyE, startE, ugName, List.map_cons, List.map_nil, List.length_cons, List.length_nil, List.cons_append, List.nil_append, List.getElem?_cons_zero, List.getElem?_cons_succ, List.set_cons_zero, List.set_cons_succ, List.replicate, Nat.add_one_sub_one, Nat.sub_self, Nat.reduceSub, Nat.reduceAdd, Option.some.injEq, exists_eq_left', exists_eq_left, exists_and_left, true_and, and_true, D.bl.injEq, D.int.injEq, D.str.injEq, D.tup.injEq, D.ref.injEq, Ob.lst.injEq, List.cons.injEq, fTup, if_true, if_false, ite_true, ite_false, Bool.false_eq_true, Bool.true_eq_false, reduceIte, uFld, vFld, uMeth, hd, lk_pair, Ob.ins.injEq]
  refine ⟨hF, nd_pa, d, a, b, rfl, ⟨hd, ha, hb⟩, ?_⟩
  simp only [dAdd, dAddI, dSub, dEq, dNe, dLt, dLe, dGt, dGe, dIs, SL.isNon, dNeg, fLen, lenD, isTy, mLstrip, seqOf, tru, tyOf, Option.map_some, String.reduceEq, usNil, usSeq, usSet, usExpr, usRet, usRetN, usIf, usBrk, usCnt, usAug, usAsg, usDPut, usRaise, usSub, uVar, uC, uBin, uChain, uUn, uTru, uTb, uAnd, uOr, uNot, uAndV, uOrV, uNotV, uIte, uNil, uCons, uTup, uLst, uNoPart, uPart, uSl, vSl, uFn, gP, uIsi, uBM, uBM0, gM, gAppend, gPop, uCall, uA0, uA1, gId, gApp, isSeq, isRng, isRng2, uDGet, bodyE, startE, ugName, List.map_cons, List.map_nil, List.length_cons, List.length_nil, List.cons_append, List.nil_append, List.getElem?_cons_zero, List.getElem?_cons_succ, List.set_cons_zero, List.set_cons_succ, List.replicate, Nat.add_one_sub_one, Nat.sub_self, Nat.reduceSub, Nat.reduceAdd, Option.some.injEq, exists_eq_left', exists_eq_left, exists_and_left, true_and, and_true, D.bl.injEq, D.int.injEq, D.str.injEq, D.tup.injEq, D.ref.injEq, Ob.lst.injEq, List.cons.injEq, fTup, if_true, if_false, ite_true, ite_false, Bool.false_eq_true, Bool.true_eq_false, reduceIte, dIx, atIp]
  refine ⟨_, e, by rw [hp], hls, he, by rw [← hp]; exact lz72 (prs_len ha hb), fun r hr => ?_⟩
  simp only [dAdd, dAddI, dSub, dEq, dNe, dLt, dLe, dGt, dGe, dIs, SL.isNon, dNeg, fLen, lenD, isTy, mLstrip, seqOf, tru, tyOf, Option.map_some, String.reduceEq, usNil, usSeq, usSet, usExpr, usRet, usRetN, usIf, usBrk, usCnt, usAug, usAsg, usDPut, usRaise, usSub, uVar, uC, uBin, uChain, uUn, uTru, uTb, uAnd, uOr, uNot, uAndV, uOrV, uNotV, uIte, uNil, uCons, uTup, uLst, uNoPart, uPart, uSl, vSl, uFn, gP, uIsi, uBM, uBM0, gM, gAppend, gPop, uCall, uA0, uA1, gId, gApp, isSeq, isRng, isRng2, uDGet, bodyE, startE, ugName, List.map_cons, List.map_nil, List.length_cons, List.length_nil, List.cons_append, List.nil_append, List.getElem?_cons_zero, List.getElem?_cons_succ, List.set_cons_zero, List.set_cons_succ, List.replicate, Nat.add_one_sub_one, Nat.sub_self, Nat.reduceSub, Nat.reduceAdd, Option.some.injEq, exists_eq_left', exists_eq_left, exists_and_left, true_and, and_true, D.bl.injEq, D.int.injEq, D.str.injEq, D.tup.injEq, D.ref.injEq, Ob.lst.injEq, List.cons.injEq, fTup, if_true, if_false, ite_true, ite_false, Bool.false_eq_true, Bool.true_eq_false, reduceIte, sup_same]
  intro r2 hr2
  refine ⟨S, (Le.new hr).trans (Le.new hr2), ?_⟩
  rw [cut_from (by decide)]
  exact q
def sp_Disk___len__ (c : Cs) : FS := fun ds S Q X => ∃ d a b l ls e, ds = [.ref d] ∧ Dk c S d a b ∧ prs a b = wl (l :: ls) ++ e ∧ (∀ x ∈ l :: ls, 10 ∉ x) ∧ 10 ∉ e ∧ Q (.int ls.length) S
theorem ok_Disk___len__ {ds : List D} {S : SS} {Q : QN} {X : QX} (h : sp_Disk___len__ c ds S Q X) : u_Disk___len__ K c (sp_Disk_records c) (bodyE Q X) (startE N_Disk___len__ ds) S := by
  obtain ⟨d, a, b, l, ls, e, rfl, ⟨hd, ha, hb⟩, hp, hls, he, q⟩ := h
  unfold u_Disk___len__
  simp only [dAdd, dAddI, dSub, dEq, dNe, dLt, dLe, dGt, dGe, dIs, SL.isNon, dNeg, fLen, lenD, isTy, mLstrip, seqOf, tru, tyOf, Option.map_some, String.reduceEq, usNil, usSeq, usSet, usExpr, usRet, usRetN, usIf, usBrk, usCnt, usAug, usAsg, usDPut, usRaise, usSub, uVar, uC, uBin, uChain, uUn, uTru, uTb, uAnd, uOr, uNot, uAndV, uOrV, uNotV, uIte, uNil, uCons, uTup, uLst, uNoPart, uPart, uSl, vSl, uFn, gP, uIsi, uBM, uBM0, gM, gAppend, gPop, uCall, uA0, uA1, gId, gApp, isSeq, isRng, isRng2, uDGet, bodyE, startE, ugName, List.map_cons, List.map_nil, List.length_cons, List.length_nil, List.cons_append, List.nil_append, List.getElem?_cons_zero, List.getElem?_cons_succ, List.set_cons_zero, List.set_cons_succ, List.replicate, Nat.add_one_sub_one, Nat.sub_self, Nat.reduceSub, Nat.reduceAdd, Option.some.injEq, exists_eq_left', exists_eq_left, exists_and_left, true_and, and_true, D.bl.injEq, D.int.injEq, D.str.injEq, D.tup.injEq, D.ref.injEq, Ob.lst.injEq, List.cons.injEq, fTup, if_true, if_false, ite_true, ite_false, Bool.false_eq_true, Bool.true_eq_false, reduceIte, uMeth, hd, Ob.ins.injEq]
  refine ⟨nd_rec, d, a, b, l, ls, e, rfl, ⟨hd, ha, hb⟩, hp, hls, he, ?_⟩
  simp only [dAdd, dAddI, dSub, dEq, dNe, dLt, dLe, dGt, dGe, dIs, SL.isNon, dNeg, fLen, lenD, isTy, mLstrip, seqOf, tru, tyOf, Option.map_some, String.reduceEq, usNil, usSeq, usSet, usExpr, usRet, usRetN, usIf, usBrk, usCnt, usAug, usAsg, usDPut, usRaise, usSub, uVar, uC, uBin, uChain, uUn, uTru, uTb, uAnd, uOr, uNot, uAndV, uOrV, uNotV, uIte, uNil, uCons, uTup, uLst, uNoPart, uPart, uSl, vSl, uFn, gP, uIsi, uBM, uBM0, gM, gAppend, gPop, uCall, uA0, uA1, gId, gApp, isSeq, isRng, isRng2, uDGet, bodyE, startE, ugName, List.map_cons, List.map_nil, List.length_cons, List.length_nil, List.cons_append, List.nil_append, List.getElem?_cons_zero, List.getElem?_cons_succ, List.set_cons_zero, List.set_cons_succ, List.replicate, Nat.add_one_sub_one, Nat.sub_self, Nat.reduceSub, Nat.reduceAdd, Option.some.injEq, exists_eq_left', exists_eq_left, exists_and_left, true_and, and_true, D.bl.injEq, D.int.injEq, D.str.injEq, D.tup.injEq, D.ref.injEq, Ob.lst.injEq, List.cons.injEq, fTup, if_true, if_false, ite_true, ite_false, Bool.false_eq_true, Bool.true_eq_false, reduceIte, List.length_map]
  exact ⟨S, Le.refl _, q⟩
def sp_Disk_write (c : Cs) : FS := fun ds S Q X => ∃ d a b ls e t cu, ds = [.ref d, .str t, cu] ∧ Dk c S d a b ∧ prs a b = wl ls ++ e ∧ 10 ∉ e ∧ CutOk cu ∧ t.length ≤ 5000000 ∧ (e ≠ [] → X (.ref c.Torn) [("text", .str t)] S) ∧
  (e = [] → Q (.bl (fsg (t ++ [10]) cu == t ++ [10])) (SL.sup S d (.ins c.Disk (putP a b (prs a b ++ fsg (t ++ [10]) cu)))))
theorem pat01 {a b : List Nat} : pat a b = 0 ∨ pat a b = 1 := by unfold pat; split <;> simp
theorem putP_of {a b x : List Nat} : (if pat a b = 0 then dsk x b else dsk a x) = putP a b x := by
  unfold pat putP; split <;> rfl
theorem putO_of {a b x : List Nat} : (if 1 - pat a b = 0 then dsk x b else dsk a x) = putO a b x := by
  unfold pat putO; split <;> rfl
theorem ok_Disk_write {ds : List D} {S : SS} {Q : QN} {X : QX} (hF : FldOk K c.Disk "pair") (h : sp_Disk_write c ds S Q X) : u_Disk_write K c (sp_Disk_present_at c) sp_torn_end sp_first_signs (sp_Disk_put c) (bodyE Q X) (startE N_Disk_write ds) S := by
  obtain ⟨d, a, b, ls, e, t, cu, rfl, ⟨hd, ha, hb⟩, hp, he, hc, ht, q1, q2⟩ := h
  have hl := prs_len ha hb
  unfold u_Disk_write
  simp only [dAdd, dAddI, dSub, dEq, dNe, dLt, dLe, dGt, dGe, dIs, SL.isNon, dNeg, fLen, lenD, isTy, mLstrip, seqOf, tru, tyOf, Option.map_some, String.reduceEq, usNil, usSeq, usSet, usExpr, usRet, usRetN, usIf, usBrk, usCnt, usAug, usAsg, usDPut, usRaise, usSub, uVar, uC, uBin, uChain, uUn, uTru, uTb, uAnd, uOr, uNot, uAndV, uOrV, uNotV, uIte, uNil, uCons, uTup, uLst, uNoPart, uPart, uSl, vSl, uFn, gP, uIsi, uBM, uBM0, gM, gAppend, gPop, uCall, uA0, uA1, gId, gApp, isSeq, isRng, isRng2, uDGet, bodyE, startE, ugName, List.map_cons, List.map_nil, List.length_cons, List.length_nil, List.cons_append, List.nil_append, List.getElem?_cons_zero, List.getElem?_cons_succ, List.set_cons_zero, List.set_cons_succ, List.replicate, Nat.add_one_sub_one, Nat.sub_self, Nat.reduceSub, Nat.reduceAdd, Option.some.injEq, exists_eq_left', exists_eq_left, exists_and_left, true_and, and_true, D.bl.injEq, D.int.injEq, D.str.injEq, D.tup.injEq, D.ref.injEq, Ob.lst.injEq, List.cons.injEq, fTup, if_true, if_false, ite_true, ite_false, Bool.false_eq_true, Bool.true_eq_false, reduceIte, uFld, vFld, uMeth, hd, lk_pair, Ob.ins.injEq]
  refine ⟨nd_pa, d, a, b, rfl, ⟨hd, ha, hb⟩, ?_⟩
  simp only [dAdd, dAddI, dSub, dEq, dNe, dLt, dLe, dGt, dGe, dIs, SL.isNon, dNeg, fLen, lenD, isTy, mLstrip, seqOf, tru, tyOf, Option.map_some, String.reduceEq, usNil, usSeq, usSet, usExpr, usRet, usRetN, usIf, usBrk, usCnt, usAug, usAsg, usDPut, usRaise, usSub, uVar, uC, uBin, uChain, uUn, uTru, uTb, uAnd, uOr, uNot, uAndV, uOrV, uNotV, uIte, uNil, uCons, uTup, uLst, uNoPart, uPart, uSl, vSl, uFn, gP, uIsi, uBM, uBM0, gM, gAppend, gPop, uCall, uA0, uA1, gId, gApp, isSeq, isRng, isRng2, uDGet, bodyE, startE, ugName, List.map_cons, List.map_nil, List.length_cons, List.length_nil, List.cons_append, List.nil_append, List.getElem?_cons_zero, List.getElem?_cons_succ, List.set_cons_zero, List.set_cons_succ, List.replicate, Nat.add_one_sub_one, Nat.sub_self, Nat.reduceSub, Nat.reduceAdd, Option.some.injEq, exists_eq_left', exists_eq_left, exists_and_left, true_and, and_true, D.bl.injEq, D.int.injEq, D.str.injEq, D.tup.injEq, D.ref.injEq, Ob.lst.injEq, List.cons.injEq, fTup, if_true, if_false, ite_true, ite_false, Bool.false_eq_true, Bool.true_eq_false, reduceIte, uFld, vFld, hd, lk_pair, dIx, atIp]
  refine ⟨hF, ls, e, by rw [hp], he, by rw [← hp]; exact lz7 hl, ?_⟩
  simp only [dAdd, dAddI, dSub, dEq, dNe, dLt, dLe, dGt, dGe, dIs, SL.isNon, dNeg, fLen, lenD, isTy, mLstrip, seqOf, tru, tyOf, Option.map_some, String.reduceEq, usNil, usSeq, usSet, usExpr, usRet, usRetN, usIf, usBrk, usCnt, usAug, usAsg, usDPut, usRaise, usSub, uVar, uC, uBin, uChain, uUn, uTru, uTb, uAnd, uOr, uNot, uAndV, uOrV, uNotV, uIte, uNil, uCons, uTup, uLst, uNoPart, uPart, uSl, vSl, uFn, gP, uIsi, uBM, uBM0, gM, gAppend, gPop, uCall, uA0, uA1, gId, gApp, isSeq, isRng, isRng2, uDGet, bodyE, startE, ugName, List.map_cons, List.map_nil, List.length_cons, List.length_nil, List.cons_append, List.nil_append, List.getElem?_cons_zero, List.getElem?_cons_succ, List.set_cons_zero, List.set_cons_succ, List.replicate, Nat.add_one_sub_one, Nat.sub_self, Nat.reduceSub, Nat.reduceAdd, Option.some.injEq, exists_eq_left', exists_eq_left, exists_and_left, true_and, and_true, D.bl.injEq, D.int.injEq, D.str.injEq, D.tup.injEq, D.ref.injEq, Ob.lst.injEq, List.cons.injEq, fTup, if_true, if_false, ite_true, ite_false, Bool.false_eq_true, Bool.true_eq_false, reduceIte, c_em]
  by_cases h0 : e = []
  · have e1 : (e == []) = true := by rw [h0]; rfl
    have z1 : t.length + 1 ≤ sizeLine := by rw [sizeLine_eq]; omega
    simp only [dAdd, dAddI, dSub, dEq, dNe, dLt, dLe, dGt, dGe, dIs, SL.isNon, dNeg, fLen, lenD, isTy, mLstrip, seqOf, tru, tyOf, Option.map_some, String.reduceEq, usNil, usSeq, usSet, usExpr, usRet, usRetN, usIf, usBrk, usCnt, usAug, usAsg, usDPut, usRaise, usSub, uVar, uC, uBin, uChain, uUn, uTru, uTb, uAnd, uOr, uNot, uAndV, uOrV, uNotV, uIte, uNil, uCons, uTup, uLst, uNoPart, uPart, uSl, vSl, uFn, gP, uIsi, uBM, uBM0, gM, gAppend, gPop, uCall, uA0, uA1, gId, gApp, isSeq, isRng, isRng2, uDGet, bodyE, startE, ugName, List.map_cons, List.map_nil, List.length_cons, List.length_nil, List.cons_append, List.nil_append, List.getElem?_cons_zero, List.getElem?_cons_succ, List.set_cons_zero, List.set_cons_succ, List.replicate, Nat.add_one_sub_one, Nat.sub_self, Nat.reduceSub, Nat.reduceAdd, Option.some.injEq, exists_eq_left', exists_eq_left, exists_and_left, true_and, and_true, D.bl.injEq, D.int.injEq, D.str.injEq, D.tup.injEq, D.ref.injEq, Ob.lst.injEq, List.cons.injEq, fTup, if_true, if_false, ite_true, ite_false, Bool.false_eq_true, Bool.true_eq_false, reduceIte, e1, Bool.not_true, c_lf, z1]
    refine ⟨_, cu, rfl, hc, by simp; exact z1, ?_⟩
    have z2 : (prs a b).length + (fsg (t ++ [10]) cu).length ≤ sizeLine := by
      have := fsg_len (x := t ++ [10]) (cu := cu)
      simp at this
      rw [sizeLine_eq]; omega
    simp only [dAdd, dAddI, dSub, dEq, dNe, dLt, dLe, dGt, dGe, dIs, SL.isNon, dNeg, fLen, lenD, isTy, mLstrip, seqOf, tru, tyOf, Option.map_some, String.reduceEq, usNil, usSeq, usSet, usExpr, usRet, usRetN, usIf, usBrk, usCnt, usAug, usAsg, usDPut, usRaise, usSub, uVar, uC, uBin, uChain, uUn, uTru, uTb, uAnd, uOr, uNot, uAndV, uOrV, uNotV, uIte, uNil, uCons, uTup, uLst, uNoPart, uPart, uSl, vSl, uFn, gP, uIsi, uBM, uBM0, gM, gAppend, gPop, uCall, uA0, uA1, gId, gApp, isSeq, isRng, isRng2, uDGet, bodyE, startE, ugName, List.map_cons, List.map_nil, List.length_cons, List.length_nil, List.cons_append, List.nil_append, List.getElem?_cons_zero, List.getElem?_cons_succ, List.set_cons_zero, List.set_cons_succ, List.replicate, Nat.add_one_sub_one, Nat.sub_self, Nat.reduceSub, Nat.reduceAdd, Option.some.injEq, exists_eq_left', exists_eq_left, exists_and_left, true_and, and_true, D.bl.injEq, D.int.injEq, D.str.injEq, D.tup.injEq, D.ref.injEq, Ob.lst.injEq, List.cons.injEq, fTup, if_true, if_false, ite_true, ite_false, Bool.false_eq_true, Bool.true_eq_false, reduceIte, uFld, vFld, uMeth, hd, lk_pair, Ob.ins.injEq, dIx, atIp, z2]
    refine ⟨nd_put, hF, d, a, b, pat a b, _, rfl, ⟨hd, ha, hb⟩, pat01, ?_⟩
    rw [putP_of]
    exact ⟨_, Le.refl _, q2 h0⟩
  · have e1 : (e == []) = false := by rw [beq_eq_false_iff_ne]; exact h0
    simp only [dAdd, dAddI, dSub, dEq, dNe, dLt, dLe, dGt, dGe, dIs, SL.isNon, dNeg, fLen, lenD, isTy, mLstrip, seqOf, tru, tyOf, Option.map_some, String.reduceEq, usNil, usSeq, usSet, usExpr, usRet, usRetN, usIf, usBrk, usCnt, usAug, usAsg, usDPut, usRaise, usSub, uVar, uC, uBin, uChain, uUn, uTru, uTb, uAnd, uOr, uNot, uAndV, uOrV, uNotV, uIte, uNil, uCons, uTup, uLst, uNoPart, uPart, uSl, vSl, uFn, gP, uIsi, uBM, uBM0, gM, gAppend, gPop, uCall, uA0, uA1, gId, gApp, isSeq, isRng, isRng2, uDGet, bodyE, startE, ugName, List.map_cons, List.map_nil, List.length_cons, List.length_nil, List.cons_append, List.nil_append, List.getElem?_cons_zero, List.getElem?_cons_succ, List.set_cons_zero, List.set_cons_succ, List.replicate, Nat.add_one_sub_one, Nat.sub_self, Nat.reduceSub, Nat.reduceAdd, Option.some.injEq, exists_eq_left', exists_eq_left, exists_and_left, true_and, and_true, D.bl.injEq, D.int.injEq, D.str.injEq, D.tup.injEq, D.ref.injEq, Ob.lst.injEq, List.cons.injEq, fTup, if_true, if_false, ite_true, ite_false, Bool.false_eq_true, Bool.true_eq_false, reduceIte, e1, Bool.not_false]
    exact ⟨by decide, S, Le.refl _, q1 h0⟩
def sp_Disk_close (c : Cs) : FS := fun ds S Q X => ∃ d a b t cu, ds = [.ref d, .str t, cu] ∧ Dk c S d a b ∧ CutOk cu ∧ t.length ≤ 5000000 ∧ hn (prs a b) < 1000000000 ∧
  Q (.bl (fsg (dig (hn (prs a b) + 1) ++ [32] ++ t ++ [10]) cu == dig (hn (prs a b) + 1) ++ [32] ++ t ++ [10])) (SL.sup S d (.ins c.Disk (putO a b (fsg (dig (hn (prs a b) + 1) ++ [32] ++ t ++ [10]) cu))))
theorem dig13 {i : Int} (h0 : 0 ≤ i) (h1 : i ≤ 1000000000) : (dig i).length ≤ 13 := by
  obtain ⟨n, rfl⟩ := Int.eq_ofNat_of_zero_le h0
  have : dig (n : Int) = TL.numL n := by
    have := TL.tl_num n
    unfold dig
    rw [← this, ← tx_cs, TL.tl, tx_cps]
  rw [this]
  have := TL.numL_len (n := n) (k := 13) (by decide) (by omega)
  exact this
theorem ok_Disk_close {ds : List D} {S : SS} {Q : QN} {X : QX} (h : sp_Disk_close c ds S Q X) : u_Disk_close K c (sp_Disk_book c) sp_first_signs (sp_Disk_present_at c) (sp_Disk_put c) (bodyE Q X) (startE N_Disk_close ds) S := by
  obtain ⟨d, a, b, t, cu, rfl, ⟨hd, ha, hb⟩, hc, ht, hn9, q⟩ := h
  have hlo := hn_lo (x := prs a b)
  unfold u_Disk_close
  simp only [dAdd, dAddI, dSub, dEq, dNe, dLt, dLe, dGt, dGe, dIs, SL.isNon, dNeg, fLen, lenD, isTy, mLstrip, seqOf, tru, tyOf, Option.map_some, String.reduceEq, usNil, usSeq, usSet, usExpr, usRet, usRetN, usIf, usBrk, usCnt, usAug, usAsg, usDPut, usRaise, usSub, uVar, uC, uBin, uChain, uUn, uTru, uTb, uAnd, uOr, uNot, uAndV, uOrV, uNotV, uIte, uNil, uCons, uTup, uLst, uNoPart, uPart, uSl, vSl, uFn, gP, uIsi, uBM, uBM0, gM, gAppend, gPop, uCall, uA0, uA1, gId, gApp, isSeq, isRng, isRng2, uDGet, bodyE, startE, ugName, List.map_cons, List.map_nil, List.length_cons, List.length_nil, List.cons_append, List.nil_append, List.getElem?_cons_zero, List.getElem?_cons_succ, List.set_cons_zero, List.set_cons_succ, List.replicate, Nat.add_one_sub_one, Nat.sub_self, Nat.reduceSub, Nat.reduceAdd, Option.some.injEq, exists_eq_left', exists_eq_left, exists_and_left, true_and, and_true, D.bl.injEq, D.int.injEq, D.str.injEq, D.tup.injEq, D.ref.injEq, Ob.lst.injEq, List.cons.injEq, fTup, if_true, if_false, ite_true, ite_false, Bool.false_eq_true, Bool.true_eq_false, reduceIte, uMeth, uProp, hd, Ob.ins.injEq]
  refine ⟨d, a, b, rfl, ⟨hd, ha, hb⟩, ?_⟩
  have hlg : (hn (prs a b) + 1).natAbs.log2 < 1920 := by
    have h1 : (hn (prs a b) + 1).natAbs < 2 ^ 40 := by omega
    by_cases z : (hn (prs a b) + 1).natAbs = 0
    · rw [z]; decide
    · have := (Nat.log2_lt z).mpr h1; omega
  have es : fStr S [.int (hn (prs a b) + 1)] = some (.str (dig (hn (prs a b) + 1))) := by
    show (if _ then _ else none) = _
    rw [if_pos hlg]
  have h13 := dig13 (i := hn (prs a b) + 1) (by omega) (by omega)
  have z1 : (dig (hn (prs a b) + 1)).length + 1 ≤ sizeLine := by rw [sizeLine_eq]; omega
  have z2 : (dig (hn (prs a b) + 1) ++ [32]).length + t.length ≤ sizeLine := by rw [sizeLine_eq]; simp; omega
  have z3 : (dig (hn (prs a b) + 1) ++ [32] ++ t).length + 1 ≤ sizeLine := by rw [sizeLine_eq]; simp; omega
  simp only [dAdd, dAddI, dSub, dEq, dNe, dLt, dLe, dGt, dGe, dIs, SL.isNon, dNeg, fLen, lenD, isTy, mLstrip, seqOf, tru, tyOf, Option.map_some, String.reduceEq, usNil, usSeq, usSet, usExpr, usRet, usRetN, usIf, usBrk, usCnt, usAug, usAsg, usDPut, usRaise, usSub, uVar, uC, uBin, uChain, uUn, uTru, uTb, uAnd, uOr, uNot, uAndV, uOrV, uNotV, uIte, uNil, uCons, uTup, uLst, uNoPart, uPart, uSl, vSl, uFn, gP, uIsi, uBM, uBM0, gM, gAppend, gPop, uCall, uA0, uA1, gId, gApp, isSeq, isRng, isRng2, uDGet, bodyE, startE, ugName, List.map_cons, List.map_nil, List.length_cons, List.length_nil, List.cons_append, List.nil_append, List.getElem?_cons_zero, List.getElem?_cons_succ, List.set_cons_zero, List.set_cons_succ, List.replicate, Nat.add_one_sub_one, Nat.sub_self, Nat.reduceSub, Nat.reduceAdd, Option.some.injEq, exists_eq_left', exists_eq_left, exists_and_left, true_and, and_true, D.bl.injEq, D.int.injEq, D.str.injEq, D.tup.injEq, D.ref.injEq, Ob.lst.injEq, List.cons.injEq, fTup, if_true, if_false, ite_true, ite_false, Bool.false_eq_true, Bool.true_eq_false, reduceIte, es, c_sp, c_lf, z1, z2, z3]
  refine ⟨_, cu, rfl, hc, by rw [sizeLine_eq]; simp; omega, ?_⟩
  simp only [dAdd, dAddI, dSub, dEq, dNe, dLt, dLe, dGt, dGe, dIs, SL.isNon, dNeg, fLen, lenD, isTy, mLstrip, seqOf, tru, tyOf, Option.map_some, String.reduceEq, usNil, usSeq, usSet, usExpr, usRet, usRetN, usIf, usBrk, usCnt, usAug, usAsg, usDPut, usRaise, usSub, uVar, uC, uBin, uChain, uUn, uTru, uTb, uAnd, uOr, uNot, uAndV, uOrV, uNotV, uIte, uNil, uCons, uTup, uLst, uNoPart, uPart, uSl, vSl, uFn, gP, uIsi, uBM, uBM0, gM, gAppend, gPop, uCall, uA0, uA1, gId, gApp, isSeq, isRng, isRng2, uDGet, bodyE, startE, ugName, List.map_cons, List.map_nil, List.length_cons, List.length_nil, List.cons_append, List.nil_append, List.getElem?_cons_zero, List.getElem?_cons_succ, List.set_cons_zero, List.set_cons_succ, List.replicate, Nat.add_one_sub_one, Nat.sub_self, Nat.reduceSub, Nat.reduceAdd, Option.some.injEq, exists_eq_left', exists_eq_left, exists_and_left, true_and, and_true, D.bl.injEq, D.int.injEq, D.str.injEq, D.tup.injEq, D.ref.injEq, Ob.lst.injEq, List.cons.injEq, fTup, if_true, if_false, ite_true, ite_false, Bool.false_eq_true, Bool.true_eq_false, reduceIte, uMeth, hd, Ob.ins.injEq]
  refine ⟨nd_put, nd_pa, d, a, b, rfl, ⟨hd, ha, hb⟩, ?_⟩
  simp only [dAdd, dAddI, dSub, dEq, dNe, dLt, dLe, dGt, dGe, dIs, SL.isNon, dNeg, fLen, lenD, isTy, mLstrip, seqOf, tru, tyOf, Option.map_some, String.reduceEq, usNil, usSeq, usSet, usExpr, usRet, usRetN, usIf, usBrk, usCnt, usAug, usAsg, usDPut, usRaise, usSub, uVar, uC, uBin, uChain, uUn, uTru, uTb, uAnd, uOr, uNot, uAndV, uOrV, uNotV, uIte, uNil, uCons, uTup, uLst, uNoPart, uPart, uSl, vSl, uFn, gP, uIsi, uBM, uBM0, gM, gAppend, gPop, uCall, uA0, uA1, gId, gApp, isSeq, isRng, isRng2, uDGet, bodyE, startE, ugName, List.map_cons, List.map_nil, List.length_cons, List.length_nil, List.cons_append, List.nil_append, List.getElem?_cons_zero, List.getElem?_cons_succ, List.set_cons_zero, List.set_cons_succ, List.replicate, Nat.add_one_sub_one, Nat.sub_self, Nat.reduceSub, Nat.reduceAdd, Option.some.injEq, exists_eq_left', exists_eq_left, exists_and_left, true_and, and_true, D.bl.injEq, D.int.injEq, D.str.injEq, D.tup.injEq, D.ref.injEq, Ob.lst.injEq, List.cons.injEq, fTup, if_true, if_false, ite_true, ite_false, Bool.false_eq_true, Bool.true_eq_false, reduceIte]
  refine ⟨d, a, b, 1 - pat a b, _, rfl, ⟨hd, ha, hb⟩, (by rcases pat01 (a := a) (b := b) with z | z <;> rw [z] <;> simp), ?_⟩
  rw [putO_of]
  exact ⟨_, Le.refl _, q⟩
def sp_Disk_mend (c : Cs) : FS := fun ds S Q X => ∃ d a b ls e, ds = [.ref d] ∧ Dk c S d a b ∧ prs a b = wl ls ++ e ∧ 10 ∉ e ∧ Q (.bl (!(e == []))) (SL.sup S d (.ins c.Disk (putP a b (wl ls))))
theorem ok_Disk_mend {ds : List D} {S : SS} {Q : QN} {X : QX} (hF : FldOk K c.Disk "pair") (h : sp_Disk_mend c ds S Q X) : u_Disk_mend K c (sp_Disk_present_at c) sp_torn_end (sp_Disk_put c) (bodyE Q X) (startE N_Disk_mend ds) S := by
  obtain ⟨d, a, b, ls, e, rfl, ⟨hd, ha, hb⟩, hp, he, q⟩ := h
  have hl := prs_len ha hb
  have hl2 := hl
  rw [hp, List.length_append] at hl2
  unfold u_Disk_mend
  simp only [dAdd, dAddI, dSub, dEq, dNe, dLt, dLe, dGt, dGe, dIs, SL.isNon, dNeg, fLen, lenD, isTy, mLstrip, seqOf, tru, tyOf, Option.map_some, String.reduceEq, usNil, usSeq, usSet, usExpr, usRet, usRetN, usIf, usBrk, usCnt, usAug, usAsg, usDPut, usRaise, usSub, uVar, uC, uBin, uChain, uUn, uTru, uTb, uAnd, uOr, uNot, uAndV, uOrV, uNotV, uIte, uNil, uCons, uTup, uLst, uNoPart, uPart, uSl, vSl, uFn, gP, uIsi, uBM, uBM0, gM, gAppend, gPop, uCall, uA0, uA1, gId, gApp, isSeq, isRng, isRng2, uDGet, bodyE, startE, ugName, List.map_cons, List.map_nil, List.length_cons, List.length_nil, List.cons_append, List.nil_append, List.getElem?_cons_zero, List.getElem?_cons_succ, List.set_cons_zero, List.set_cons_succ, List.replicate, Nat.add_one_sub_one, Nat.sub_self, Nat.reduceSub, Nat.reduceAdd, Option.some.injEq, exists_eq_left', exists_eq_left, exists_and_left, true_and, and_true, D.bl.injEq, D.int.injEq, D.str.injEq, D.tup.injEq, D.ref.injEq, Ob.lst.injEq, List.cons.injEq, fTup, if_true, if_false, ite_true, ite_false, Bool.false_eq_true, Bool.true_eq_false, reduceIte, uFld, vFld, uMeth, hd, lk_pair, Ob.ins.injEq]
  refine ⟨nd_pa, d, a, b, rfl, ⟨hd, ha, hb⟩, ?_⟩
  simp only [dAdd, dAddI, dSub, dEq, dNe, dLt, dLe, dGt, dGe, dIs, SL.isNon, dNeg, fLen, lenD, isTy, mLstrip, seqOf, tru, tyOf, Option.map_some, String.reduceEq, usNil, usSeq, usSet, usExpr, usRet, usRetN, usIf, usBrk, usCnt, usAug, usAsg, usDPut, usRaise, usSub, uVar, uC, uBin, uChain, uUn, uTru, uTb, uAnd, uOr, uNot, uAndV, uOrV, uNotV, uIte, uNil, uCons, uTup, uLst, uNoPart, uPart, uSl, vSl, uFn, gP, uIsi, uBM, uBM0, gM, gAppend, gPop, uCall, uA0, uA1, gId, gApp, isSeq, isRng, isRng2, uDGet, bodyE, startE, ugName, List.map_cons, List.map_nil, List.length_cons, List.length_nil, List.cons_append, List.nil_append, List.getElem?_cons_zero, List.getElem?_cons_succ, List.set_cons_zero, List.set_cons_succ, List.replicate, Nat.add_one_sub_one, Nat.sub_self, Nat.reduceSub, Nat.reduceAdd, Option.some.injEq, exists_eq_left', exists_eq_left, exists_and_left, true_and, and_true, D.bl.injEq, D.int.injEq, D.str.injEq, D.tup.injEq, D.ref.injEq, Ob.lst.injEq, List.cons.injEq, fTup, if_true, if_false, ite_true, ite_false, Bool.false_eq_true, Bool.true_eq_false, reduceIte, uFld, vFld, hd, lk_pair, dIx, atIp]
  refine ⟨hF, ls, e, by rw [hp], he, by rw [← hp]; exact lz7 hl, ?_⟩
  have z1 : (prs a b).length ≤ sizeLine := lz7 hl
  have z2 : e.length ≤ sizeLine := by rw [sizeLine_eq]; omega
  simp only [dAdd, dAddI, dSub, dEq, dNe, dLt, dLe, dGt, dGe, dIs, SL.isNon, dNeg, fLen, lenD, isTy, mLstrip, seqOf, tru, tyOf, Option.map_some, String.reduceEq, usNil, usSeq, usSet, usExpr, usRet, usRetN, usIf, usBrk, usCnt, usAug, usAsg, usDPut, usRaise, usSub, uVar, uC, uBin, uChain, uUn, uTru, uTb, uAnd, uOr, uNot, uAndV, uOrV, uNotV, uIte, uNil, uCons, uTup, uLst, uNoPart, uPart, uSl, vSl, uFn, gP, uIsi, uBM, uBM0, gM, gAppend, gPop, uCall, uA0, uA1, gId, gApp, isSeq, isRng, isRng2, uDGet, bodyE, startE, ugName, List.map_cons, List.map_nil, List.length_cons, List.length_nil, List.cons_append, List.nil_append, List.getElem?_cons_zero, List.getElem?_cons_succ, List.set_cons_zero, List.set_cons_succ, List.replicate, Nat.add_one_sub_one, Nat.sub_self, Nat.reduceSub, Nat.reduceAdd, Option.some.injEq, exists_eq_left', exists_eq_left, exists_and_left, true_and, and_true, D.bl.injEq, D.int.injEq, D.str.injEq, D.tup.injEq, D.ref.injEq, Ob.lst.injEq, List.cons.injEq, fTup, if_true, if_false, ite_true, ite_false, Bool.false_eq_true, Bool.true_eq_false, reduceIte, uMeth, hd, Ob.ins.injEq, z1, z2, c_em]
  refine ⟨nd_put, d, a, b, pat a b, _, rfl, ⟨hd, ha, hb⟩, pat01, ?_⟩
  rw [putP_of, cut_to (by rw [hp, List.length_append]; omega)]
  have e1 : (prs a b).take ((prs a b).length - e.length : Int).toNat = wl ls := by
    rw [hp]
    have : ((wl ls ++ e).length - e.length : Int).toNat = (wl ls).length := by rw [List.length_append]; omega
    rw [this, List.take_left]
  rw [e1]
  exact ⟨_, Le.refl _, q⟩
def sp_Disk___init__ (c : Cs) : FS := fun ds S Q X => ∃ p t, ds = [.ref p, .str t] ∧ S p = some (.ins c.Disk []) ∧ t.length ≤ 5000000 ∧ Q .non (SL.sup S p (.ins c.Disk (dsk ([48, 32] ++ t ++ [10]) [])))
theorem ok_Disk___init__ {ds : List D} {S : SS} {Q : QN} {X : QX} (hF : FldOk K c.Disk "pair") (h : sp_Disk___init__ c ds S Q X) : u_Disk___init__ K c (bodyE Q X) (startE N_Disk___init__ ds) S := by
  obtain ⟨p, t, rfl, hp, ht, q⟩ := h
  unfold u_Disk___init__
  have y1 : 2 + t.length ≤ sizeLine := by rw [sizeLine_eq]; omega
  have y2 : ([48, 32] ++ t).length + 1 ≤ sizeLine := by rw [sizeLine_eq]; simp; omega
  have y3 : ((48 : Nat) :: 32 :: t).length + 1 ≤ sizeLine := by rw [sizeLine_eq]; simp; omega
  have y4 : t.length + 1 + 1 + 1 ≤ sizeLine := by rw [sizeLine_eq]; omega
  simp only [dAdd, dAddI, dSub, dEq, dNe, dLt, dLe, dGt, dGe, dIs, SL.isNon, dNeg, fLen, lenD, isTy, mLstrip, seqOf, tru, tyOf, Option.map_some, String.reduceEq, usNil, usSeq, usSet, usExpr, usRet, usRetN, usIf, usBrk, usCnt, usAug, usAsg, usDPut, usRaise, usSub, uVar, uC, uBin, uChain, uUn, uTru, uTb, uAnd, uOr, uNot, uAndV, uOrV, uNotV, uIte, uNil, uCons, uTup, uLst, uNoPart, uPart, uSl, vSl, uFn, gP, uIsi, uBM, uBM0, gM, gAppend, gPop, uCall, uA0, uA1, gId, gApp, isSeq, isRng, isRng2, uDGet, bodyE, startE, ugName, List.map_cons, List.map_nil, List.length_cons, List.length_nil, List.cons_append, List.nil_append, List.getElem?_cons_zero, List.getElem?_cons_succ, List.set_cons_zero, List.set_cons_succ, List.replicate, Nat.add_one_sub_one, Nat.sub_self, Nat.reduceSub, Nat.reduceAdd, Option.some.injEq, exists_eq_left', exists_eq_left, exists_and_left, true_and, and_true, D.bl.injEq, D.int.injEq, D.str.injEq, D.tup.injEq, D.ref.injEq, Ob.lst.injEq, List.cons.injEq, fTup, if_true, if_false, ite_true, ite_false, Bool.false_eq_true, Bool.true_eq_false, reduceIte, usFld, vPut, hp, c_zs, c_lf, c_em, y1, y2, y3, y4]
  exact ⟨z2, hF, by decide, _, Le.refl _, q⟩
end K82

set_option Elab.async false
set_option linter.all false
set_option maxRecDepth 100000
set_option maxHeartbeats 4000000
namespace K82
open PySem PySem.Spec L2 SL NumText
variable {K : PySem.W.Frag} {c : Cs}
def sp_Disk_of_places (c : Cs) : FS := fun ds S Q X => ∃ v a b, ds = [.ref c.Disk, v] ∧ seqOf S v = some [.str a, .str b] ∧ a.length ≤ 10000000 ∧ b.length ≤ 10000000 ∧ ((0 ≤ hn a ∨ 0 ≤ hn b) → ∀ p, S p = none → Q (.ref p) (SL.sup S p (.ins c.Disk (dsk a b)))) ∧
  (hn a < 0 → hn b < 0 → X (.ref c.BadBook) [("texts", .tup [.str a, .str b])] S)
theorem ok_Disk_of_places {ds : List D} {S : SS} {Q : QN} {X : QX} (hF : FldOk K c.Disk "pair") (h : sp_Disk_of_places c ds S Q X) : u_Disk_of_places K c sp_head_number (sp_Disk___init__ c) (bodyE Q X) (startE N_Disk_of_places ds) S := by
  obtain ⟨v, a, b, rfl, hv, ha, hb, q, qx⟩ := h
  unfold u_Disk_of_places
  simp only [dAdd, dAddI, dSub, dEq, dNe, dLt, dLe, dGt, dGe, dIs, SL.isNon, dNeg, fLen, lenD, isTy, mLstrip, seqOf, tru, tyOf, Option.map_some, String.reduceEq, usNil, usSeq, usSet, usExpr, usRet, usRetN, usIf, usBrk, usCnt, usAug, usAsg, usDPut, usRaise, usSub, uVar, uC, uBin, uChain, uUn, uTru, uTb, uAnd, uOr, uNot, uAndV, uOrV, uNotV, uIte, uNil, uCons, uTup, uLst, uNoPart, uPart, uSl, vSl, uFn, gP, uIsi, uBM, uBM0, gM, gAppend, gPop, uCall, uA0, uA1, gId, gApp, isSeq, isRng, isRng2, uDGet, bodyE, startE, ugName, List.map_cons, List.map_nil, List.length_cons, List.length_nil, List.cons_append, List.nil_append, List.getElem?_cons_zero, List.getElem?_cons_succ, List.set_cons_zero, List.set_cons_succ, List.replicate, Nat.add_one_sub_one, Nat.sub_self, Nat.reduceSub, Nat.reduceAdd, Option.some.injEq, exists_eq_left', exists_eq_left, exists_and_left, true_and, and_true, D.bl.injEq, D.int.injEq, D.str.injEq, D.tup.injEq, D.ref.injEq, Ob.lst.injEq, List.cons.injEq, fTup, if_true, if_false, ite_true, ite_false, Bool.false_eq_true, Bool.true_eq_false, reduceIte, ugTup, ugCons, ugNil, hv]
  refine ⟨[.str a, .str b], hv, .str a, _, rfl, .str b, _, rfl, rfl, a, rfl, lz7 ha, ?_⟩
  have k : (0 ≤ hn a ∨ 0 ≤ hn b) → usSeq (usSet 4 (uMakeV 0 c.Disk (sp_Disk___init__ c) gId (uA1 1 (uCons (uC (.str (cs ""))) uNil)))) (usSeq (usFld K "pair" (uVar 4) (uTup (uCons (uVar 2) (uCons (uVar 3) uNil)))) (usRet (uVar 4))) (bodyE Q X) [some (.ref c.Disk), some v, some (.str a), some (.str b), none] S := by
    intro hok
    simp only [dAdd, dAddI, dSub, dEq, dNe, dLt, dLe, dGt, dGe, dIs, SL.isNon, dNeg, fLen, lenD, isTy, mLstrip, seqOf, tru, tyOf, Option.map_some, String.reduceEq, usNil, usSeq, usSet, usExpr, usRet, usRetN, usIf, usBrk, usCnt, usAug, usAsg, usDPut, usRaise, usSub, uVar, uC, uBin, uChain, uUn, uTru, uTb, uAnd, uOr, uNot, uAndV, uOrV, uNotV, uIte, uNil, uCons, uTup, uLst, uNoPart, uPart, uSl, vSl, uFn, gP, uIsi, uBM, uBM0, gM, gAppend, gPop, uCall, uA0, uA1, gId, gApp, isSeq, isRng, isRng2, uDGet, bodyE, startE, ugName, List.map_cons, List.map_nil, List.length_cons, List.length_nil, List.cons_append, List.nil_append, List.getElem?_cons_zero, List.getElem?_cons_succ, List.set_cons_zero, List.set_cons_succ, List.replicate, Nat.add_one_sub_one, Nat.sub_self, Nat.reduceSub, Nat.reduceAdd, Option.some.injEq, exists_eq_left', exists_eq_left, exists_and_left, true_and, and_true, D.bl.injEq, D.int.injEq, D.str.injEq, D.tup.injEq, D.ref.injEq, Ob.lst.injEq, List.cons.injEq, fTup, if_true, if_false, ite_true, ite_false, Bool.false_eq_true, Bool.true_eq_false, reduceIte, uMakeV, uMake]
    intro p hp
    refine ⟨p, _, rfl, sup_same, by rw [c_em]; decide, rfl, ?_⟩
    simp only [dAdd, dAddI, dSub, dEq, dNe, dLt, dLe, dGt, dGe, dIs, SL.isNon, dNeg, fLen, lenD, isTy, mLstrip, seqOf, tru, tyOf, Option.map_some, String.reduceEq, usNil, usSeq, usSet, usExpr, usRet, usRetN, usIf, usBrk, usCnt, usAug, usAsg, usDPut, usRaise, usSub, uVar, uC, uBin, uChain, uUn, uTru, uTb, uAnd, uOr, uNot, uAndV, uOrV, uNotV, uIte, uNil, uCons, uTup, uLst, uNoPart, uPart, uSl, vSl, uFn, gP, uIsi, uBM, uBM0, gM, gAppend, gPop, uCall, uA0, uA1, gId, gApp, isSeq, isRng, isRng2, uDGet, bodyE, startE, ugName, List.map_cons, List.map_nil, List.length_cons, List.length_nil, List.cons_append, List.nil_append, List.getElem?_cons_zero, List.getElem?_cons_succ, List.set_cons_zero, List.set_cons_succ, List.replicate, Nat.add_one_sub_one, Nat.sub_self, Nat.reduceSub, Nat.reduceAdd, Option.some.injEq, exists_eq_left', exists_eq_left, exists_and_left, true_and, and_true, D.bl.injEq, D.int.injEq, D.str.injEq, D.tup.injEq, D.ref.injEq, Ob.lst.injEq, List.cons.injEq, fTup, if_true, if_false, ite_true, ite_false, Bool.false_eq_true, Bool.true_eq_false, reduceIte, usFld, vPut, sup_same, put_pair, dsk_len]
    refine ⟨z2, hF, _, Le.refl _, ?_⟩
    rw [sup_sup, sup_sup]
    exact q hok p hp
  simp only [dAdd, dAddI, dSub, dEq, dNe, dLt, dLe, dGt, dGe, dIs, SL.isNon, dNeg, fLen, lenD, isTy, mLstrip, seqOf, tru, tyOf, Option.map_some, String.reduceEq, usNil, usSeq, usSet, usExpr, usRet, usRetN, usIf, usBrk, usCnt, usAug, usAsg, usDPut, usRaise, usSub, uVar, uC, uBin, uChain, uUn, uTru, uTb, uAnd, uOr, uNot, uAndV, uOrV, uNotV, uIte, uNil, uCons, uTup, uLst, uNoPart, uPart, uSl, vSl, uFn, gP, uIsi, uBM, uBM0, gM, gAppend, gPop, uCall, uA0, uA1, gId, gApp, isSeq, isRng, isRng2, uDGet, bodyE, startE, ugName, List.map_cons, List.map_nil, List.length_cons, List.length_nil, List.cons_append, List.nil_append, List.getElem?_cons_zero, List.getElem?_cons_succ, List.set_cons_zero, List.set_cons_succ, List.replicate, Nat.add_one_sub_one, Nat.sub_self, Nat.reduceSub, Nat.reduceAdd, Option.some.injEq, exists_eq_left', exists_eq_left, exists_and_left, true_and, and_true, D.bl.injEq, D.int.injEq, D.str.injEq, D.tup.injEq, D.ref.injEq, Ob.lst.injEq, List.cons.injEq, fTup, if_true, if_false, ite_true, ite_false, Bool.false_eq_true, Bool.true_eq_false, reduceIte]
  by_cases h1 : hn a < 0
  · simp only [decide_eq_true h1, if_true]
    refine ⟨b, rfl, lz7 hb, ?_⟩
    by_cases h2 : hn b < 0
    · simp only [dAdd, dAddI, dSub, dEq, dNe, dLt, dLe, dGt, dGe, dIs, SL.isNon, dNeg, fLen, lenD, isTy, mLstrip, seqOf, tru, tyOf, Option.map_some, String.reduceEq, usNil, usSeq, usSet, usExpr, usRet, usRetN, usIf, usBrk, usCnt, usAug, usAsg, usDPut, usRaise, usSub, uVar, uC, uBin, uChain, uUn, uTru, uTb, uAnd, uOr, uNot, uAndV, uOrV, uNotV, uIte, uNil, uCons, uTup, uLst, uNoPart, uPart, uSl, vSl, uFn, gP, uIsi, uBM, uBM0, gM, gAppend, gPop, uCall, uA0, uA1, gId, gApp, isSeq, isRng, isRng2, uDGet, bodyE, startE, ugName, List.map_cons, List.map_nil, List.length_cons, List.length_nil, List.cons_append, List.nil_append, List.getElem?_cons_zero, List.getElem?_cons_succ, List.set_cons_zero, List.set_cons_succ, List.replicate, Nat.add_one_sub_one, Nat.sub_self, Nat.reduceSub, Nat.reduceAdd, Option.some.injEq, exists_eq_left', exists_eq_left, exists_and_left, true_and, and_true, D.bl.injEq, D.int.injEq, D.str.injEq, D.tup.injEq, D.ref.injEq, Ob.lst.injEq, List.cons.injEq, fTup, if_true, if_false, ite_true, ite_false, Bool.false_eq_true, Bool.true_eq_false, reduceIte, decide_eq_true h2]
      exact ⟨z2, by decide, S, Le.refl _, qx h1 h2⟩
    · simp only [dAdd, dAddI, dSub, dEq, dNe, dLt, dLe, dGt, dGe, dIs, SL.isNon, dNeg, fLen, lenD, isTy, mLstrip, seqOf, tru, tyOf, Option.map_some, String.reduceEq, usNil, usSeq, usSet, usExpr, usRet, usRetN, usIf, usBrk, usCnt, usAug, usAsg, usDPut, usRaise, usSub, uVar, uC, uBin, uChain, uUn, uTru, uTb, uAnd, uOr, uNot, uAndV, uOrV, uNotV, uIte, uNil, uCons, uTup, uLst, uNoPart, uPart, uSl, vSl, uFn, gP, uIsi, uBM, uBM0, gM, gAppend, gPop, uCall, uA0, uA1, gId, gApp, isSeq, isRng, isRng2, uDGet, bodyE, startE, ugName, List.map_cons, List.map_nil, List.length_cons, List.length_nil, List.cons_append, List.nil_append, List.getElem?_cons_zero, List.getElem?_cons_succ, List.set_cons_zero, List.set_cons_succ, List.replicate, Nat.add_one_sub_one, Nat.sub_self, Nat.reduceSub, Nat.reduceAdd, Option.some.injEq, exists_eq_left', exists_eq_left, exists_and_left, true_and, and_true, D.bl.injEq, D.int.injEq, D.str.injEq, D.tup.injEq, D.ref.injEq, Ob.lst.injEq, List.cons.injEq, fTup, if_true, if_false, ite_true, ite_false, Bool.false_eq_true, Bool.true_eq_false, reduceIte, decide_eq_false h2]
      simpa only [dAdd, dAddI, dSub, dEq, dNe, dLt, dLe, dGt, dGe, dIs, SL.isNon, dNeg, fLen, lenD, isTy, mLstrip, seqOf, tru, tyOf, Option.map_some, String.reduceEq, usNil, usSeq, usSet, usExpr, usRet, usRetN, usIf, usBrk, usCnt, usAug, usAsg, usDPut, usRaise, usSub, uVar, uC, uBin, uChain, uUn, uTru, uTb, uAnd, uOr, uNot, uAndV, uOrV, uNotV, uIte, uNil, uCons, uTup, uLst, uNoPart, uPart, uSl, vSl, uFn, gP, uIsi, uBM, uBM0, gM, gAppend, gPop, uCall, uA0, uA1, gId, gApp, isSeq, isRng, isRng2, uDGet, bodyE, startE, ugName, List.map_cons, List.map_nil, List.length_cons, List.length_nil, List.cons_append, List.nil_append, List.getElem?_cons_zero, List.getElem?_cons_succ, List.set_cons_zero, List.set_cons_succ, List.replicate, Nat.add_one_sub_one, Nat.sub_self, Nat.reduceSub, Nat.reduceAdd, Option.some.injEq, exists_eq_left', exists_eq_left, exists_and_left, true_and, and_true, D.bl.injEq, D.int.injEq, D.str.injEq, D.tup.injEq, D.ref.injEq, Ob.lst.injEq, List.cons.injEq, fTup, if_true, if_false, ite_true, ite_false, Bool.false_eq_true, Bool.true_eq_false, reduceIte] using k (.inr (by omega))
  · simp only [decide_eq_false h1]
    simpa only [dAdd, dAddI, dSub, dEq, dNe, dLt, dLe, dGt, dGe, dIs, SL.isNon, dNeg, fLen, lenD, isTy, mLstrip, seqOf, tru, tyOf, Option.map_some, String.reduceEq, usNil, usSeq, usSet, usExpr, usRet, usRetN, usIf, usBrk, usCnt, usAug, usAsg, usDPut, usRaise, usSub, uVar, uC, uBin, uChain, uUn, uTru, uTb, uAnd, uOr, uNot, uAndV, uOrV, uNotV, uIte, uNil, uCons, uTup, uLst, uNoPart, uPart, uSl, vSl, uFn, gP, uIsi, uBM, uBM0, gM, gAppend, gPop, uCall, uA0, uA1, gId, gApp, isSeq, isRng, isRng2, uDGet, bodyE, startE, ugName, List.map_cons, List.map_nil, List.length_cons, List.length_nil, List.cons_append, List.nil_append, List.getElem?_cons_zero, List.getElem?_cons_succ, List.set_cons_zero, List.set_cons_succ, List.replicate, Nat.add_one_sub_one, Nat.sub_self, Nat.reduceSub, Nat.reduceAdd, Option.some.injEq, exists_eq_left', exists_eq_left, exists_and_left, true_and, and_true, D.bl.injEq, D.int.injEq, D.str.injEq, D.tup.injEq, D.ref.injEq, Ob.lst.injEq, List.cons.injEq, fTup, if_true, if_false, ite_true, ite_false, Bool.false_eq_true, Bool.true_eq_false, reduceIte] using k (.inl (by omega))
/-! ### _law_head -/
/-- what stands behind the first blank of the first line -/
def htx (x : List Nat) : List Nat := (((x.takeWhile (· ≠ 10)).dropWhile (· ≠ 32))).drop 1
def hd (x : List Nat) : D := if 0 ≤ hn x then .tup [.int (hn x), .str (htx x)] else .non
theorem tw10 {L R : List Nat} (h : 10 ∉ L) : (L ++ 10 :: R).takeWhile (· ≠ 10) = L := by
  induction L with
  | nil => simp
  | cons a L ih =>
    simp only [List.mem_cons, not_or] at h
    rw [List.cons_append, List.takeWhile_cons, if_pos (by simpa using fun z => h.1 z.symm), ih h.2]
theorem dw32 {p r : List Nat} (h : 32 ∉ p) : (p ++ 32 :: r).dropWhile (· ≠ 32) = 32 :: r := by
  induction p with
  | nil => simp
  | cons a L ih =>
    simp only [List.mem_cons, not_or] at h
    rw [List.cons_append, List.dropWhile_cons, if_pos (by simpa using fun z => h.1 z.symm), ih h.2]
theorem htx_at {p h R : List Nat} (h32 : 32 ∉ p) (h10 : 10 ∉ p ++ 32 :: h) : htx ((p ++ 32 :: h) ++ 10 :: R) = h := by
  unfold htx; rw [tw10 h10, dw32 h32]; rfl
/-- the number of the first line's head -/
theorem hn_line {p h R : List Nat} (h32 : 32 ∉ p) : hn ((p ++ 32 :: h) ++ 10 :: R) = if NumP p then (NumText.digitsVal p : Int) else -1 := by
  rw [List.append_assoc, List.cons_append, hn_at h32]
  congr 1
  simp
theorem hn_noblank {L R : List Nat} (h : 32 ∉ L) : hn (L ++ 10 :: R) = -1 := by
  unfold hn
  rw [if_neg]
  rintro ⟨h1, _, h2⟩
  have h32 : 32 ∈ R := by
    rcases List.mem_append.mp h1 with z | z
    · exact (h z).elim
    · simpa using z
  obtain ⟨q, r, e, hq⟩ := mem_split1 h32
  have e2 : L ++ 10 :: R = (L ++ 10 :: q) ++ 32 :: r := by rw [e]; simp
  rw [e2, tw_at (by simp; exact ⟨h, hq⟩)] at h2
  have := h2.2.2.1 10 (by simp)
  omega
theorem val_num {p : List Nat} (h : NumP p) : (0 : Int) ≤ (NumText.digitsVal p : Int) := by omega
/-- the signs are looked at -/
theorem hd_for {Z : EndsS} {S : SS} {e0 e1 e2 e3 : Option D} : ∀ (p : List Nat) (e4 : Option D), ((∀ a ∈ p, 48 ≤ a ∧ a ≤ 57) → ∀ e4, Z.nx [e0, e1, e2, e3, e4] S) → ((∃ a ∈ p, ¬ (48 ≤ a ∧ a ≤ 57)) → Z.rt .non S) →
    forL (ugName 4) (usIf (uTb (uBin dNotIn1 (uVar 4) (uC (.str (cs "0123456789"))))) (usRet (uC .non)) usNil) (fun _ => True) Z (p.map fun a => D.str [a]) [e0, e1, e2, e3, e4] S
  | [], e4, k, _ => ⟨trivial, k (fun a h => by cases h) e4⟩
  | a :: p, e4, k, k2 => by
    refine ⟨trivial, ?_⟩
    have el : dNotIn1 S (.str [a]) (.str (cs "0123456789")) = some (.bl (!decide (a ∈ FIG))) := rfl
    simp only [dAdd, dAddI, dSub, dEq, dNe, dLt, dLe, dGt, dGe, dIs, SL.isNon, dNeg, fLen, lenD, isTy, mLstrip, seqOf, tru, tyOf, Option.map_some, String.reduceEq, usNil, usSeq, usSet, usExpr, usRet, usRetN, usIf, usBrk, usCnt, usAug, usAsg, usDPut, usRaise, usSub, uVar, uC, uBin, uChain, uUn, uTru, uTb, uAnd, uOr, uNot, uAndV, uOrV, uNotV, uIte, uNil, uCons, uTup, uLst, uNoPart, uPart, uSl, vSl, uFn, gP, uIsi, uBM, uBM0, gM, gAppend, gPop, uCall, uA0, uA1, gId, gApp, isSeq, isRng, isRng2, uDGet, bodyE, startE, ugName, List.map_cons, List.map_nil, List.length_cons, List.length_nil, List.cons_append, List.nil_append, List.getElem?_cons_zero, List.getElem?_cons_succ, List.set_cons_zero, List.set_cons_succ, List.replicate, Nat.add_one_sub_one, Nat.sub_self, Nat.reduceSub, Nat.reduceAdd, Option.some.injEq, exists_eq_left', exists_eq_left, exists_and_left, true_and, and_true, D.bl.injEq, D.int.injEq, D.str.injEq, D.tup.injEq, D.ref.injEq, Ob.lst.injEq, List.cons.injEq, fTup, if_true, if_false, ite_true, ite_false, Bool.false_eq_true, Bool.true_eq_false, reduceIte, el]
    by_cases h : a ∈ FIG
    · simp only [h, decide_true, Bool.not_true, Bool.false_eq_true, if_false]
      exact hd_for p _ (fun h2 => k (fun b hb => (List.mem_cons.mp hb).elim (fun z => z ▸ fig_iff.mp h) (fun z => h2 b z))) (fun ⟨b, hb, n⟩ => k2 ⟨b, List.mem_cons_of_mem _ hb, n⟩)
    · simp only [h, decide_false, Bool.not_false, if_true]
      exact k2 ⟨a, List.mem_cons_self .., fun z => h (fig_iff.mpr z)⟩
def sp__law_head : FS := fun ds S Q X => ∃ x, ds = [.str x] ∧ x.length ≤ 10000000 ∧ Q (hd x) S
theorem head_body {x : List Nat} {S : SS} {Q : QN} {X : QX} (hl : x.length ≤ 10000000) (q : Q (hd x) S) : u__law_head K c (bodyE Q X) (startE N__law_head [.str x]) S := by
  have no : hn x = -1 → ∃ S1, Le S1 S ∧ Q .non S1 := fun e => ⟨S, Le.refl _, by unfold hd at q; rw [if_neg (by omega)] at q; exact q⟩
  unfold u__law_head
  simp only [dAdd, dAddI, dSub, dEq, dNe, dLt, dLe, dGt, dGe, dIs, SL.isNon, dNeg, fLen, lenD, isTy, mLstrip, seqOf, tru, tyOf, Option.map_some, String.reduceEq, usNil, usSeq, usSet, usExpr, usRet, usRetN, usIf, usBrk, usCnt, usAug, usAsg, usDPut, usRaise, usSub, uVar, uC, uBin, uChain, uUn, uTru, uTb, uAnd, uOr, uNot, uAndV, uOrV, uNotV, uIte, uNil, uCons, uTup, uLst, uNoPart, uPart, uSl, vSl, uFn, gP, uIsi, uBM, uBM0, gM, gAppend, gPop, uCall, uA0, uA1, gId, gApp, isSeq, isRng, isRng2, uDGet, bodyE, startE, ugName, List.map_cons, List.map_nil, List.length_cons, List.length_nil, List.cons_append, List.nil_append, List.getElem?_cons_zero, List.getElem?_cons_succ, List.set_cons_zero, List.set_cons_succ, List.replicate, Nat.add_one_sub_one, Nat.sub_self, Nat.reduceSub, Nat.reduceAdd, Option.some.injEq, exists_eq_left', exists_eq_left, exists_and_left, true_and, and_true, D.bl.injEq, D.int.injEq, D.str.injEq, D.tup.injEq, D.ref.injEq, Ob.lst.injEq, List.cons.injEq, fTup, if_true, if_false, ite_true, ite_false, Bool.false_eq_true, Bool.true_eq_false, reduceIte, Ob.ins.injEq, Ob.dic.injEq, usFor, uMeth, uProp, uLenI, uMake, uCMeth, uLc, vSeq, uA2, uA3, gNon, sup_same, sup_sup, dIx, dNot, dIsNot, Bool.not_true, Bool.not_false, c_lf, mFind]
  by_cases h10 : (10 : Nat) ∈ x
  · obtain ⟨L, R, e, hL⟩ := mem_split1 h10
    have hf : sFind x [10] = L.length := by rw [e, find_at hL]
    have hLl : L.length ≤ 10000000 := by rw [e, List.length_append] at hl; omega
    have hls : x.length ≤ sizeLine := lz7 hl
    have hLs : L.length ≤ sizeLine := lz7 hLl
    have hcut : cut x none (some ((L.length : Nat) : Int)) = L := by rw [cut_to (by omega), e]; simp
    have n0 : decide ((L.length : Int) < 0) = false := by simp
    simp only [dAdd, dAddI, dSub, dEq, dNe, dLt, dLe, dGt, dGe, dIs, SL.isNon, dNeg, fLen, lenD, isTy, mLstrip, seqOf, tru, tyOf, Option.map_some, String.reduceEq, usNil, usSeq, usSet, usExpr, usRet, usRetN, usIf, usBrk, usCnt, usAug, usAsg, usDPut, usRaise, usSub, uVar, uC, uBin, uChain, uUn, uTru, uTb, uAnd, uOr, uNot, uAndV, uOrV, uNotV, uIte, uNil, uCons, uTup, uLst, uNoPart, uPart, uSl, vSl, uFn, gP, uIsi, uBM, uBM0, gM, gAppend, gPop, uCall, uA0, uA1, gId, gApp, isSeq, isRng, isRng2, uDGet, bodyE, startE, ugName, List.map_cons, List.map_nil, List.length_cons, List.length_nil, List.cons_append, List.nil_append, List.getElem?_cons_zero, List.getElem?_cons_succ, List.set_cons_zero, List.set_cons_succ, List.replicate, Nat.add_one_sub_one, Nat.sub_self, Nat.reduceSub, Nat.reduceAdd, Option.some.injEq, exists_eq_left', exists_eq_left, exists_and_left, true_and, and_true, D.bl.injEq, D.int.injEq, D.str.injEq, D.tup.injEq, D.ref.injEq, Ob.lst.injEq, List.cons.injEq, fTup, if_true, if_false, ite_true, ite_false, Bool.false_eq_true, Bool.true_eq_false, reduceIte, Ob.ins.injEq, Ob.dic.injEq, usFor, uMeth, uProp, uLenI, uMake, uCMeth, uLc, vSeq, uA2, uA3, gNon, sup_same, sup_sup, dIx, dNot, dIsNot, Bool.not_true, Bool.not_false, hf, n0, hls, hcut, c_sp, mFind]
    by_cases h32 : (32 : Nat) ∈ L
    · obtain ⟨p, h, eL, hp⟩ := mem_split1 h32
      have hf2 : sFind L [32] = p.length := by rw [eL, find_at hp]
      have hnx : hn x = if NumP p then (NumText.digitsVal p : Int) else -1 := by rw [e, eL, hn_line hp]
      have hhx : htx x = h := by rw [e, eL]; exact htx_at hp (by rw [← eL]; exact hL)
      have hc2 : cut L none (some ((p.length : Nat) : Int)) = p := by rw [cut_to (by omega), eL]; simp
      have hc3 : cut L (some ((p.length : Nat) + 1 : Int)) none = h := by
        rw [cut_from (by omega), eL]
        have : ((p.length : Int) + 1).toNat = p.length + 1 := by omega
        rw [this, ← List.drop_drop]; simp
      have hc4 : cut L none (some 1) = L.take 1 := cut_to (by decide)
      simp only [dAdd, dAddI, dSub, dEq, dNe, dLt, dLe, dGt, dGe, dIs, SL.isNon, dNeg, fLen, lenD, isTy, mLstrip, seqOf, tru, tyOf, Option.map_some, String.reduceEq, usNil, usSeq, usSet, usExpr, usRet, usRetN, usIf, usBrk, usCnt, usAug, usAsg, usDPut, usRaise, usSub, uVar, uC, uBin, uChain, uUn, uTru, uTb, uAnd, uOr, uNot, uAndV, uOrV, uNotV, uIte, uNil, uCons, uTup, uLst, uNoPart, uPart, uSl, vSl, uFn, gP, uIsi, uBM, uBM0, gM, gAppend, gPop, uCall, uA0, uA1, gId, gApp, isSeq, isRng, isRng2, uDGet, bodyE, startE, ugName, List.map_cons, List.map_nil, List.length_cons, List.length_nil, List.cons_append, List.nil_append, List.getElem?_cons_zero, List.getElem?_cons_succ, List.set_cons_zero, List.set_cons_succ, List.replicate, Nat.add_one_sub_one, Nat.sub_self, Nat.reduceSub, Nat.reduceAdd, Option.some.injEq, exists_eq_left', exists_eq_left, exists_and_left, true_and, and_true, D.bl.injEq, D.int.injEq, D.str.injEq, D.tup.injEq, D.ref.injEq, Ob.lst.injEq, List.cons.injEq, fTup, if_true, if_false, ite_true, ite_false, Bool.false_eq_true, Bool.true_eq_false, reduceIte, Ob.ins.injEq, Ob.dic.injEq, usFor, uMeth, uProp, uLenI, uMake, uCMeth, uLc, vSeq, uA2, uA3, gNon, sup_same, sup_sup, dIx, dNot, dIsNot, Bool.not_true, Bool.not_false, hf2, hLs, hc4, c_z]
      by_cases a1 : (p.length : Int) < 1
      · simp only [decide_eq_true a1, if_true]
        refine no ?_
        rw [hnx, if_neg]; rintro ⟨z, _⟩; omega
      · simp only [decide_eq_false a1, Bool.false_eq_true, if_false]
        by_cases a2 : (9 : Int) < p.length
        · simp only [decide_eq_true a2, if_true]
          refine no ?_
          rw [hnx, if_neg]; rintro ⟨_, z, _⟩; omega
        · simp only [decide_eq_false a2, Bool.false_eq_true, if_false]
          have go : (p.head? = some 48 → p.length = 1) → usSeq (usFor (isSeq (uSl (uVar 2) uNoPart (uPart (uVar 3)))) (ugName 4) (usIf (uTb (uBin dNotIn1 (uVar 4) (uC (.str (cs "0123456789"))))) (usRet (uC .non)) usNil))
              (usRet (uTup (uCons (uFn (gP fInt) (uCons (uSl (uVar 2) uNoPart (uPart (uVar 3))) uNil)) (uCons (uSl (uVar 2) (uPart (uBin dAdd (uVar 3) (uC (.int 1)))) uNoPart) uNil)))) (bodyE Q X) [some (.str x), some (.int L.length), some (.str L), some (.int p.length), none] S := by
            intro hz
            simp only [dAdd, dAddI, dSub, dEq, dNe, dLt, dLe, dGt, dGe, dIs, SL.isNon, dNeg, fLen, lenD, isTy, mLstrip, seqOf, tru, tyOf, Option.map_some, String.reduceEq, usNil, usSeq, usSet, usExpr, usRet, usRetN, usIf, usBrk, usCnt, usAug, usAsg, usDPut, usRaise, usSub, uVar, uC, uBin, uChain, uUn, uTru, uTb, uAnd, uOr, uNot, uAndV, uOrV, uNotV, uIte, uNil, uCons, uTup, uLst, uNoPart, uPart, uSl, vSl, uFn, gP, uIsi, uBM, uBM0, gM, gAppend, gPop, uCall, uA0, uA1, gId, gApp, isSeq, isRng, isRng2, uDGet, bodyE, startE, ugName, List.map_cons, List.map_nil, List.length_cons, List.length_nil, List.cons_append, List.nil_append, List.getElem?_cons_zero, List.getElem?_cons_succ, List.set_cons_zero, List.set_cons_succ, List.replicate, Nat.add_one_sub_one, Nat.sub_self, Nat.reduceSub, Nat.reduceAdd, Option.some.injEq, exists_eq_left', exists_eq_left, exists_and_left, true_and, and_true, D.bl.injEq, D.int.injEq, D.str.injEq, D.tup.injEq, D.ref.injEq, Ob.lst.injEq, List.cons.injEq, fTup, if_true, if_false, ite_true, ite_false, Bool.false_eq_true, Bool.true_eq_false, reduceIte, Ob.ins.injEq, Ob.dic.injEq, usFor, uMeth, uProp, uLenI, uMake, uCMeth, uLc, vSeq, uA2, uA3, gNon, sup_same, sup_sup, dIx, dNot, dIsNot, Bool.not_true, Bool.not_false, hLs, hc2]
            refine hd_for p none (fun hall e4 => ?_) (fun ⟨a, ha, hna⟩ => ?_)
            · have hne : p ≠ [] := fun z => by rw [z] at a1; simp at a1
              have hnum : NumP p := ⟨by omega, by omega, hall, hz⟩
              have hint : fInt S [.str p] = some (.int (NumText.digitsVal p)) := by
                show (if _ then _ else none) = _
                rw [if_pos (by omega), intText_digits (x := tx p) (by rw [tx_cps]; exact hall) (by rw [tx_cps]; exact hne) (by rw [tx_len]; omega), tx_cps]
                rfl
              simp only [dAdd, dAddI, dSub, dEq, dNe, dLt, dLe, dGt, dGe, dIs, SL.isNon, dNeg, fLen, lenD, isTy, mLstrip, seqOf, tru, tyOf, Option.map_some, String.reduceEq, usNil, usSeq, usSet, usExpr, usRet, usRetN, usIf, usBrk, usCnt, usAug, usAsg, usDPut, usRaise, usSub, uVar, uC, uBin, uChain, uUn, uTru, uTb, uAnd, uOr, uNot, uAndV, uOrV, uNotV, uIte, uNil, uCons, uTup, uLst, uNoPart, uPart, uSl, vSl, uFn, gP, uIsi, uBM, uBM0, gM, gAppend, gPop, uCall, uA0, uA1, gId, gApp, isSeq, isRng, isRng2, uDGet, bodyE, startE, ugName, List.map_cons, List.map_nil, List.length_cons, List.length_nil, List.cons_append, List.nil_append, List.getElem?_cons_zero, List.getElem?_cons_succ, List.set_cons_zero, List.set_cons_succ, List.replicate, Nat.add_one_sub_one, Nat.sub_self, Nat.reduceSub, Nat.reduceAdd, Option.some.injEq, exists_eq_left', exists_eq_left, exists_and_left, true_and, and_true, D.bl.injEq, D.int.injEq, D.str.injEq, D.tup.injEq, D.ref.injEq, Ob.lst.injEq, List.cons.injEq, fTup, if_true, if_false, ite_true, ite_false, Bool.false_eq_true, Bool.true_eq_false, reduceIte, Ob.ins.injEq, Ob.dic.injEq, usFor, uMeth, uProp, uLenI, uMake, uCMeth, uLc, vSeq, uA2, uA3, gNon, sup_same, sup_sup, dIx, dNot, dIsNot, Bool.not_true, Bool.not_false, hLs, hc2, hint, hc3]
              refine ⟨z2, S, Le.refl _, ?_⟩
              rw [if_pos hnum] at hnx
              unfold hd at q
              rw [if_pos (by rw [hnx]; omega), hnx, hhx] at q
              exact q
            · refine no ?_
              rw [hnx, if_neg]; rintro ⟨_, _, z, _⟩; exact hna (z a ha)
          simp only [dAdd, dAddI, dSub, dEq, dNe, dLt, dLe, dGt, dGe, dIs, SL.isNon, dNeg, fLen, lenD, isTy, mLstrip, seqOf, tru, tyOf, Option.map_some, String.reduceEq, usNil, usSeq, usSet, usExpr, usRet, usRetN, usIf, usBrk, usCnt, usAug, usAsg, usDPut, usRaise, usSub, uVar, uC, uBin, uChain, uUn, uTru, uTb, uAnd, uOr, uNot, uAndV, uOrV, uNotV, uIte, uNil, uCons, uTup, uLst, uNoPart, uPart, uSl, vSl, uFn, gP, uIsi, uBM, uBM0, gM, gAppend, gPop, uCall, uA0, uA1, gId, gApp, isSeq, isRng, isRng2, uDGet, bodyE, startE, ugName, List.map_cons, List.map_nil, List.length_cons, List.length_nil, List.cons_append, List.nil_append, List.getElem?_cons_zero, List.getElem?_cons_succ, List.set_cons_zero, List.set_cons_succ, List.replicate, Nat.add_one_sub_one, Nat.sub_self, Nat.reduceSub, Nat.reduceAdd, Option.some.injEq, exists_eq_left', exists_eq_left, exists_and_left, true_and, and_true, D.bl.injEq, D.int.injEq, D.str.injEq, D.tup.injEq, D.ref.injEq, Ob.lst.injEq, List.cons.injEq, fTup, if_true, if_false, ite_true, ite_false, Bool.false_eq_true, Bool.true_eq_false, reduceIte, Ob.ins.injEq, Ob.dic.injEq, usFor, uMeth, uProp, uLenI, uMake, uCMeth, uLc, vSeq, uA2, uA3, gNon, sup_same, sup_sup, dIx, dNot, dIsNot, Bool.not_true, Bool.not_false, hLs] at go
          by_cases a3 : (1 : Int) < p.length
          · simp only [decide_eq_true a3, if_true]
            by_cases a4 : L.take 1 = [48]
            · have b4 : (L.take 1 == [48]) = true := by rw [a4]; rfl
              simp only [b4, if_true]
              refine no ?_
              rw [hnx, if_neg]
              rintro ⟨_, _, _, z⟩
              have : p.head? = some 48 := by
                cases p with
                | nil => simp at a3
                | cons b t => rw [eL] at a4; simp at a4; rw [a4]; rfl
              have := z this; omega
            · have b4 : (L.take 1 == [48]) = false := beq_eq_false_iff_ne.mpr a4
              simp only [b4, Bool.false_eq_true, if_false]
              refine go fun z => ?_
              cases p with
              | nil => simp at z
              | cons b t => simp at z; exact (a4 (by rw [eL, z]; rfl)).elim
          · simp only [decide_eq_false a3, Bool.false_eq_true, if_false]
            exact go fun _ => by omega
    · have hf2 : sFind L [32] = -1 := find_none h32
      simp only [dAdd, dAddI, dSub, dEq, dNe, dLt, dLe, dGt, dGe, dIs, SL.isNon, dNeg, fLen, lenD, isTy, mLstrip, seqOf, tru, tyOf, Option.map_some, String.reduceEq, usNil, usSeq, usSet, usExpr, usRet, usRetN, usIf, usBrk, usCnt, usAug, usAsg, usDPut, usRaise, usSub, uVar, uC, uBin, uChain, uUn, uTru, uTb, uAnd, uOr, uNot, uAndV, uOrV, uNotV, uIte, uNil, uCons, uTup, uLst, uNoPart, uPart, uSl, vSl, uFn, gP, uIsi, uBM, uBM0, gM, gAppend, gPop, uCall, uA0, uA1, gId, gApp, isSeq, isRng, isRng2, uDGet, bodyE, startE, ugName, List.map_cons, List.map_nil, List.length_cons, List.length_nil, List.cons_append, List.nil_append, List.getElem?_cons_zero, List.getElem?_cons_succ, List.set_cons_zero, List.set_cons_succ, List.replicate, Nat.add_one_sub_one, Nat.sub_self, Nat.reduceSub, Nat.reduceAdd, Option.some.injEq, exists_eq_left', exists_eq_left, exists_and_left, true_and, and_true, D.bl.injEq, D.int.injEq, D.str.injEq, D.tup.injEq, D.ref.injEq, Ob.lst.injEq, List.cons.injEq, fTup, if_true, if_false, ite_true, ite_false, Bool.false_eq_true, Bool.true_eq_false, reduceIte, Ob.ins.injEq, Ob.dic.injEq, usFor, uMeth, uProp, uLenI, uMake, uCMeth, uLc, vSeq, uA2, uA3, gNon, sup_same, sup_sup, dIx, dNot, dIsNot, Bool.not_true, Bool.not_false, hf2, hLs, show decide ((-1 : Int) < 1) = true by decide]
      exact no (by rw [e]; exact hn_noblank h32)
  · have hf : sFind x [10] = -1 := find_none h10
    simp only [dAdd, dAddI, dSub, dEq, dNe, dLt, dLe, dGt, dGe, dIs, SL.isNon, dNeg, fLen, lenD, isTy, mLstrip, seqOf, tru, tyOf, Option.map_some, String.reduceEq, usNil, usSeq, usSet, usExpr, usRet, usRetN, usIf, usBrk, usCnt, usAug, usAsg, usDPut, usRaise, usSub, uVar, uC, uBin, uChain, uUn, uTru, uTb, uAnd, uOr, uNot, uAndV, uOrV, uNotV, uIte, uNil, uCons, uTup, uLst, uNoPart, uPart, uSl, vSl, uFn, gP, uIsi, uBM, uBM0, gM, gAppend, gPop, uCall, uA0, uA1, gId, gApp, isSeq, isRng, isRng2, uDGet, bodyE, startE, ugName, List.map_cons, List.map_nil, List.length_cons, List.length_nil, List.cons_append, List.nil_append, List.getElem?_cons_zero, List.getElem?_cons_succ, List.set_cons_zero, List.set_cons_succ, List.replicate, Nat.add_one_sub_one, Nat.sub_self, Nat.reduceSub, Nat.reduceAdd, Option.some.injEq, exists_eq_left', exists_eq_left, exists_and_left, true_and, and_true, D.bl.injEq, D.int.injEq, D.str.injEq, D.tup.injEq, D.ref.injEq, Ob.lst.injEq, List.cons.injEq, fTup, if_true, if_false, ite_true, ite_false, Bool.false_eq_true, Bool.true_eq_false, reduceIte, Ob.ins.injEq, Ob.dic.injEq, usFor, uMeth, uProp, uLenI, uMake, uCMeth, uLc, vSeq, uA2, uA3, gNon, sup_same, sup_sup, dIx, dNot, dIsNot, Bool.not_true, Bool.not_false, hf, show decide ((-1 : Int) < 0) = true by decide]
    exact no (hn_nolf h10)
theorem ok_law_head {ds : List D} {S : SS} {Q : QN} {X : QX} (h : sp__law_head ds S Q X) : u__law_head K c (bodyE Q X) (startE N__law_head ds) S := by
  obtain ⟨x, rfl, hl, q⟩ := h
  exact head_body hl q
theorem ok_law_headH {ds : List D} {S : SS} {Q : QN} {X : QX} (h : sp__law_head ds S Q X) : uH__law_head K c (bodyE Q X) (startE N__law_head ds) S := by
  obtain ⟨x, rfl, hl, q⟩ := h
  exact head_body (K := K) (c := c) hl q
theorem hd_neg {x : List Nat} (h : hn x < 0) : hd x = .non := by unfold hd; rw [if_neg (by omega)]
theorem hd_pos {x : List Nat} (h : 0 ≤ hn x) : hd x = .tup [.int (hn x), .str (htx x)] := by unfold hd; rw [if_pos h]
/-! ### _law_present, _law_torn -/
def pre (a b : List Nat) : Int := if hn a < 0 ∧ hn b < 0 then -1 else pat a b
def sp__law_present : FS := fun ds S Q X => ∃ p a b, ds = [.ref p] ∧ S p = some (.lst [.str a, .str b]) ∧ a.length ≤ 10000000 ∧ b.length ≤ 10000000 ∧ Q (.int (pre a b)) S
theorem ok_law_present {ds : List D} {S : SS} {Q : QN} {X : QX} (h : sp__law_present ds S Q X) : u__law_present K c sp__law_head (bodyE Q X) (startE N__law_present ds) S := by
  obtain ⟨p, a, b, rfl, hp, ha, hb, q⟩ := h
  have e_ : ∀ {i : Int}, i = pre a b → ∃ S', Le S' S ∧ Q (.int i) S' := fun e => ⟨S, Le.refl _, by rw [e]; exact q⟩
  have l1 := hn_lo (x := a); have l2 := hn_lo (x := b)
  unfold u__law_present
  simp only [dAdd, dAddI, dSub, dEq, dNe, dLt, dLe, dGt, dGe, dIs, SL.isNon, dNeg, fLen, lenD, isTy, mLstrip, seqOf, tru, tyOf, Option.map_some, String.reduceEq, usNil, usSeq, usSet, usExpr, usRet, usRetN, usIf, usBrk, usCnt, usAug, usAsg, usDPut, usRaise, usSub, uVar, uC, uBin, uChain, uUn, uTru, uTb, uAnd, uOr, uNot, uAndV, uOrV, uNotV, uIte, uNil, uCons, uTup, uLst, uNoPart, uPart, uSl, vSl, uFn, gP, uIsi, uBM, uBM0, gM, gAppend, gPop, uCall, uA0, uA1, gId, gApp, isSeq, isRng, isRng2, uDGet, bodyE, startE, ugName, List.map_cons, List.map_nil, List.length_cons, List.length_nil, List.cons_append, List.nil_append, List.getElem?_cons_zero, List.getElem?_cons_succ, List.set_cons_zero, List.set_cons_succ, List.replicate, Nat.add_one_sub_one, Nat.sub_self, Nat.reduceSub, Nat.reduceAdd, Option.some.injEq, exists_eq_left', exists_eq_left, exists_and_left, true_and, and_true, D.bl.injEq, D.int.injEq, D.str.injEq, D.tup.injEq, D.ref.injEq, Ob.lst.injEq, List.cons.injEq, fTup, if_true, if_false, ite_true, ite_false, Bool.false_eq_true, Bool.true_eq_false, reduceIte, Ob.ins.injEq, Ob.dic.injEq, usFor, uMeth, uProp, uLenI, uMake, uCMeth, uLc, vSeq, uA2, uA3, gNon, sup_same, sup_sup, dIx, dNot, dIsNot, Bool.not_true, Bool.not_false, hp, atI0, atI1]
  refine ⟨a, rfl, ha, ?_⟩
  simp only [dAdd, dAddI, dSub, dEq, dNe, dLt, dLe, dGt, dGe, dIs, SL.isNon, dNeg, fLen, lenD, isTy, mLstrip, seqOf, tru, tyOf, Option.map_some, String.reduceEq, usNil, usSeq, usSet, usExpr, usRet, usRetN, usIf, usBrk, usCnt, usAug, usAsg, usDPut, usRaise, usSub, uVar, uC, uBin, uChain, uUn, uTru, uTb, uAnd, uOr, uNot, uAndV, uOrV, uNotV, uIte, uNil, uCons, uTup, uLst, uNoPart, uPart, uSl, vSl, uFn, gP, uIsi, uBM, uBM0, gM, gAppend, gPop, uCall, uA0, uA1, gId, gApp, isSeq, isRng, isRng2, uDGet, bodyE, startE, ugName, List.map_cons, List.map_nil, List.length_cons, List.length_nil, List.cons_append, List.nil_append, List.getElem?_cons_zero, List.getElem?_cons_succ, List.set_cons_zero, List.set_cons_succ, List.replicate, Nat.add_one_sub_one, Nat.sub_self, Nat.reduceSub, Nat.reduceAdd, Option.some.injEq, exists_eq_left', exists_eq_left, exists_and_left, true_and, and_true, D.bl.injEq, D.int.injEq, D.str.injEq, D.tup.injEq, D.ref.injEq, Ob.lst.injEq, List.cons.injEq, fTup, if_true, if_false, ite_true, ite_false, Bool.false_eq_true, Bool.true_eq_false, reduceIte, Ob.ins.injEq, Ob.dic.injEq, usFor, uMeth, uProp, uLenI, uMake, uCMeth, uLc, vSeq, uA2, uA3, gNon, sup_same, sup_sup, dIx, dNot, dIsNot, Bool.not_true, Bool.not_false, hp, atI0, atI1]
  refine ⟨b, rfl, hb, ?_⟩
  by_cases h1 : hn a < 0
  · rw [hd_neg h1]
    by_cases h2 : hn b < 0
    · rw [hd_neg h2]
      simp only [dAdd, dAddI, dSub, dEq, dNe, dLt, dLe, dGt, dGe, dIs, SL.isNon, dNeg, fLen, lenD, isTy, mLstrip, seqOf, tru, tyOf, Option.map_some, String.reduceEq, usNil, usSeq, usSet, usExpr, usRet, usRetN, usIf, usBrk, usCnt, usAug, usAsg, usDPut, usRaise, usSub, uVar, uC, uBin, uChain, uUn, uTru, uTb, uAnd, uOr, uNot, uAndV, uOrV, uNotV, uIte, uNil, uCons, uTup, uLst, uNoPart, uPart, uSl, vSl, uFn, gP, uIsi, uBM, uBM0, gM, gAppend, gPop, uCall, uA0, uA1, gId, gApp, isSeq, isRng, isRng2, uDGet, bodyE, startE, ugName, List.map_cons, List.map_nil, List.length_cons, List.length_nil, List.cons_append, List.nil_append, List.getElem?_cons_zero, List.getElem?_cons_succ, List.set_cons_zero, List.set_cons_succ, List.replicate, Nat.add_one_sub_one, Nat.sub_self, Nat.reduceSub, Nat.reduceAdd, Option.some.injEq, exists_eq_left', exists_eq_left, exists_and_left, true_and, and_true, D.bl.injEq, D.int.injEq, D.str.injEq, D.tup.injEq, D.ref.injEq, Ob.lst.injEq, List.cons.injEq, fTup, if_true, if_false, ite_true, ite_false, Bool.false_eq_true, Bool.true_eq_false, reduceIte, Ob.ins.injEq, Ob.dic.injEq, usFor, uMeth, uProp, uLenI, uMake, uCMeth, uLc, vSeq, uA2, uA3, gNon, sup_same, sup_sup, dIx, dNot, dIsNot, Bool.not_true, Bool.not_false]
      exact e_ (by unfold pre; rw [if_pos ⟨h1, h2⟩])
    · rw [hd_pos (by omega)]
      simp only [dAdd, dAddI, dSub, dEq, dNe, dLt, dLe, dGt, dGe, dIs, SL.isNon, dNeg, fLen, lenD, isTy, mLstrip, seqOf, tru, tyOf, Option.map_some, String.reduceEq, usNil, usSeq, usSet, usExpr, usRet, usRetN, usIf, usBrk, usCnt, usAug, usAsg, usDPut, usRaise, usSub, uVar, uC, uBin, uChain, uUn, uTru, uTb, uAnd, uOr, uNot, uAndV, uOrV, uNotV, uIte, uNil, uCons, uTup, uLst, uNoPart, uPart, uSl, vSl, uFn, gP, uIsi, uBM, uBM0, gM, gAppend, gPop, uCall, uA0, uA1, gId, gApp, isSeq, isRng, isRng2, uDGet, bodyE, startE, ugName, List.map_cons, List.map_nil, List.length_cons, List.length_nil, List.cons_append, List.nil_append, List.getElem?_cons_zero, List.getElem?_cons_succ, List.set_cons_zero, List.set_cons_succ, List.replicate, Nat.add_one_sub_one, Nat.sub_self, Nat.reduceSub, Nat.reduceAdd, Option.some.injEq, exists_eq_left', exists_eq_left, exists_and_left, true_and, and_true, D.bl.injEq, D.int.injEq, D.str.injEq, D.tup.injEq, D.ref.injEq, Ob.lst.injEq, List.cons.injEq, fTup, if_true, if_false, ite_true, ite_false, Bool.false_eq_true, Bool.true_eq_false, reduceIte, Ob.ins.injEq, Ob.dic.injEq, usFor, uMeth, uProp, uLenI, uMake, uCMeth, uLc, vSeq, uA2, uA3, gNon, sup_same, sup_sup, dIx, dNot, dIsNot, Bool.not_true, Bool.not_false]
      exact e_ (by unfold pre pat; rw [if_neg (fun z => h2 z.2), if_pos (by omega)])
  · rw [hd_pos (by omega)]
    by_cases h2 : hn b < 0
    · rw [hd_neg h2]
      simp only [dAdd, dAddI, dSub, dEq, dNe, dLt, dLe, dGt, dGe, dIs, SL.isNon, dNeg, fLen, lenD, isTy, mLstrip, seqOf, tru, tyOf, Option.map_some, String.reduceEq, usNil, usSeq, usSet, usExpr, usRet, usRetN, usIf, usBrk, usCnt, usAug, usAsg, usDPut, usRaise, usSub, uVar, uC, uBin, uChain, uUn, uTru, uTb, uAnd, uOr, uNot, uAndV, uOrV, uNotV, uIte, uNil, uCons, uTup, uLst, uNoPart, uPart, uSl, vSl, uFn, gP, uIsi, uBM, uBM0, gM, gAppend, gPop, uCall, uA0, uA1, gId, gApp, isSeq, isRng, isRng2, uDGet, bodyE, startE, ugName, List.map_cons, List.map_nil, List.length_cons, List.length_nil, List.cons_append, List.nil_append, List.getElem?_cons_zero, List.getElem?_cons_succ, List.set_cons_zero, List.set_cons_succ, List.replicate, Nat.add_one_sub_one, Nat.sub_self, Nat.reduceSub, Nat.reduceAdd, Option.some.injEq, exists_eq_left', exists_eq_left, exists_and_left, true_and, and_true, D.bl.injEq, D.int.injEq, D.str.injEq, D.tup.injEq, D.ref.injEq, Ob.lst.injEq, List.cons.injEq, fTup, if_true, if_false, ite_true, ite_false, Bool.false_eq_true, Bool.true_eq_false, reduceIte, Ob.ins.injEq, Ob.dic.injEq, usFor, uMeth, uProp, uLenI, uMake, uCMeth, uLc, vSeq, uA2, uA3, gNon, sup_same, sup_sup, dIx, dNot, dIsNot, Bool.not_true, Bool.not_false]
      exact e_ (by unfold pre pat; rw [if_neg (fun z => h1 z.1), if_neg (by omega)])
    · rw [hd_pos (by omega)]
      simp only [dAdd, dAddI, dSub, dEq, dNe, dLt, dLe, dGt, dGe, dIs, SL.isNon, dNeg, fLen, lenD, isTy, mLstrip, seqOf, tru, tyOf, Option.map_some, String.reduceEq, usNil, usSeq, usSet, usExpr, usRet, usRetN, usIf, usBrk, usCnt, usAug, usAsg, usDPut, usRaise, usSub, uVar, uC, uBin, uChain, uUn, uTru, uTb, uAnd, uOr, uNot, uAndV, uOrV, uNotV, uIte, uNil, uCons, uTup, uLst, uNoPart, uPart, uSl, vSl, uFn, gP, uIsi, uBM, uBM0, gM, gAppend, gPop, uCall, uA0, uA1, gId, gApp, isSeq, isRng, isRng2, uDGet, bodyE, startE, ugName, List.map_cons, List.map_nil, List.length_cons, List.length_nil, List.cons_append, List.nil_append, List.getElem?_cons_zero, List.getElem?_cons_succ, List.set_cons_zero, List.set_cons_succ, List.replicate, Nat.add_one_sub_one, Nat.sub_self, Nat.reduceSub, Nat.reduceAdd, Option.some.injEq, exists_eq_left', exists_eq_left, exists_and_left, true_and, and_true, D.bl.injEq, D.int.injEq, D.str.injEq, D.tup.injEq, D.ref.injEq, Ob.lst.injEq, List.cons.injEq, fTup, if_true, if_false, ite_true, ite_false, Bool.false_eq_true, Bool.true_eq_false, reduceIte, Ob.ins.injEq, Ob.dic.injEq, usFor, uMeth, uProp, uLenI, uMake, uCMeth, uLc, vSeq, uA2, uA3, gNon, sup_same, sup_sup, dIx, dNot, dIsNot, Bool.not_true, Bool.not_false, atI0]
      by_cases h3 : hn b ≤ hn a
      · simp only [decide_eq_true h3, if_true]
        exact e_ (by unfold pre pat; rw [if_neg (fun z => h1 z.1), if_neg (by omega)])
      · simp only [decide_eq_false h3, Bool.false_eq_true, if_false]
        exact e_ (by unfold pre pat; rw [if_neg (fun z => h1 z.1), if_pos (by omega)])
def sp_presentH : FS := fun ds S Q X => ∃ p a b, ds = [.ref p] ∧ S p = some (.lst [.str a, .str b]) ∧ a.length ≤ 10000000 ∧ b.length ≤ 10000000 ∧ Q (.int (pre a b)) S
theorem hH {n : Nat} {d : D} {sp : FS} {S : SS} {Q : QN} {ra : UA} {env : En} {X : QX} (h : ra env S (fun ds S1 => ds.length = n ∧ sp ds S1 Q noX) X) : uCallH n sp ra env S Q X := h
theorem ok_law_presentH {ds : List D} {S : SS} {Q : QN} {X : QX} (h : sp__law_present ds S Q X) : uH__law_present K c sp__law_head (bodyE Q X) (startE N__law_present ds) S := by
  obtain ⟨p, a, b, rfl, hp, ha, hb, q⟩ := h
  have e_ : ∀ {i : Int}, i = pre a b → ∃ S', Le S' S ∧ Q (.int i) S' := fun e => ⟨S, Le.refl _, by rw [e]; exact q⟩
  have l1 := hn_lo (x := a); have l2 := hn_lo (x := b)
  unfold uH__law_present
  simp only [dAdd, dAddI, dSub, dEq, dNe, dLt, dLe, dGt, dGe, dIs, SL.isNon, dNeg, fLen, lenD, isTy, mLstrip, seqOf, tru, tyOf, Option.map_some, String.reduceEq, usNil, usSeq, usSet, usExpr, usRet, usRetN, usIf, usBrk, usCnt, usAug, usAsg, usDPut, usRaise, usSub, uVar, uC, uBin, uChain, uUn, uTru, uTb, uAnd, uOr, uNot, uAndV, uOrV, uNotV, uIte, uNil, uCons, uTup, uLst, uNoPart, uPart, uSl, vSl, uFn, gP, uIsi, uBM, uBM0, gM, gAppend, gPop, uCall, uA0, uA1, gId, gApp, isSeq, isRng, isRng2, uDGet, bodyE, startE, ugName, List.map_cons, List.map_nil, List.length_cons, List.length_nil, List.cons_append, List.nil_append, List.getElem?_cons_zero, List.getElem?_cons_succ, List.set_cons_zero, List.set_cons_succ, List.replicate, Nat.add_one_sub_one, Nat.sub_self, Nat.reduceSub, Nat.reduceAdd, Option.some.injEq, exists_eq_left', exists_eq_left, exists_and_left, true_and, and_true, D.bl.injEq, D.int.injEq, D.str.injEq, D.tup.injEq, D.ref.injEq, Ob.lst.injEq, List.cons.injEq, fTup, if_true, if_false, ite_true, ite_false, Bool.false_eq_true, Bool.true_eq_false, reduceIte, Ob.ins.injEq, Ob.dic.injEq, usFor, uMeth, uProp, uLenI, uMake, uCMeth, uLc, vSeq, uA2, uA3, gNon, sup_same, sup_sup, dIx, dNot, dIsNot, Bool.not_true, Bool.not_false, uCallH, hp, atI0, atI1]
  refine ⟨a, rfl, ha, ?_⟩
  simp only [dAdd, dAddI, dSub, dEq, dNe, dLt, dLe, dGt, dGe, dIs, SL.isNon, dNeg, fLen, lenD, isTy, mLstrip, seqOf, tru, tyOf, Option.map_some, String.reduceEq, usNil, usSeq, usSet, usExpr, usRet, usRetN, usIf, usBrk, usCnt, usAug, usAsg, usDPut, usRaise, usSub, uVar, uC, uBin, uChain, uUn, uTru, uTb, uAnd, uOr, uNot, uAndV, uOrV, uNotV, uIte, uNil, uCons, uTup, uLst, uNoPart, uPart, uSl, vSl, uFn, gP, uIsi, uBM, uBM0, gM, gAppend, gPop, uCall, uA0, uA1, gId, gApp, isSeq, isRng, isRng2, uDGet, bodyE, startE, ugName, List.map_cons, List.map_nil, List.length_cons, List.length_nil, List.cons_append, List.nil_append, List.getElem?_cons_zero, List.getElem?_cons_succ, List.set_cons_zero, List.set_cons_succ, List.replicate, Nat.add_one_sub_one, Nat.sub_self, Nat.reduceSub, Nat.reduceAdd, Option.some.injEq, exists_eq_left', exists_eq_left, exists_and_left, true_and, and_true, D.bl.injEq, D.int.injEq, D.str.injEq, D.tup.injEq, D.ref.injEq, Ob.lst.injEq, List.cons.injEq, fTup, if_true, if_false, ite_true, ite_false, Bool.false_eq_true, Bool.true_eq_false, reduceIte, Ob.ins.injEq, Ob.dic.injEq, usFor, uMeth, uProp, uLenI, uMake, uCMeth, uLc, vSeq, uA2, uA3, gNon, sup_same, sup_sup, dIx, dNot, dIsNot, Bool.not_true, Bool.not_false, hp, atI0, atI1]
  refine ⟨b, rfl, hb, ?_⟩
  by_cases h1 : hn a < 0
  · rw [hd_neg h1]
    by_cases h2 : hn b < 0
    · rw [hd_neg h2]
      simp only [dAdd, dAddI, dSub, dEq, dNe, dLt, dLe, dGt, dGe, dIs, SL.isNon, dNeg, fLen, lenD, isTy, mLstrip, seqOf, tru, tyOf, Option.map_some, String.reduceEq, usNil, usSeq, usSet, usExpr, usRet, usRetN, usIf, usBrk, usCnt, usAug, usAsg, usDPut, usRaise, usSub, uVar, uC, uBin, uChain, uUn, uTru, uTb, uAnd, uOr, uNot, uAndV, uOrV, uNotV, uIte, uNil, uCons, uTup, uLst, uNoPart, uPart, uSl, vSl, uFn, gP, uIsi, uBM, uBM0, gM, gAppend, gPop, uCall, uA0, uA1, gId, gApp, isSeq, isRng, isRng2, uDGet, bodyE, startE, ugName, List.map_cons, List.map_nil, List.length_cons, List.length_nil, List.cons_append, List.nil_append, List.getElem?_cons_zero, List.getElem?_cons_succ, List.set_cons_zero, List.set_cons_succ, List.replicate, Nat.add_one_sub_one, Nat.sub_self, Nat.reduceSub, Nat.reduceAdd, Option.some.injEq, exists_eq_left', exists_eq_left, exists_and_left, true_and, and_true, D.bl.injEq, D.int.injEq, D.str.injEq, D.tup.injEq, D.ref.injEq, Ob.lst.injEq, List.cons.injEq, fTup, if_true, if_false, ite_true, ite_false, Bool.false_eq_true, Bool.true_eq_false, reduceIte, Ob.ins.injEq, Ob.dic.injEq, usFor, uMeth, uProp, uLenI, uMake, uCMeth, uLc, vSeq, uA2, uA3, gNon, sup_same, sup_sup, dIx, dNot, dIsNot, Bool.not_true, Bool.not_false]
      exact e_ (by unfold pre; rw [if_pos ⟨h1, h2⟩])
    · rw [hd_pos (by omega)]
      simp only [dAdd, dAddI, dSub, dEq, dNe, dLt, dLe, dGt, dGe, dIs, SL.isNon, dNeg, fLen, lenD, isTy, mLstrip, seqOf, tru, tyOf, Option.map_some, String.reduceEq, usNil, usSeq, usSet, usExpr, usRet, usRetN, usIf, usBrk, usCnt, usAug, usAsg, usDPut, usRaise, usSub, uVar, uC, uBin, uChain, uUn, uTru, uTb, uAnd, uOr, uNot, uAndV, uOrV, uNotV, uIte, uNil, uCons, uTup, uLst, uNoPart, uPart, uSl, vSl, uFn, gP, uIsi, uBM, uBM0, gM, gAppend, gPop, uCall, uA0, uA1, gId, gApp, isSeq, isRng, isRng2, uDGet, bodyE, startE, ugName, List.map_cons, List.map_nil, List.length_cons, List.length_nil, List.cons_append, List.nil_append, List.getElem?_cons_zero, List.getElem?_cons_succ, List.set_cons_zero, List.set_cons_succ, List.replicate, Nat.add_one_sub_one, Nat.sub_self, Nat.reduceSub, Nat.reduceAdd, Option.some.injEq, exists_eq_left', exists_eq_left, exists_and_left, true_and, and_true, D.bl.injEq, D.int.injEq, D.str.injEq, D.tup.injEq, D.ref.injEq, Ob.lst.injEq, List.cons.injEq, fTup, if_true, if_false, ite_true, ite_false, Bool.false_eq_true, Bool.true_eq_false, reduceIte, Ob.ins.injEq, Ob.dic.injEq, usFor, uMeth, uProp, uLenI, uMake, uCMeth, uLc, vSeq, uA2, uA3, gNon, sup_same, sup_sup, dIx, dNot, dIsNot, Bool.not_true, Bool.not_false]
      exact e_ (by unfold pre pat; rw [if_neg (fun z => h2 z.2), if_pos (by omega)])
  · rw [hd_pos (by omega)]
    by_cases h2 : hn b < 0
    · rw [hd_neg h2]
      simp only [dAdd, dAddI, dSub, dEq, dNe, dLt, dLe, dGt, dGe, dIs, SL.isNon, dNeg, fLen, lenD, isTy, mLstrip, seqOf, tru, tyOf, Option.map_some, String.reduceEq, usNil, usSeq, usSet, usExpr, usRet, usRetN, usIf, usBrk, usCnt, usAug, usAsg, usDPut, usRaise, usSub, uVar, uC, uBin, uChain, uUn, uTru, uTb, uAnd, uOr, uNot, uAndV, uOrV, uNotV, uIte, uNil, uCons, uTup, uLst, uNoPart, uPart, uSl, vSl, uFn, gP, uIsi, uBM, uBM0, gM, gAppend, gPop, uCall, uA0, uA1, gId, gApp, isSeq, isRng, isRng2, uDGet, bodyE, startE, ugName, List.map_cons, List.map_nil, List.length_cons, List.length_nil, List.cons_append, List.nil_append, List.getElem?_cons_zero, List.getElem?_cons_succ, List.set_cons_zero, List.set_cons_succ, List.replicate, Nat.add_one_sub_one, Nat.sub_self, Nat.reduceSub, Nat.reduceAdd, Option.some.injEq, exists_eq_left', exists_eq_left, exists_and_left, true_and, and_true, D.bl.injEq, D.int.injEq, D.str.injEq, D.tup.injEq, D.ref.injEq, Ob.lst.injEq, List.cons.injEq, fTup, if_true, if_false, ite_true, ite_false, Bool.false_eq_true, Bool.true_eq_false, reduceIte, Ob.ins.injEq, Ob.dic.injEq, usFor, uMeth, uProp, uLenI, uMake, uCMeth, uLc, vSeq, uA2, uA3, gNon, sup_same, sup_sup, dIx, dNot, dIsNot, Bool.not_true, Bool.not_false]
      exact e_ (by unfold pre pat; rw [if_neg (fun z => h1 z.1), if_neg (by omega)])
    · rw [hd_pos (by omega)]
      simp only [dAdd, dAddI, dSub, dEq, dNe, dLt, dLe, dGt, dGe, dIs, SL.isNon, dNeg, fLen, lenD, isTy, mLstrip, seqOf, tru, tyOf, Option.map_some, String.reduceEq, usNil, usSeq, usSet, usExpr, usRet, usRetN, usIf, usBrk, usCnt, usAug, usAsg, usDPut, usRaise, usSub, uVar, uC, uBin, uChain, uUn, uTru, uTb, uAnd, uOr, uNot, uAndV, uOrV, uNotV, uIte, uNil, uCons, uTup, uLst, uNoPart, uPart, uSl, vSl, uFn, gP, uIsi, uBM, uBM0, gM, gAppend, gPop, uCall, uA0, uA1, gId, gApp, isSeq, isRng, isRng2, uDGet, bodyE, startE, ugName, List.map_cons, List.map_nil, List.length_cons, List.length_nil, List.cons_append, List.nil_append, List.getElem?_cons_zero, List.getElem?_cons_succ, List.set_cons_zero, List.set_cons_succ, List.replicate, Nat.add_one_sub_one, Nat.sub_self, Nat.reduceSub, Nat.reduceAdd, Option.some.injEq, exists_eq_left', exists_eq_left, exists_and_left, true_and, and_true, D.bl.injEq, D.int.injEq, D.str.injEq, D.tup.injEq, D.ref.injEq, Ob.lst.injEq, List.cons.injEq, fTup, if_true, if_false, ite_true, ite_false, Bool.false_eq_true, Bool.true_eq_false, reduceIte, Ob.ins.injEq, Ob.dic.injEq, usFor, uMeth, uProp, uLenI, uMake, uCMeth, uLc, vSeq, uA2, uA3, gNon, sup_same, sup_sup, dIx, dNot, dIsNot, Bool.not_true, Bool.not_false, atI0]
      by_cases h3 : hn b ≤ hn a
      · simp only [decide_eq_true h3, if_true]
        exact e_ (by unfold pre pat; rw [if_neg (fun z => h1 z.1), if_neg (by omega)])
      · simp only [decide_eq_false h3, Bool.false_eq_true, if_false]
        exact e_ (by unfold pre pat; rw [if_neg (fun z => h1 z.1), if_pos (by omega)])
/-- a text, its whole lines and its end -/
theorem lines_of (x : List Nat) : ∃ ls e, x = wl ls ++ e ∧ (∀ l ∈ ls, 10 ∉ l) ∧ 10 ∉ e := by
  induction x with
  | nil => exact ⟨[], [], rfl, (fun l h => by cases h), by simp⟩
  | cons a x ih =>
    obtain ⟨ls, e, h1, h2, h3⟩ := ih
    by_cases h10 : a = 10
    · refine ⟨[] :: ls, e, ?_, fun l hl => ?_, h3⟩
      · rw [h1, h10, wl_cons]; rfl
      · rcases List.mem_cons.mp hl with z | z
        · subst z; simp
        · exact h2 l z
    · cases ls with
      | nil => exact ⟨[], a :: e, by rw [h1]; rfl, h2, by simp; exact ⟨fun z => h10 z.symm, h3⟩⟩
      | cons l ls =>
        refine ⟨(a :: l) :: ls, e, by rw [h1, wl_cons, wl_cons]; rfl, fun m hm => ?_, h3⟩
        rcases List.mem_cons.mp hm with z | z
        · subst z; simp; exact ⟨fun z => h10 z.symm, h2 l (List.mem_cons_self ..)⟩
        · exact h2 m (List.mem_cons_of_mem _ z)
def sp__law_torn : FS := fun ds S Q X => ∃ ls e, ds = [.str (wl ls ++ e)] ∧ 10 ∉ e ∧ (wl ls ++ e).length ≤ sizeLine ∧ Q (.str e) S
theorem torn_body {ds : List D} {S : SS} {Q : QN} {X : QX} (h : sp__law_torn ds S Q X) : u__law_torn K c (bodyE Q X) (startE N__law_torn ds) S := by
  obtain ⟨ls, e, rfl, he, hl, q⟩ := h
  unfold u__law_torn
  simp only [dAdd, dAddI, dSub, dEq, dNe, dLt, dLe, dGt, dGe, dIs, SL.isNon, dNeg, fLen, lenD, isTy, mLstrip, seqOf, tru, tyOf, Option.map_some, String.reduceEq, usNil, usSeq, usSet, usExpr, usRet, usRetN, usIf, usBrk, usCnt, usAug, usAsg, usDPut, usRaise, usSub, uVar, uC, uBin, uChain, uUn, uTru, uTb, uAnd, uOr, uNot, uAndV, uOrV, uNotV, uIte, uNil, uCons, uTup, uLst, uNoPart, uPart, uSl, vSl, uFn, gP, uIsi, uBM, uBM0, gM, gAppend, gPop, uCall, uA0, uA1, gId, gApp, isSeq, isRng, isRng2, uDGet, bodyE, startE, ugName, List.map_cons, List.map_nil, List.length_cons, List.length_nil, List.cons_append, List.nil_append, List.getElem?_cons_zero, List.getElem?_cons_succ, List.set_cons_zero, List.set_cons_succ, List.replicate, Nat.add_one_sub_one, Nat.sub_self, Nat.reduceSub, Nat.reduceAdd, Option.some.injEq, exists_eq_left', exists_eq_left, exists_and_left, true_and, and_true, D.bl.injEq, D.int.injEq, D.str.injEq, D.tup.injEq, D.ref.injEq, Ob.lst.injEq, List.cons.injEq, fTup, if_true, if_false, ite_true, ite_false, Bool.false_eq_true, Bool.true_eq_false, reduceIte, c_lf, mRfind, rfind_plc he]
  refine ⟨hl, S, Le.refl _, ?_⟩
  rw [cut_from (by omega)]
  simpa using q
theorem ok_law_torn {ds : List D} {S : SS} {Q : QN} {X : QX} (h : sp__law_torn ds S Q X) : u__law_torn K c (bodyE Q X) (startE N__law_torn ds) S := torn_body h
theorem ok_law_tornH {ds : List D} {S : SS} {Q : QN} {X : QX} (h : sp__law_torn ds S Q X) : uH__law_torn K c (bodyE Q X) (startE N__law_torn ds) S := torn_body (K := K) (c := c) h
theorem ok_initH {ds : List D} {S : SS} {Q : QN} {X : QX} (hF : FldOk K c.Disk "pair") (h : sp_Disk___init__ c ds S Q X) : uH_Disk___init__ K c (bodyE Q X) (startE N_Disk___init__ ds) S := ok_Disk___init__ hF h
end K82

set_option Elab.async false
set_option linter.all false
set_option maxRecDepth 100000
set_option maxHeartbeats 4000000
namespace K82
open PySem PySem.Spec L2 SL NumText
variable {K : PySem.W.Frag} {c : Cs}
/-! ### _law_same: of a value with itself -/
def EzW : Nat → D → Prop
  | _, .non => True
  | _, .bl _ => True
  | _, .int _ => True
  | _, .str _ => True
  | n + 1, .tup xs => xs.length ≤ 100000 ∧ ∀ x ∈ xs, EzW n x
  | _, _ => False
def sp_ls (n : Nat) : FS := fun ds S Q X => ∃ v, ∃ m : Nat, m < n ∧ ds = [v, v] ∧ EzW m v ∧ Q (.bl true) S
theorem ls_lc {n m : Nat} {xs : List D} {p : Addr} {Q : SS → Prop} (hm : m < n) (hx : ∀ x ∈ xs, EzW m x) (w : UE) (hw : ∀ (k : Nat) (x : D) (S : SS) (P : QN), xs[k]? = some x → P (.bl true) S → w [some (.tup xs), some (.tup xs), some (.int (k : Nat))] S P noX) :
    ∀ (j : Nat) (S : SS), S p = some (.lst []) → j ≤ xs.length → (∀ S', S' p = some (.lst []) → (∀ b, S' b = S b) → Q S') →
    lcL (ugName 2) (uNot (uTru w)) (uVar 2) (fun _ => True) [2] p [some (.tup xs), some (.tup xs), none] Q ((irng 0 xs.length).drop (xs.length - j)) S
  | 0, S, hp, _, k => by
    have : (irng 0 xs.length).drop (xs.length - 0) = [] := by unfold irng; rw [List.drop_eq_nil_iff]; simp
    rw [this]
    exact ⟨trivial, k S hp fun _ => rfl⟩
  | j + 1, S, hp, hj, k => by
    have e : (irng 0 xs.length).drop (xs.length - (j + 1)) = .int ((xs.length - (j + 1) : Nat) : Int) :: (irng 0 xs.length).drop (xs.length - j) := by
      have hl : xs.length - (j + 1) < (irng 0 xs.length).length := by simp [irng]; omega
      rw [List.drop_eq_getElem_cons hl]
      congr 1
      · simp [irng]
      · congr 1; omega
    rw [e]
    obtain ⟨x, hxx⟩ : ∃ x, xs[xs.length - (j + 1)]? = some x := ⟨_, List.getElem?_eq_getElem (by omega)⟩
    refine ⟨trivial, ?_⟩
    simp only [ugName, wipeE, List.set_cons_zero, List.set_cons_succ, uNot, uTru]
    refine hw _ x S _ hxx ?_
    simp only [tru, Option.some.injEq, exists_eq_left', Bool.not_true, Bool.false_eq_true, if_false]
    exact ls_lc hm hx w hw j S hp (by omega) k
theorem same_body {n : Nat} {u : UE} {ds : List D} {S : SS} {Q : QN} {X : QX} (hu : ∀ m (xs : List D) (k : Nat) (x : D) (S : SS) (P : QN), m < n → EzW m x → xs[k]? = some x → P (.bl true) S → u [some (.tup xs), some (.tup xs), some (.int (k : Nat))] S P noX) (h : sp_ls (n + 1) ds S Q X) :
    (usSeq (usIf (uTru (uIsi ["tuple", "list"] (uVar 1))) (usSeq (usIf (uOr (uNot (uTru (uIsi ["tuple", "list"] (uVar 0)))) (uTb (uBin dNe (uIsi ["tuple"] (uVar 0)) (uIsi ["tuple"] (uVar 1))))) (usRet (uC (.bl false))) usNil)
  (usRet (uAndV (uBin dEq (uFn (gP fLen) (uCons (uVar 0) uNil)) (uFn (gP fLen) (uCons (uVar 1) uNil))) (uBin dEq (uFn (gP fLen) (uCons (uLc (isRng (uFn (gP fLen) (uCons (uVar 1) uNil))) (ugName 2) (uNot (uTru u)) (uVar 2) [2]) uNil)) (uC (.int 0)))))) usNil)
  (usSeq (usIf (uTru (uIsi ["bool"] (uVar 1))) (usRet (uAndV (uIsi ["bool"] (uVar 0)) (uBin dEq (uVar 0) (uVar 1)))) usNil)
  (usSeq (usIf (uTru (uIsi ["int"] (uVar 1))) (usRet (uAndV (uIsi ["int"] (uVar 0)) (uAndV (uNotV (uIsi ["bool"] (uVar 0))) (uBin dEq (uVar 0) (uVar 1))))) usNil)
  (usSeq (usIf (uTru (uIsi ["str"] (uVar 1))) (usRet (uAndV (uIsi ["str"] (uVar 0)) (uBin dEq (uVar 0) (uVar 1)))) usNil)
  (usRet (uAndV (uBin dIs (uVar 0) (uC .non)) (uBin dIs (uVar 1) (uC .non)))))))) (bodyE Q X) (startE N__law_same ds) S := by
  obtain ⟨v, m, hm, rfl, hp, q⟩ := h
  have t1 : ["tuple", "list"].any (isT "NoneType") = false := by decide
  have t2 : ["tuple", "list"].any (isT "bool") = false := by decide
  have t3 : ["tuple", "list"].any (isT "int") = false := by decide
  have t4 : ["tuple", "list"].any (isT "str") = false := by decide
  have t5 : ["tuple", "list"].any (isT "tuple") = true := by decide
  have t6 : ["tuple"].any (isT "tuple") = true := by decide
  have b1 : ["bool"].any (isT "NoneType") = false := by decide
  have b2 : ["bool"].any (isT "bool") = true := by decide
  have b3 : ["bool"].any (isT "int") = false := by decide
  have b4 : ["bool"].any (isT "str") = false := by decide
  have i1 : ["int"].any (isT "NoneType") = false := by decide
  have i3 : ["int"].any (isT "int") = true := by decide
  have i4 : ["int"].any (isT "str") = false := by decide
  have s1 : ["str"].any (isT "NoneType") = false := by decide
  have s4 : ["str"].any (isT "str") = true := by decide
  have e_ : ∃ S', Le S' S ∧ Q (.bl true) S' := ⟨S, Le.refl _, q⟩
  cases v with
  | non => simp only [dAdd, dAddI, dSub, dEq, dNe, dLt, dLe, dGt, dGe, dIs, SL.isNon, dNeg, fLen, lenD, isTy, mLstrip, seqOf, tru, tyOf, Option.map_some, String.reduceEq, usNil, usSeq, usSet, usExpr, usRet, usRetN, usIf, usBrk, usCnt, usAug, usAsg, usDPut, usRaise, usSub, uVar, uC, uBin, uChain, uUn, uTru, uTb, uAnd, uOr, uNot, uAndV, uOrV, uNotV, uIte, uNil, uCons, uTup, uLst, uNoPart, uPart, uSl, vSl, uFn, gP, uIsi, uBM, uBM0, gM, gAppend, gPop, uCall, uA0, uA1, gId, gApp, isSeq, isRng, isRng2, uDGet, bodyE, startE, ugName, List.map_cons, List.map_nil, List.length_cons, List.length_nil, List.cons_append, List.nil_append, List.getElem?_cons_zero, List.getElem?_cons_succ, List.set_cons_zero, List.set_cons_succ, List.replicate, Nat.add_one_sub_one, Nat.sub_self, Nat.reduceSub, Nat.reduceAdd, Option.some.injEq, exists_eq_left', exists_eq_left, exists_and_left, true_and, and_true, D.bl.injEq, D.int.injEq, D.str.injEq, D.tup.injEq, D.ref.injEq, Ob.lst.injEq, List.cons.injEq, fTup, if_true, if_false, ite_true, ite_false, Bool.false_eq_true, Bool.true_eq_false, reduceIte, t1, b1, i1, s1]; exact e_
  | bl b => simp only [dAdd, dAddI, dSub, dEq, dNe, dLt, dLe, dGt, dGe, dIs, SL.isNon, dNeg, fLen, lenD, isTy, mLstrip, seqOf, tru, tyOf, Option.map_some, String.reduceEq, usNil, usSeq, usSet, usExpr, usRet, usRetN, usIf, usBrk, usCnt, usAug, usAsg, usDPut, usRaise, usSub, uVar, uC, uBin, uChain, uUn, uTru, uTb, uAnd, uOr, uNot, uAndV, uOrV, uNotV, uIte, uNil, uCons, uTup, uLst, uNoPart, uPart, uSl, vSl, uFn, gP, uIsi, uBM, uBM0, gM, gAppend, gPop, uCall, uA0, uA1, gId, gApp, isSeq, isRng, isRng2, uDGet, bodyE, startE, ugName, List.map_cons, List.map_nil, List.length_cons, List.length_nil, List.cons_append, List.nil_append, List.getElem?_cons_zero, List.getElem?_cons_succ, List.set_cons_zero, List.set_cons_succ, List.replicate, Nat.add_one_sub_one, Nat.sub_self, Nat.reduceSub, Nat.reduceAdd, Option.some.injEq, exists_eq_left', exists_eq_left, exists_and_left, true_and, and_true, D.bl.injEq, D.int.injEq, D.str.injEq, D.tup.injEq, D.ref.injEq, Ob.lst.injEq, List.cons.injEq, fTup, if_true, if_false, ite_true, ite_false, Bool.false_eq_true, Bool.true_eq_false, reduceIte, t2, b2, beq_self_eq_true]; exact e_
  | int i => simp only [dAdd, dAddI, dSub, dEq, dNe, dLt, dLe, dGt, dGe, dIs, SL.isNon, dNeg, fLen, lenD, isTy, mLstrip, seqOf, tru, tyOf, Option.map_some, String.reduceEq, usNil, usSeq, usSet, usExpr, usRet, usRetN, usIf, usBrk, usCnt, usAug, usAsg, usDPut, usRaise, usSub, uVar, uC, uBin, uChain, uUn, uTru, uTb, uAnd, uOr, uNot, uAndV, uOrV, uNotV, uIte, uNil, uCons, uTup, uLst, uNoPart, uPart, uSl, vSl, uFn, gP, uIsi, uBM, uBM0, gM, gAppend, gPop, uCall, uA0, uA1, gId, gApp, isSeq, isRng, isRng2, uDGet, bodyE, startE, ugName, List.map_cons, List.map_nil, List.length_cons, List.length_nil, List.cons_append, List.nil_append, List.getElem?_cons_zero, List.getElem?_cons_succ, List.set_cons_zero, List.set_cons_succ, List.replicate, Nat.add_one_sub_one, Nat.sub_self, Nat.reduceSub, Nat.reduceAdd, Option.some.injEq, exists_eq_left', exists_eq_left, exists_and_left, true_and, and_true, D.bl.injEq, D.int.injEq, D.str.injEq, D.tup.injEq, D.ref.injEq, Ob.lst.injEq, List.cons.injEq, fTup, if_true, if_false, ite_true, ite_false, Bool.false_eq_true, Bool.true_eq_false, reduceIte, t3, b3, i3, Bool.not_false, beq_self_eq_true]; exact e_
  | str x => simp only [dAdd, dAddI, dSub, dEq, dNe, dLt, dLe, dGt, dGe, dIs, SL.isNon, dNeg, fLen, lenD, isTy, mLstrip, seqOf, tru, tyOf, Option.map_some, String.reduceEq, usNil, usSeq, usSet, usExpr, usRet, usRetN, usIf, usBrk, usCnt, usAug, usAsg, usDPut, usRaise, usSub, uVar, uC, uBin, uChain, uUn, uTru, uTb, uAnd, uOr, uNot, uAndV, uOrV, uNotV, uIte, uNil, uCons, uTup, uLst, uNoPart, uPart, uSl, vSl, uFn, gP, uIsi, uBM, uBM0, gM, gAppend, gPop, uCall, uA0, uA1, gId, gApp, isSeq, isRng, isRng2, uDGet, bodyE, startE, ugName, List.map_cons, List.map_nil, List.length_cons, List.length_nil, List.cons_append, List.nil_append, List.getElem?_cons_zero, List.getElem?_cons_succ, List.set_cons_zero, List.set_cons_succ, List.replicate, Nat.add_one_sub_one, Nat.sub_self, Nat.reduceSub, Nat.reduceAdd, Option.some.injEq, exists_eq_left', exists_eq_left, exists_and_left, true_and, and_true, D.bl.injEq, D.int.injEq, D.str.injEq, D.tup.injEq, D.ref.injEq, Ob.lst.injEq, List.cons.injEq, fTup, if_true, if_false, ite_true, ite_false, Bool.false_eq_true, Bool.true_eq_false, reduceIte, t4, b4, i4, s4, beq_self_eq_true]; exact e_
  | tup xs =>
    cases m with
    | zero => simp [EzW] at hp
    | succ m =>
      obtain ⟨hl, hx⟩ := (by simpa only [EzW] using hp : xs.length ≤ 100000 ∧ ∀ x ∈ xs, EzW m x)
      simp only [dAdd, dAddI, dSub, dEq, dNe, dLt, dLe, dGt, dGe, dIs, SL.isNon, dNeg, fLen, lenD, isTy, mLstrip, seqOf, tru, tyOf, Option.map_some, String.reduceEq, usNil, usSeq, usSet, usExpr, usRet, usRetN, usIf, usBrk, usCnt, usAug, usAsg, usDPut, usRaise, usSub, uVar, uC, uBin, uChain, uUn, uTru, uTb, uAnd, uOr, uNot, uAndV, uOrV, uNotV, uIte, uNil, uCons, uTup, uLst, uNoPart, uPart, uSl, vSl, uFn, gP, uIsi, uBM, uBM0, gM, gAppend, gPop, uCall, uA0, uA1, gId, gApp, isSeq, isRng, isRng2, uDGet, bodyE, startE, ugName, List.map_cons, List.map_nil, List.length_cons, List.length_nil, List.cons_append, List.nil_append, List.getElem?_cons_zero, List.getElem?_cons_succ, List.set_cons_zero, List.set_cons_succ, List.replicate, Nat.add_one_sub_one, Nat.sub_self, Nat.reduceSub, Nat.reduceAdd, Option.some.injEq, exists_eq_left', exists_eq_left, exists_and_left, true_and, and_true, D.bl.injEq, D.int.injEq, D.str.injEq, D.tup.injEq, D.ref.injEq, Ob.lst.injEq, List.cons.injEq, fTup, if_true, if_false, ite_true, ite_false, Bool.false_eq_true, Bool.true_eq_false, reduceIte, t5, t6, Bool.not_true, beq_self_eq_true, uLc]
      refine ⟨by omega, by omega, fun p hp0 => ?_⟩
      have ej : irng 0 ((xs.length : Nat) : Int).toNat = (irng 0 xs.length).drop (xs.length - xs.length) := by rw [Nat.sub_self, List.drop_zero]; rfl
      rw [ej]
      refine ls_lc (n := n) (m := m) (by omega) hx u (fun k x S P hk hP => hu m xs k x S P (by omega) (hx x (List.mem_of_getElem? hk)) hk hP) xs.length _ sup_same (Nat.le_refl _) fun S' hp' hb => ?_
      simp only [dAdd, dAddI, dSub, dEq, dNe, dLt, dLe, dGt, dGe, dIs, SL.isNon, dNeg, fLen, lenD, isTy, mLstrip, seqOf, tru, tyOf, Option.map_some, String.reduceEq, usNil, usSeq, usSet, usExpr, usRet, usRetN, usIf, usBrk, usCnt, usAug, usAsg, usDPut, usRaise, usSub, uVar, uC, uBin, uChain, uUn, uTru, uTb, uAnd, uOr, uNot, uAndV, uOrV, uNotV, uIte, uNil, uCons, uTup, uLst, uNoPart, uPart, uSl, vSl, uFn, gP, uIsi, uBM, uBM0, gM, gAppend, gPop, uCall, uA0, uA1, gId, gApp, isSeq, isRng, isRng2, uDGet, bodyE, startE, ugName, List.map_cons, List.map_nil, List.length_cons, List.length_nil, List.cons_append, List.nil_append, List.getElem?_cons_zero, List.getElem?_cons_succ, List.set_cons_zero, List.set_cons_succ, List.replicate, Nat.add_one_sub_one, Nat.sub_self, Nat.reduceSub, Nat.reduceAdd, Option.some.injEq, exists_eq_left', exists_eq_left, exists_and_left, true_and, and_true, D.bl.injEq, D.int.injEq, D.str.injEq, D.tup.injEq, D.ref.injEq, Ob.lst.injEq, List.cons.injEq, fTup, if_true, if_false, ite_true, ite_false, Bool.false_eq_true, Bool.true_eq_false, reduceIte, hp', beq_self_eq_true]
      refine ⟨S, fun x o ex => ?_, q⟩
      have hne : x ≠ p := fun z => by rw [z, hp0] at ex; cases ex
      rw [hb x, sup_ne hne]; exact ex
  | ref a => simp [EzW] at hp
  | exc _ _ _ _ => simp [EzW] at hp
  | kl _ => simp [EzW] at hp
theorem ok_ls {n : Nat} {ds : List D} {S : SS} {Q : QN} {X : QX} (h : sp_ls (n + 1) ds S Q X) : u__law_same K c (sp_ls n) (bodyE Q X) (startE N__law_same ds) S :=
  same_body (u := uCall (sp_ls n) gId (uA1 2 (uCons (uBin dIx (uVar 0) (uVar 2)) (uCons (uBin dIx (uVar 1) (uVar 2)) uNil)))) (fun m xs k x S P hm he hk hP => by
    simp only [dAdd, dAddI, dSub, dEq, dNe, dLt, dLe, dGt, dGe, dIs, SL.isNon, dNeg, fLen, lenD, isTy, mLstrip, seqOf, tru, tyOf, Option.map_some, String.reduceEq, usNil, usSeq, usSet, usExpr, usRet, usRetN, usIf, usBrk, usCnt, usAug, usAsg, usDPut, usRaise, usSub, uVar, uC, uBin, uChain, uUn, uTru, uTb, uAnd, uOr, uNot, uAndV, uOrV, uNotV, uIte, uNil, uCons, uTup, uLst, uNoPart, uPart, uSl, vSl, uFn, gP, uIsi, uBM, uBM0, gM, gAppend, gPop, uCall, uA0, uA1, gId, gApp, isSeq, isRng, isRng2, uDGet, bodyE, startE, ugName, List.map_cons, List.map_nil, List.length_cons, List.length_nil, List.cons_append, List.nil_append, List.getElem?_cons_zero, List.getElem?_cons_succ, List.set_cons_zero, List.set_cons_succ, List.replicate, Nat.add_one_sub_one, Nat.sub_self, Nat.reduceSub, Nat.reduceAdd, Option.some.injEq, exists_eq_left', exists_eq_left, exists_and_left, true_and, and_true, D.bl.injEq, D.int.injEq, D.str.injEq, D.tup.injEq, D.ref.injEq, Ob.lst.injEq, List.cons.injEq, fTup, if_true, if_false, ite_true, ite_false, Bool.false_eq_true, Bool.true_eq_false, reduceIte, dIx, SL.atI_nat, hk]
    exact ⟨x, m, hm, rfl, he, hP⟩) h
theorem ok_lsH {n : Nat} {ds : List D} {S : SS} {Q : QN} {X : QX} (h : sp_ls (n + 1) ds S Q X) : uH__law_same K c (sp_ls n) (bodyE Q X) (startE N__law_same ds) S :=
  same_body (u := uCallH 2 (sp_ls n) (uCons (uBin dIx (uVar 0) (uVar 2)) (uCons (uBin dIx (uVar 1) (uVar 2)) uNil))) (fun m xs k x S P hm he hk hP => by
    simp only [dAdd, dAddI, dSub, dEq, dNe, dLt, dLe, dGt, dGe, dIs, SL.isNon, dNeg, fLen, lenD, isTy, mLstrip, seqOf, tru, tyOf, Option.map_some, String.reduceEq, usNil, usSeq, usSet, usExpr, usRet, usRetN, usIf, usBrk, usCnt, usAug, usAsg, usDPut, usRaise, usSub, uVar, uC, uBin, uChain, uUn, uTru, uTb, uAnd, uOr, uNot, uAndV, uOrV, uNotV, uIte, uNil, uCons, uTup, uLst, uNoPart, uPart, uSl, vSl, uFn, gP, uIsi, uBM, uBM0, gM, gAppend, gPop, uCall, uA0, uA1, gId, gApp, isSeq, isRng, isRng2, uDGet, bodyE, startE, ugName, List.map_cons, List.map_nil, List.length_cons, List.length_nil, List.cons_append, List.nil_append, List.getElem?_cons_zero, List.getElem?_cons_succ, List.set_cons_zero, List.set_cons_succ, List.replicate, Nat.add_one_sub_one, Nat.sub_self, Nat.reduceSub, Nat.reduceAdd, Option.some.injEq, exists_eq_left', exists_eq_left, exists_and_left, true_and, and_true, D.bl.injEq, D.int.injEq, D.str.injEq, D.tup.injEq, D.ref.injEq, Ob.lst.injEq, List.cons.injEq, fTup, if_true, if_false, ite_true, ite_false, Bool.false_eq_true, Bool.true_eq_false, reduceIte, uCallH, dIx, SL.atI_nat, hk]
    exact ⟨x, m, hm, rfl, he, hP⟩) h
theorem ls_of {v : D} {m : Nat} {S : SS} {Q : QN} {X : QX} (hm : m < 6) (hz : EzW m v) (q : Q (.bl true) S) : sp_ls 6 [v, v] S Q X := ⟨v, m, hm, rfl, hz, q⟩
end K82

set_option Elab.async false
set_option linter.all false
set_option maxRecDepth 100000
set_option maxHeartbeats 4000000
namespace K82
open PySem PySem.Spec L2 SL NumText
variable {K : PySem.W.Frag} {c : Cs}
theorem x40 {α : Type} {a b c d : α} : L2.atI [a, b, c, d] 0 = some a := rfl
theorem x41 {α : Type} {a b c d : α} : L2.atI [a, b, c, d] 1 = some b := rfl
theorem x42 {α : Type} {a b c d : α} : L2.atI [a, b, c, d] 2 = some c := rfl
theorem x43 {α : Type} {a b c d : α} : L2.atI [a, b, c, d] 3 = some d := rfl
theorem i41 : ixN 4 1 = some 1 := rfl
theorem i42 : ixN 4 2 = some 2 := rfl
theorem i43 : ixN 4 3 = some 3 := rfl
theorem cdiv_small {i j : Int} (h : 0 < j) (hj : j.natAbs < 2 ^ 60) : CDivW i j := wide_div h hj (by decide) (by decide)
/-- the flow at f, its cells at cl -/
structure Flw (S : SS) (f cl : Addr) : Prop where
  ne : cl ≠ f
  cells : ∃ xs : List Int, S cl = some (.lst (xs.map .int)) ∧ xs ≠ [] ∧ xs.length ≤ 64
  row : ∃ a g t : Int, S f = some (.lst [.ref cl, .int a, .int g, .int t])
theorem Flw.keep {S S' : SS} {f cl : Addr} (h : Flw S f cl) (h1 : S' f = S f) (h2 : S' cl = S cl) : Flw S' f cl := ⟨h.ne, by rw [h2]; exact h.cells, by rw [h1]; exact h.row⟩
theorem Flw.le {S S' : SS} {f cl : Addr} (h : Flw S f cl) (l : Le S S') : Flw S' f cl := by
  obtain ⟨xs, e, h1, h2⟩ := h.cells
  obtain ⟨a, g, t, e2⟩ := h.row
  exact ⟨h.ne, ⟨xs, l _ _ e, h1, h2⟩, a, g, t, l _ _ e2⟩
def sp__law_take : FS := fun ds S Q X => ∃ f cl, ∃ many : Int, ds = [.ref f, .int many] ∧ 0 < many ∧ many ≤ 2000000000 ∧ Flw S f cl ∧ ∀ r S', 0 ≤ r → r < many → Flw S' f cl → (∀ b, b ≠ f → S' b = S b) → Q (.int r) S'
def tk1  : US := (usSeq (usSet 4 (uBin dMod (uFn (gP fInt) (uCons (uBin dIx (uVar 0) (uC (.int 2))) uNil)) (uVar 1))) (usSeq (usSub (uVar 0) (uC (.int 2)) (uBin dDiv (uBin dIx (uVar 0) (uC (.int 2))) (uVar 1))) (usRet (uVar 4))))
def tk0  : US := (usSeq (usIf (uTb (uBin dEq (uBin dIx (uVar 0) (uC (.int 2))) (uC (.int 0)))) (usSeq (usSet 2 (uBin dIx (uBin dIx (uVar 0) (uC (.int 0))) (uBin dMod (uFn (gP fInt) (uCons (uBin dIx (uVar 0) (uC (.int 1))) uNil)) (uFn (gP fLen) (uCons (uBin dIx (uVar 0) (uC (.int 0))) uNil))))) (usSeq (usSub (uVar 0) (uC (.int 1)) (uBin dAdd (uBin dIx (uVar 0) (uC (.int 1))) (uC (.int 1)))) (usSeq (usIf (uOr (uTb (uBin dLt (uVar 2) (uC (.int 1000000000000000000)))) (uTb (uBin dGt (uBin dIx (uVar 0) (uC (.int 1))) (uFn (gP fLen) (uCons (uBin dIx (uVar 0) (uC (.int 0))) uNil))))) (usSeq (usSet 3 (uBin dMod (uFn (gP fInt) (uCons (uBin dAdd (uBin dAdd (uBin dMulX (uVar 2) (uC (.int 48271))) (uBin dMulX (uBin dIx (uVar 0) (uC (.int 3))) (uC (.int 69621)))) (uC (.int 7))) uNil)) (uC (.int 2147483647)))) (usRet (uBin dMod (uFn (gP fInt) (uCons (uBin dMod (uFn (gP fInt) (uCons (uBin dAdd (uBin dAdd (uBin dMulX (uVar 3) (uVar 3)) (uBin dMulX (uVar 3) (uC (.int 40692)))) (uBin dMulX (uBin dIx (uVar 0) (uC (.int 3))) (uC (.int 7919)))) uNil)) (uC (.int 2147483399))) uNil)) (uVar 1)))) usNil) (usSub (uVar 0) (uC (.int 2)) (uVar 2))))) usNil) tk1)
theorem tk_eq {K : PySem.W.Frag} {c : Cs} : u__law_take K c = (usSeq (usSub (uVar 0) (uC (.int 3)) (uBin dAdd (uBin dIx (uVar 0) (uC (.int 3))) (uC (.int 1)))) tk0) := rfl
theorem tk1_of {S : SS} {f cl : Addr} {many a g t : Int} {e2 e3 : Option D} {Q : QN} {X : QX} (hm : 0 < many) (hm2 : many ≤ 2000000000) (hf : S f = some (.lst [.ref cl, .int a, .int g, .int t])) (hfl : Flw S f cl)
    (q : ∀ r S', 0 ≤ r → r < many → Flw S' f cl → (∀ b, b ≠ f → S' b = S b) → Q (.int r) S') : tk1 (bodyE Q X) [some (.ref f), some (.int many), e2, e3, none] S := by
  have hdv : ∀ i, CDivW i many := fun i => cdiv_small hm (by omega)
  unfold tk1
  simp only [dAdd, dAddI, dSub, dEq, dNe, dLt, dLe, dGt, dGe, dIs, SL.isNon, dNeg, fLen, lenD, isTy, mLstrip, seqOf, tru, tyOf, Option.map_some, String.reduceEq, usNil, usSeq, usSet, usExpr, usRet, usRetN, usIf, usBrk, usCnt, usAug, usAsg, usDPut, usRaise, usSub, uVar, uC, uBin, uChain, uUn, uTru, uTb, uAnd, uOr, uNot, uAndV, uOrV, uNotV, uIte, uNil, uCons, uTup, uLst, uNoPart, uPart, uSl, vSl, uFn, gP, uIsi, uBM, uBM0, gM, gAppend, gPop, uCall, uA0, uA1, gId, gApp, isSeq, isRng, isRng2, uDGet, bodyE, startE, ugName, List.map_cons, List.map_nil, List.length_cons, List.length_nil, List.cons_append, List.nil_append, List.getElem?_cons_zero, List.getElem?_cons_succ, List.set_cons_zero, List.set_cons_succ, List.replicate, Nat.add_one_sub_one, Nat.sub_self, Nat.reduceSub, Nat.reduceAdd, Option.some.injEq, exists_eq_left', exists_eq_left, exists_and_left, true_and, and_true, D.bl.injEq, D.int.injEq, D.str.injEq, D.tup.injEq, D.ref.injEq, Ob.lst.injEq, List.cons.injEq, fTup, if_true, if_false, ite_true, ite_false, Bool.false_eq_true, Bool.true_eq_false, reduceIte, Ob.ins.injEq, Ob.dic.injEq, usFor, uMeth, uProp, uLenI, uMake, uCMeth, uLc, vSeq, uA2, uA3, gNon, sup_same, sup_sup, dIx, dNot, dIsNot, Bool.not_true, Bool.not_false, hf, x42, fInt, dMod, hm, dDiv, hdv, vSet, i42]
  refine ⟨_, Le.refl _, q _ _ (Int.emod_nonneg _ (by omega)) (Int.emod_lt_of_pos _ hm) ⟨hfl.ne, ?_, a, _, t, sup_same⟩ fun b hb => sup_ne hb⟩
  obtain ⟨xs, e, h1, h2⟩ := hfl.cells
  exact ⟨xs, by rw [sup_ne hfl.ne]; exact e, h1, h2⟩
theorem ok_law_take {ds : List D} {S : SS} {Q : QN} {X : QX} (h : sp__law_take ds S Q X) : u__law_take K c (bodyE Q X) (startE N__law_take ds) S := by
  obtain ⟨f, cl, many, rfl, hm, hm2, hfl, q⟩ := h
  obtain ⟨ne, ⟨xs, hx, hx0, hxl⟩, a, g, t, hf⟩ := hfl
  have ncl : ∀ (S : SS) o, (SL.sup S f o) cl = S cl := fun S o => sup_ne ne
  have hfl : ∀ {S' : SS} {a g t : Int}, (∀ b, b ≠ f → S' b = S b) → S' f = some (.lst [.ref cl, .int a, .int g, .int t]) → Flw S' f cl := fun {S' a g t} hb e => ⟨ne, ⟨xs, by rw [hb cl ne]; exact hx, hx0, hxl⟩, a, g, t, e⟩
  rw [tk_eq]
  simp only [dAdd, dAddI, dSub, dEq, dNe, dLt, dLe, dGt, dGe, dIs, SL.isNon, dNeg, fLen, lenD, isTy, mLstrip, seqOf, tru, tyOf, Option.map_some, String.reduceEq, usNil, usSeq, usSet, usExpr, usRet, usRetN, usIf, usBrk, usCnt, usAug, usAsg, usDPut, usRaise, usSub, uVar, uC, uBin, uChain, uUn, uTru, uTb, uAnd, uOr, uNot, uAndV, uOrV, uNotV, uIte, uNil, uCons, uTup, uLst, uNoPart, uPart, uSl, vSl, uFn, gP, uIsi, uBM, uBM0, gM, gAppend, gPop, uCall, uA0, uA1, gId, gApp, isSeq, isRng, isRng2, uDGet, bodyE, startE, ugName, List.map_cons, List.map_nil, List.length_cons, List.length_nil, List.cons_append, List.nil_append, List.getElem?_cons_zero, List.getElem?_cons_succ, List.set_cons_zero, List.set_cons_succ, List.replicate, Nat.add_one_sub_one, Nat.sub_self, Nat.reduceSub, Nat.reduceAdd, Option.some.injEq, exists_eq_left', exists_eq_left, exists_and_left, true_and, and_true, D.bl.injEq, D.int.injEq, D.str.injEq, D.tup.injEq, D.ref.injEq, Ob.lst.injEq, List.cons.injEq, fTup, if_true, if_false, ite_true, ite_false, Bool.false_eq_true, Bool.true_eq_false, reduceIte, Ob.ins.injEq, Ob.dic.injEq, usFor, uMeth, uProp, uLenI, uMake, uCMeth, uLc, vSeq, uA2, uA3, gNon, sup_same, sup_sup, dIx, dNot, dIsNot, Bool.not_true, Bool.not_false, hf, x43, vSet, i43]
  unfold tk0
  simp only [dAdd, dAddI, dSub, dEq, dNe, dLt, dLe, dGt, dGe, dIs, SL.isNon, dNeg, fLen, lenD, isTy, mLstrip, seqOf, tru, tyOf, Option.map_some, String.reduceEq, usNil, usSeq, usSet, usExpr, usRet, usRetN, usIf, usBrk, usCnt, usAug, usAsg, usDPut, usRaise, usSub, uVar, uC, uBin, uChain, uUn, uTru, uTb, uAnd, uOr, uNot, uAndV, uOrV, uNotV, uIte, uNil, uCons, uTup, uLst, uNoPart, uPart, uSl, vSl, uFn, gP, uIsi, uBM, uBM0, gM, gAppend, gPop, uCall, uA0, uA1, gId, gApp, isSeq, isRng, isRng2, uDGet, bodyE, startE, ugName, List.map_cons, List.map_nil, List.length_cons, List.length_nil, List.cons_append, List.nil_append, List.getElem?_cons_zero, List.getElem?_cons_succ, List.set_cons_zero, List.set_cons_succ, List.replicate, Nat.add_one_sub_one, Nat.sub_self, Nat.reduceSub, Nat.reduceAdd, Option.some.injEq, exists_eq_left', exists_eq_left, exists_and_left, true_and, and_true, D.bl.injEq, D.int.injEq, D.str.injEq, D.tup.injEq, D.ref.injEq, Ob.lst.injEq, List.cons.injEq, fTup, if_true, if_false, ite_true, ite_false, Bool.false_eq_true, Bool.true_eq_false, reduceIte, Ob.ins.injEq, Ob.dic.injEq, usFor, uMeth, uProp, uLenI, uMake, uCMeth, uLc, vSeq, uA2, uA3, gNon, sup_same, sup_sup, dIx, dNot, dIsNot, Bool.not_true, Bool.not_false, x40, x41, x42, x43, ncl, hx, List.length_map]
  have hlen : (0 : Int) < (xs.length : Int) := by have := List.length_pos_iff.mpr hx0; omega
  by_cases hg : (g == 0) = true
  · obtain ⟨m, hm0⟩ : ∃ m : Nat, a % (xs.length : Int) = m := ⟨(a % (xs.length : Int)).toNat, by have := Int.emod_nonneg a (by omega : (xs.length : Int) ≠ 0); omega⟩
    have hml : m < xs.length := by have := Int.emod_lt_of_pos a hlen; omega
    have hxm : (xs.map D.int)[m]? = some (.int (xs[m])) := by rw [List.getElem?_map, List.getElem?_eq_getElem hml]; rfl
    have w1 : ∀ i : Int, dMulX = dMulX := fun _ => rfl
    have p1 : (0 : Int) < 2147483647 := by decide
    have p2 : (0 : Int) < 2147483399 := by decide
    have m1 : ∀ (S : SS) (i : Int), dMulX S (.int i) (.int 48271) = some (.int (i * 48271)) := fun S i => by simp [dMulX]
    have m2 : ∀ (S : SS) (i : Int), dMulX S (.int i) (.int 69621) = some (.int (i * 69621)) := fun S i => by simp [dMulX]
    have m3 : ∀ (S : SS) (i : Int), dMulX S (.int i) (.int 40692) = some (.int (i * 40692)) := fun S i => by simp [dMulX]
    have m4 : ∀ (S : SS) (i : Int), dMulX S (.int i) (.int 7919) = some (.int (i * 7919)) := fun S i => by simp [dMulX]
    have m5 : ∀ (S : SS) (z : Int), dMulX S (.int (z % 2147483647)) (.int (z % 2147483647)) = some (.int (z % 2147483647 * (z % 2147483647))) := fun S z => by
      have : (z % 2147483647).natAbs < 18446744073709551616 := by omega
      simp only [dMulX, this, true_or, if_true]
    simp only [dAdd, dAddI, dSub, dEq, dNe, dLt, dLe, dGt, dGe, dIs, SL.isNon, dNeg, fLen, lenD, isTy, mLstrip, seqOf, tru, tyOf, Option.map_some, String.reduceEq, usNil, usSeq, usSet, usExpr, usRet, usRetN, usIf, usBrk, usCnt, usAug, usAsg, usDPut, usRaise, usSub, uVar, uC, uBin, uChain, uUn, uTru, uTb, uAnd, uOr, uNot, uAndV, uOrV, uNotV, uIte, uNil, uCons, uTup, uLst, uNoPart, uPart, uSl, vSl, uFn, gP, uIsi, uBM, uBM0, gM, gAppend, gPop, uCall, uA0, uA1, gId, gApp, isSeq, isRng, isRng2, uDGet, bodyE, startE, ugName, List.map_cons, List.map_nil, List.length_cons, List.length_nil, List.cons_append, List.nil_append, List.getElem?_cons_zero, List.getElem?_cons_succ, List.set_cons_zero, List.set_cons_succ, List.replicate, Nat.add_one_sub_one, Nat.sub_self, Nat.reduceSub, Nat.reduceAdd, Option.some.injEq, exists_eq_left', exists_eq_left, exists_and_left, true_and, and_true, D.bl.injEq, D.int.injEq, D.str.injEq, D.tup.injEq, D.ref.injEq, Ob.lst.injEq, List.cons.injEq, fTup, if_true, if_false, ite_true, ite_false, Bool.false_eq_true, Bool.true_eq_false, reduceIte, Ob.ins.injEq, Ob.dic.injEq, usFor, uMeth, uProp, uLenI, uMake, uCMeth, uLc, vSeq, uA2, uA3, gNon, sup_same, sup_sup, dIx, dNot, dIsNot, Bool.not_true, Bool.not_false, hg, fInt, dMod, hlen, hm0, x40, x41, x42, x43, ncl, hx, SL.atI_nat, hxm, vSet, i41, List.length_map, m1, m2, m3, m4, m5, p1, p2, hm]
    have fin : ∀ {r : Int} {S' : SS} {a g t : Int}, 0 ≤ r → r < many → (∀ b, b ≠ f → S' b = S b) → S' f = some (.lst [.ref cl, .int a, .int g, .int t]) → ∃ S1, Le S1 S' ∧ Q (.int r) S1 := fun {r S' a g t} h1 h2 h3 h4 => ⟨S', Le.refl _, q r S' h1 h2 (hfl h3 h4) h3⟩
    have hk : ∀ {S' : SS} {g2 : Int} {e3 : Option D}, (∀ b, b ≠ f → S' b = S b) → S' f = some (.lst [.ref cl, .int (a + 1), .int g2, .int (t + 1)]) → tk1 (bodyE Q X) [some (.ref f), some (.int many), some (.int (xs[m])), e3, none] S' := fun {S' g2 e3} h1 h2 =>
      tk1_of hm hm2 h2 (hfl h1 h2) fun r S2 r0 r1 h3 h4 => q r S2 r0 r1 h3 fun b hb => by rw [h4 b hb, h1 b hb]
    by_cases h1 : xs[m] < 1000000000000000000
    · simp only [decide_eq_true h1, if_true]
      exact fin (Int.emod_nonneg _ (by omega)) (Int.emod_lt_of_pos _ hm) (fun b hb => by rw [sup_ne hb]) sup_same
    · simp only [decide_eq_false h1, Bool.false_eq_true, if_false]
      by_cases h2 : (xs.length : Int) < a + 1
      · simp only [decide_eq_true h2, if_true]
        exact fin (Int.emod_nonneg _ (by omega)) (Int.emod_lt_of_pos _ hm) (fun b hb => by rw [sup_ne hb]) sup_same
      · simp only [decide_eq_false h2, Bool.false_eq_true, if_false, i42, Option.some.injEq, exists_eq_left', List.set_cons_succ, List.set_cons_zero]
        exact hk (fun b hb => by rw [sup_ne hb]) sup_same
  · simp only [dAdd, dAddI, dSub, dEq, dNe, dLt, dLe, dGt, dGe, dIs, SL.isNon, dNeg, fLen, lenD, isTy, mLstrip, seqOf, tru, tyOf, Option.map_some, String.reduceEq, usNil, usSeq, usSet, usExpr, usRet, usRetN, usIf, usBrk, usCnt, usAug, usAsg, usDPut, usRaise, usSub, uVar, uC, uBin, uChain, uUn, uTru, uTb, uAnd, uOr, uNot, uAndV, uOrV, uNotV, uIte, uNil, uCons, uTup, uLst, uNoPart, uPart, uSl, vSl, uFn, gP, uIsi, uBM, uBM0, gM, gAppend, gPop, uCall, uA0, uA1, gId, gApp, isSeq, isRng, isRng2, uDGet, bodyE, startE, ugName, List.map_cons, List.map_nil, List.length_cons, List.length_nil, List.cons_append, List.nil_append, List.getElem?_cons_zero, List.getElem?_cons_succ, List.set_cons_zero, List.set_cons_succ, List.replicate, Nat.add_one_sub_one, Nat.sub_self, Nat.reduceSub, Nat.reduceAdd, Option.some.injEq, exists_eq_left', exists_eq_left, exists_and_left, true_and, and_true, D.bl.injEq, D.int.injEq, D.str.injEq, D.tup.injEq, D.ref.injEq, Ob.lst.injEq, List.cons.injEq, fTup, if_true, if_false, ite_true, ite_false, Bool.false_eq_true, Bool.true_eq_false, reduceIte, Ob.ins.injEq, Ob.dic.injEq, usFor, uMeth, uProp, uLenI, uMake, uCMeth, uLc, vSeq, uA2, uA3, gNon, sup_same, sup_sup, dIx, dNot, dIsNot, Bool.not_true, Bool.not_false, hg]
    exact tk1_of hm hm2 sup_same (hfl (fun b hb => sup_ne hb) sup_same) fun r S2 r0 r1 h3 h4 => q r S2 r0 r1 h3 fun b hb => by rw [h4 b hb, sup_ne hb]
end K82

set_option Elab.async false
set_option linter.all false
set_option maxRecDepth 100000
set_option maxHeartbeats 4000000
namespace K82
open PySem PySem.Spec L2 SL NumText
variable {K : PySem.W.Frag} {c : Cs}
theorem take_of {S : SS} {f cl : Addr} {many : Int} {Q : QN} {X : QX} (h : Flw S f cl) (hm : 0 < many) (hm2 : many ≤ 2000000000) (k : ∀ r S', 0 ≤ r → r < many → Flw S' f cl → (∀ b, b ≠ f → S' b = S b) → Q (.int r) S') : sp__law_take [.ref f, .int many] S Q X :=
  ⟨f, cl, many, rfl, hm, hm2, h, k⟩
/-- all but f stays -/
def KeepX (S : SS) (f : Addr) (S1 : SS) : Prop := ∀ b o, b ≠ f → S b = some o → S1 b = some o
theorem KeepX.refl {S : SS} {f : Addr} : KeepX S f S := fun _ _ _ h => h
theorem KeepX.eq {S S1 : SS} {f : Addr} (h : ∀ b, b ≠ f → S1 b = S b) : KeepX S f S1 := fun b o hb e => by rw [h b hb]; exact e
theorem KeepX.trans {S S1 S2 : SS} {f : Addr} (h : KeepX S f S1) (h2 : KeepX S1 f S2) : KeepX S f S2 := fun b u hb e => h2 b u hb (h b u hb e)
theorem KeepX.new {S S1 : SS} {f p : Addr} {o : Ob} (h : KeepX S f S1) (n : S1 p = none) : KeepX S f (SL.sup S1 p o) := fun b u hb e => by
  have := h b u hb e
  rw [sup_ne (fun z => by rw [z, n] at this; cases this)]; exact this
theorem KeepX.then {S S1 S2 : SS} {f : Addr} (h : KeepX S f S1) (h2 : ∀ b, b ≠ f → S2 b = S1 b) : KeepX S f S2 := h.trans (.eq h2)
def updf (S : SS) (f : Addr) (S3 : SS) : SS := fun b => if b = f then S3 f else S b
theorem fx_fin {S S3 : SS} {f cl : Addr} (h0 : Flw S f cl) (h : Flw S3 f cl) (kx : KeepX S f S3) : Flw (updf S f S3) f cl ∧ Le (updf S f S3) S3 ∧ ∀ b, b ≠ f → updf S f S3 b = S b := by
  refine ⟨⟨h.ne, ?_, ?_⟩, fun b o e => ?_, fun b hb => by unfold updf; rw [if_neg hb]⟩
  · obtain ⟨xs, e, r⟩ := h0.cells
    exact ⟨xs, by unfold updf; rw [if_neg h.ne]; exact e, r⟩
  · obtain ⟨a, g, t, e⟩ := h.row
    exact ⟨a, g, t, by unfold updf; rw [if_pos rfl]; exact e⟩
  · unfold updf at e
    split at e
    · rename_i hb; rw [hb]; exact e
    · rename_i hb; exact kx b o hb e
theorem Flw.fr {S : SS} {f cl p : Addr} (h : Flw S f cl) (hp : S p = none) : p ≠ f ∧ cl ≠ p := by
  obtain ⟨xs, e, _⟩ := h.cells
  obtain ⟨a, g, t, e2⟩ := h.row
  exact ⟨(fun z => by rw [z, e2] at hp; cases hp), (fun z => by rw [← z, e] at hp; cases hp)⟩
theorem Flw.new {S : SS} {f cl p : Addr} {o : Ob} (h : Flw S f cl) (hp : S p = none) : Flw (SL.sup S p o) f cl := h.le (Le.new hp)
theorem Flw.put {S : SS} {f cl p : Addr} {o : Ob} (h : Flw S f cl) (h1 : p ≠ f) (h2 : cl ≠ p) : Flw (SL.sup S p o) f cl := h.keep (sup_ne (Ne.symm h1)) (sup_ne h2)
theorem sum_ones : ∀ (acc : List (List Nat)), (∀ x ∈ acc, x.length = 1) → (acc.map List.length).sum = acc.length
  | [], _ => rfl
  | a :: l, h => by
    rw [List.map_cons, List.sum_cons, sum_ones l fun x hx => h x (List.mem_cons_of_mem _ hx), h a List.mem_cons_self, List.length_cons]; omega
/-- one of a tuple -/
theorem ix_tup {S : SS} {xs : List D} {r : Int} (h0 : 0 ≤ r) (h1 : r < xs.length) : ∃ d, dIx S (.tup xs) (.int r) = some d ∧ d ∈ xs := by
  obtain ⟨m, rfl⟩ : ∃ m : Nat, r = m := ⟨r.toNat, by omega⟩
  refine ⟨xs[m]'(by omega), ?_, List.getElem_mem _⟩
  simp only [dIx]
  rw [SL.atI_nat, List.getElem?_eq_getElem (by omega)]
theorem ix_pick {S : SS} {x : List Nat} {r : Int} (hx : x.length ≤ 1000) (h0 : 0 ≤ r) (h1 : r < x.length) : ∃ a, dIx S (.str x) (.int r) = some (.str [a]) ∧ a ∈ x := by
  obtain ⟨m, rfl⟩ : ∃ m : Nat, r = m := ⟨r.toNat, by omega⟩
  refine ⟨x[m]'(by omega), ?_, List.getElem_mem _⟩
  simp only [dIx]
  rw [if_pos (szl (by omega)), SL.atI_nat, List.getElem?_eq_getElem (by omega)]; rfl
theorem join_nil : ∀ {ls : List (List Nat)}, sJoin [] ls = ls.flatten := by
  intro ls
  have e : sJoin [] ls = TL.joinL [] ls := by
    unfold sJoin
    rw [TL.join_eq]
    have := TL.tl_join (tx []) (ls.map tx)
    unfold TL.tl at this
    rw [this, tx_cps, List.map_map]
    congr 1
    have : ((fun x : Str => x.cps.toList) ∘ tx) = id := by funext z; simp [tx_cps]
    rw [this, List.map_id]
  rw [e]
  have key : ∀ (ls : List (List Nat)) (x : List Nat), TL.joinL [] (x :: ls) = (x :: ls).flatten := by
    intro ls
    induction ls with
    | nil => intro x; simp [TL.joinL]
    | cons y ys ih => intro x; rw [TL.joinL, ih]; simp
  cases ls with
  | nil => rfl
  | cons x xs => exact key xs x
theorem strs_map : ∀ {l : List (List Nat)}, strsOf (l.map .str) = some l
  | [] => rfl
  | x :: l => by rw [List.map_cons, strsOf, strs_map]; rfl
theorem irng_succ {lo : Int} {j : Nat} : irng lo (j + 1) = .int lo :: irng (lo + 1) j := by
  unfold irng
  rw [List.range_succ_eq_map, List.map_cons, List.map_map]
  congr 1
  · simp
  · apply List.map_congr_left; intro a _; simp; omega
abbrev SIG : List Nat := cs " !#$&'()*+,-./0123456789:;<=>?@ABCDEFGHIJKLMNOPQRSTUVWXYZ[]^_`abcdefghijklmnopqrstuvwxyz{|}~\t\\"
theorem sig_len : SIG.length = 94 := by decide +kernel
theorem sig_10 : ∀ a ∈ SIG, a ≠ 10 := by decide +kernel
def TxtOk (t : List Nat) : Prop := t.length ≤ 12 ∧ 10 ∉ t
def sp__law_text : FS := fun ds S Q X => ∃ f cl, ds = [.ref f] ∧ Flw S f cl ∧ ∀ t S', TxtOk t → Flw S' f cl → (∀ b, b ≠ f → S' b = S b) → Q (.str t) S'
theorem sg_lc {f cl p : Addr} {env : En} {Q : SS → Prop} {S0 : SS} (hw : (wipeE env [2])[0]? = some (some (.ref f))) (hw1 : (wipeE env [2])[1]? = some (some (.str SIG))) : ∀ (j : Nat) (lo : Int) (acc : List (List Nat)) (S : SS), S p = some (.lst (acc.map .str)) → p ≠ f → cl ≠ p → S0 p = none → acc.length + j ≤ 100 → (∀ x ∈ acc, x.length = 1 ∧ 10 ∉ x) → Flw S f cl → KeepX S0 f S →
    (∀ (acc' : List (List Nat)) (S' : SS), S' p = some (.lst (acc'.map .str)) → acc'.length = acc.length + j → (∀ x ∈ acc', x.length = 1 ∧ 10 ∉ x) → Flw S' f cl → KeepX S0 f S' → Q S') →
    lcL (ugName 2) utYes (uBin dIx (uVar 1) (uCall sp__law_take gId (uA1 2 (uCons (uVar 0) (uCons (uFn (gP fLen) (uCons (uVar 1) uNil)) uNil))))) (fun _ => True) [2] p env Q (irng lo j) S
  | 0, lo, acc, S, hp, _, _, _, _, ha, hf, kx, k => ⟨trivial, k acc S hp (by simp) ha hf kx⟩
  | j + 1, lo, acc, S, hp, hpf, hpc, h0, hl, ha, hf, kx, k => by
    rw [irng_succ]
    have hg : ((wipeE env [2]).set 2 (some (.int lo)))[0]? = some (some (.ref f)) := by rw [List.getElem?_set_ne (by decide)]; exact hw
    have hg1 : ((wipeE env [2]).set 2 (some (.int lo)))[1]? = some (some (.str SIG)) := by rw [List.getElem?_set_ne (by decide)]; exact hw1
    have hz : SIG.length ≤ sizeLine := by rw [sig_len]; exact szl (by decide)
    refine ⟨trivial, ?_⟩
    simp only [dAdd, dAddI, dSub, dEq, dNe, dLt, dLe, dGt, dGe, dIs, SL.isNon, dNeg, fLen, lenD, isTy, mLstrip, seqOf, tru, tyOf, Option.map_some, String.reduceEq, usNil, usSeq, usSet, usExpr, usRet, usRetN, usIf, usBrk, usCnt, usAug, usAsg, usDPut, usRaise, usSub, uVar, uC, uBin, uChain, uUn, uTru, uTb, uAnd, uOr, uNot, uAndV, uOrV, uNotV, uIte, uNil, uCons, uTup, uLst, uNoPart, uPart, uSl, vSl, uFn, gP, uIsi, uBM, uBM0, gM, gAppend, gPop, uCall, uA0, uA1, gId, gApp, isSeq, isRng, isRng2, uDGet, bodyE, startE, ugName, List.map_cons, List.map_nil, List.length_cons, List.length_nil, List.cons_append, List.nil_append, List.getElem?_cons_zero, List.getElem?_cons_succ, List.set_cons_zero, List.set_cons_succ, List.replicate, Nat.add_one_sub_one, Nat.sub_self, Nat.reduceSub, Nat.reduceAdd, Option.some.injEq, exists_eq_left', exists_eq_left, exists_and_left, true_and, and_true, D.bl.injEq, D.int.injEq, D.str.injEq, D.tup.injEq, D.ref.injEq, Ob.lst.injEq, List.cons.injEq, fTup, if_true, if_false, ite_true, ite_false, Bool.false_eq_true, Bool.true_eq_false, reduceIte, utYes, hg, hg1, hz]
    refine take_of hf (by rw [sig_len]; decide) (by rw [sig_len]; decide) fun r S1 r0 r1 hf1 hb1 => ?_
    obtain ⟨a, ea, hain⟩ := ix_pick (S := S1) (x := SIG) (by rw [sig_len]; decide) r0 r1
    simp only [dAdd, dAddI, dSub, dEq, dNe, dLt, dLe, dGt, dGe, dIs, SL.isNon, dNeg, fLen, lenD, isTy, mLstrip, seqOf, tru, tyOf, Option.map_some, String.reduceEq, usNil, usSeq, usSet, usExpr, usRet, usRetN, usIf, usBrk, usCnt, usAug, usAsg, usDPut, usRaise, usSub, uVar, uC, uBin, uChain, uUn, uTru, uTb, uAnd, uOr, uNot, uAndV, uOrV, uNotV, uIte, uNil, uCons, uTup, uLst, uNoPart, uPart, uSl, vSl, uFn, gP, uIsi, uBM, uBM0, gM, gAppend, gPop, uCall, uA0, uA1, gId, gApp, isSeq, isRng, isRng2, uDGet, bodyE, startE, ugName, List.map_cons, List.map_nil, List.length_cons, List.length_nil, List.cons_append, List.nil_append, List.getElem?_cons_zero, List.getElem?_cons_succ, List.set_cons_zero, List.set_cons_succ, List.replicate, Nat.add_one_sub_one, Nat.sub_self, Nat.reduceSub, Nat.reduceAdd, Option.some.injEq, exists_eq_left', exists_eq_left, exists_and_left, true_and, and_true, D.bl.injEq, D.int.injEq, D.str.injEq, D.tup.injEq, D.ref.injEq, Ob.lst.injEq, List.cons.injEq, fTup, if_true, if_false, ite_true, ite_false, Bool.false_eq_true, Bool.true_eq_false, reduceIte, ea]
    have hp1 : S1 p = some (.lst (acc.map .str)) := by rw [hb1 p hpf]; exact hp
    refine ⟨_, hp1, by rw [List.length_map, sizeLine_eq]; omega, ?_⟩
    have e1 : acc.map D.str ++ [.str [a]] = (acc ++ [[a]]).map .str := by simp
    rw [e1]
    refine sg_lc hw hw1 j (lo + 1) (acc ++ [[a]]) _ sup_same hpf hpc h0 (by simp; omega) (fun y hy => by
      rcases List.mem_append.mp hy with z | z
      · exact ha y z
      · simp at z; rw [z]; exact ⟨rfl, by simp; exact fun z => sig_10 a hain z.symm⟩) (hf1.put hpf hpc) (fun b o hb e => ?_) fun acc' S' g1 g2 g3 g4 g5 => k acc' S' g1 (by rw [g2]; simp; omega) g3 g4 g5
    have hbp : b ≠ p := fun z => by rw [z, h0] at e; cases e
    rw [sup_ne hbp, hb1 b hb]; exact kx b o hb e
theorem ok_law_text {ds : List D} {S : SS} {Q : QN} {X : QX} (h : sp__law_text ds S Q X) : u__law_text K c sp__law_take (bodyE Q X) (startE N__law_text ds) S := by
  obtain ⟨f, cl, rfl, hf, q⟩ := h
  have fin : ∀ {S3 : SS} {t : List Nat}, Flw S3 f cl → KeepX S f S3 → TxtOk t → ∃ S', Le S' S3 ∧ Q (.str t) S' := fun {S3 t} h1 h2 h3 => by
    obtain ⟨g1, g2, g3⟩ := fx_fin hf h1 h2
    exact ⟨_, g2, q t _ h3 g1 g3⟩
  unfold u__law_text
  simp only [dAdd, dAddI, dSub, dEq, dNe, dLt, dLe, dGt, dGe, dIs, SL.isNon, dNeg, fLen, lenD, isTy, mLstrip, seqOf, tru, tyOf, Option.map_some, String.reduceEq, usNil, usSeq, usSet, usExpr, usRet, usRetN, usIf, usBrk, usCnt, usAug, usAsg, usDPut, usRaise, usSub, uVar, uC, uBin, uChain, uUn, uTru, uTb, uAnd, uOr, uNot, uAndV, uOrV, uNotV, uIte, uNil, uCons, uTup, uLst, uNoPart, uPart, uSl, vSl, uFn, gP, uIsi, uBM, uBM0, gM, gAppend, gPop, uCall, uA0, uA1, gId, gApp, isSeq, isRng, isRng2, uDGet, bodyE, startE, ugName, List.map_cons, List.map_nil, List.length_cons, List.length_nil, List.cons_append, List.nil_append, List.getElem?_cons_zero, List.getElem?_cons_succ, List.set_cons_zero, List.set_cons_succ, List.replicate, Nat.add_one_sub_one, Nat.sub_self, Nat.reduceSub, Nat.reduceAdd, Option.some.injEq, exists_eq_left', exists_eq_left, exists_and_left, true_and, and_true, D.bl.injEq, D.int.injEq, D.str.injEq, D.tup.injEq, D.ref.injEq, Ob.lst.injEq, List.cons.injEq, fTup, if_true, if_false, ite_true, ite_false, Bool.false_eq_true, Bool.true_eq_false, reduceIte]
  refine take_of hf (by decide) (by decide) fun r S1 r0 r1 hf1 hb1 => ?_
  simp only [dAdd, dAddI, dSub, dEq, dNe, dLt, dLe, dGt, dGe, dIs, SL.isNon, dNeg, fLen, lenD, isTy, mLstrip, seqOf, tru, tyOf, Option.map_some, String.reduceEq, usNil, usSeq, usSet, usExpr, usRet, usRetN, usIf, usBrk, usCnt, usAug, usAsg, usDPut, usRaise, usSub, uVar, uC, uBin, uChain, uUn, uTru, uTb, uAnd, uOr, uNot, uAndV, uOrV, uNotV, uIte, uNil, uCons, uTup, uLst, uNoPart, uPart, uSl, vSl, uFn, gP, uIsi, uBM, uBM0, gM, gAppend, gPop, uCall, uA0, uA1, gId, gApp, isSeq, isRng, isRng2, uDGet, bodyE, startE, ugName, List.map_cons, List.map_nil, List.length_cons, List.length_nil, List.cons_append, List.nil_append, List.getElem?_cons_zero, List.getElem?_cons_succ, List.set_cons_zero, List.set_cons_succ, List.replicate, Nat.add_one_sub_one, Nat.sub_self, Nat.reduceSub, Nat.reduceAdd, Option.some.injEq, exists_eq_left', exists_eq_left, exists_and_left, true_and, and_true, D.bl.injEq, D.int.injEq, D.str.injEq, D.tup.injEq, D.ref.injEq, Ob.lst.injEq, List.cons.injEq, fTup, if_true, if_false, ite_true, ite_false, Bool.false_eq_true, Bool.true_eq_false, reduceIte]
  by_cases h0 : (r == 0) = true
  · simp only [dAdd, dAddI, dSub, dEq, dNe, dLt, dLe, dGt, dGe, dIs, SL.isNon, dNeg, fLen, lenD, isTy, mLstrip, seqOf, tru, tyOf, Option.map_some, String.reduceEq, usNil, usSeq, usSet, usExpr, usRet, usRetN, usIf, usBrk, usCnt, usAug, usAsg, usDPut, usRaise, usSub, uVar, uC, uBin, uChain, uUn, uTru, uTb, uAnd, uOr, uNot, uAndV, uOrV, uNotV, uIte, uNil, uCons, uTup, uLst, uNoPart, uPart, uSl, vSl, uFn, gP, uIsi, uBM, uBM0, gM, gAppend, gPop, uCall, uA0, uA1, gId, gApp, isSeq, isRng, isRng2, uDGet, bodyE, startE, ugName, List.map_cons, List.map_nil, List.length_cons, List.length_nil, List.cons_append, List.nil_append, List.getElem?_cons_zero, List.getElem?_cons_succ, List.set_cons_zero, List.set_cons_succ, List.replicate, Nat.add_one_sub_one, Nat.sub_self, Nat.reduceSub, Nat.reduceAdd, Option.some.injEq, exists_eq_left', exists_eq_left, exists_and_left, true_and, and_true, D.bl.injEq, D.int.injEq, D.str.injEq, D.tup.injEq, D.ref.injEq, Ob.lst.injEq, List.cons.injEq, fTup, if_true, if_false, ite_true, ite_false, Bool.false_eq_true, Bool.true_eq_false, reduceIte, h0]
    refine ⟨by rw [sizeLine_eq]; decide, ?_⟩
    refine take_of hf1 (by decide) (by decide) fun r2 S2 r20 r21 hf2 hb2 => ?_
    obtain ⟨d, ed, hd⟩ := ix_tup (S := S2) (xs := [.str (cs ""), .str (cs "0 a"), .str (cs "1 "), .str (cs " "), .str (cs "N"), .str (cs "(a,1)"), .str (cs "2 b"), .str (cs "00")]) r20 (by simpa using r21)
    simp only [dIx] at ed
    obtain ⟨t, rfl, ht⟩ : ∃ t, d = .str t ∧ TxtOk t := by
      simp only [List.mem_cons, List.not_mem_nil, or_false] at hd
      rcases hd with z | z | z | z | z | z | z | z <;> exact ⟨_, z, by decide +kernel, by decide +kernel⟩
    simp only [dAdd, dAddI, dSub, dEq, dNe, dLt, dLe, dGt, dGe, dIs, SL.isNon, dNeg, fLen, lenD, isTy, mLstrip, seqOf, tru, tyOf, Option.map_some, String.reduceEq, usNil, usSeq, usSet, usExpr, usRet, usRetN, usIf, usBrk, usCnt, usAug, usAsg, usDPut, usRaise, usSub, uVar, uC, uBin, uChain, uUn, uTru, uTb, uAnd, uOr, uNot, uAndV, uOrV, uNotV, uIte, uNil, uCons, uTup, uLst, uNoPart, uPart, uSl, vSl, uFn, gP, uIsi, uBM, uBM0, gM, gAppend, gPop, uCall, uA0, uA1, gId, gApp, isSeq, isRng, isRng2, uDGet, bodyE, startE, ugName, List.map_cons, List.map_nil, List.length_cons, List.length_nil, List.cons_append, List.nil_append, List.getElem?_cons_zero, List.getElem?_cons_succ, List.set_cons_zero, List.set_cons_succ, List.replicate, Nat.add_one_sub_one, Nat.sub_self, Nat.reduceSub, Nat.reduceAdd, Option.some.injEq, exists_eq_left', exists_eq_left, exists_and_left, true_and, and_true, D.bl.injEq, D.int.injEq, D.str.injEq, D.tup.injEq, D.ref.injEq, Ob.lst.injEq, List.cons.injEq, fTup, if_true, if_false, ite_true, ite_false, Bool.false_eq_true, Bool.true_eq_false, reduceIte, dIx, ed]
    exact fin hf2 ((KeepX.eq hb1).then hb2) ht
  · simp only [dAdd, dAddI, dSub, dEq, dNe, dLt, dLe, dGt, dGe, dIs, SL.isNon, dNeg, fLen, lenD, isTy, mLstrip, seqOf, tru, tyOf, Option.map_some, String.reduceEq, usNil, usSeq, usSet, usExpr, usRet, usRetN, usIf, usBrk, usCnt, usAug, usAsg, usDPut, usRaise, usSub, uVar, uC, uBin, uChain, uUn, uTru, uTb, uAnd, uOr, uNot, uAndV, uOrV, uNotV, uIte, uNil, uCons, uTup, uLst, uNoPart, uPart, uSl, vSl, uFn, gP, uIsi, uBM, uBM0, gM, gAppend, gPop, uCall, uA0, uA1, gId, gApp, isSeq, isRng, isRng2, uDGet, bodyE, startE, ugName, List.map_cons, List.map_nil, List.length_cons, List.length_nil, List.cons_append, List.nil_append, List.getElem?_cons_zero, List.getElem?_cons_succ, List.set_cons_zero, List.set_cons_succ, List.replicate, Nat.add_one_sub_one, Nat.sub_self, Nat.reduceSub, Nat.reduceAdd, Option.some.injEq, exists_eq_left', exists_eq_left, exists_and_left, true_and, and_true, D.bl.injEq, D.int.injEq, D.str.injEq, D.tup.injEq, D.ref.injEq, Ob.lst.injEq, List.cons.injEq, fTup, if_true, if_false, ite_true, ite_false, Bool.false_eq_true, Bool.true_eq_false, reduceIte, h0, uLc]
    refine take_of hf1 (by decide) (by decide) fun j S2 j0 j1 hf2 hb2 => ?_
    refine ⟨j, rfl, by omega, by omega, fun p hp => ?_⟩
    obtain ⟨pf, pc⟩ := hf2.fr hp
    have hp0 : S p = none := by rw [← hb1 p pf, ← hb2 p pf]; exact hp
    have kx2 : KeepX S f S2 := (KeepX.eq hb1).then hb2
    refine sg_lc (S0 := S) (by simp [wipeE]) (by simp [wipeE]) j.toNat 0 [] _ sup_same pf pc hp0 (by simp; omega) (fun x hx => by cases hx) (hf2.new hp) (kx2.new hp) fun acc S3 h3 hl ha hf3 kx3 => ?_
    have hsum : (acc.map List.length).sum = acc.length := sum_ones acc fun x hx => (ha x hx).1
    refine ⟨[], .ref p, _, acc, by rw [c_em], rfl, by simp only [seqOf, h3], strs_map, by simp only [List.length_nil, Nat.mul_zero, Nat.add_zero]; rw [hsum, hl]; simp; omega, ?_⟩
    rw [join_nil]
    refine fin hf3 kx3 ⟨by rw [List.length_flatten, hsum, hl]; simp; omega, fun z => ?_⟩
    obtain ⟨x, hx, hx2⟩ := List.mem_flatten.mp z
    exact (ha x hx).2 hx2
theorem text_of {S : SS} {f cl : Addr} {Q : QN} {X : QX} (h : Flw S f cl) (k : ∀ t S', TxtOk t → Flw S' f cl → (∀ b, b ≠ f → S' b = S b) → Q (.str t) S') : sp__law_text [.ref f] S Q X := ⟨f, cl, rfl, h, k⟩
def sp__law_number : FS := fun ds S Q X => ∃ f cl, ds = [.ref f] ∧ Flw S f cl ∧ ∀ n S', 0 ≤ n → n ≤ 900000000 → Flw S' f cl → (∀ b, b ≠ f → S' b = S b) → Q (.int n) S'
theorem ok_law_number {ds : List D} {S : SS} {Q : QN} {X : QX} (h : sp__law_number ds S Q X) : u__law_number K c sp__law_take (bodyE Q X) (startE N__law_number ds) S := by
  obtain ⟨f, cl, rfl, hf, q⟩ := h
  unfold u__law_number
  simp only [dAdd, dAddI, dSub, dEq, dNe, dLt, dLe, dGt, dGe, dIs, SL.isNon, dNeg, fLen, lenD, isTy, mLstrip, seqOf, tru, tyOf, Option.map_some, String.reduceEq, usNil, usSeq, usSet, usExpr, usRet, usRetN, usIf, usBrk, usCnt, usAug, usAsg, usDPut, usRaise, usSub, uVar, uC, uBin, uChain, uUn, uTru, uTb, uAnd, uOr, uNot, uAndV, uOrV, uNotV, uIte, uNil, uCons, uTup, uLst, uNoPart, uPart, uSl, vSl, uFn, gP, uIsi, uBM, uBM0, gM, gAppend, gPop, uCall, uA0, uA1, gId, gApp, isSeq, isRng, isRng2, uDGet, bodyE, startE, ugName, List.map_cons, List.map_nil, List.length_cons, List.length_nil, List.cons_append, List.nil_append, List.getElem?_cons_zero, List.getElem?_cons_succ, List.set_cons_zero, List.set_cons_succ, List.replicate, Nat.add_one_sub_one, Nat.sub_self, Nat.reduceSub, Nat.reduceAdd, Option.some.injEq, exists_eq_left', exists_eq_left, exists_and_left, true_and, and_true, D.bl.injEq, D.int.injEq, D.str.injEq, D.tup.injEq, D.ref.injEq, Ob.lst.injEq, List.cons.injEq, fTup, if_true, if_false, ite_true, ite_false, Bool.false_eq_true, Bool.true_eq_false, reduceIte]
  refine take_of hf (by decide) (by decide) fun r S1 r0 r1 hf1 hb1 => ?_
  simp only [dAdd, dAddI, dSub, dEq, dNe, dLt, dLe, dGt, dGe, dIs, SL.isNon, dNeg, fLen, lenD, isTy, mLstrip, seqOf, tru, tyOf, Option.map_some, String.reduceEq, usNil, usSeq, usSet, usExpr, usRet, usRetN, usIf, usBrk, usCnt, usAug, usAsg, usDPut, usRaise, usSub, uVar, uC, uBin, uChain, uUn, uTru, uTb, uAnd, uOr, uNot, uAndV, uOrV, uNotV, uIte, uNil, uCons, uTup, uLst, uNoPart, uPart, uSl, vSl, uFn, gP, uIsi, uBM, uBM0, gM, gAppend, gPop, uCall, uA0, uA1, gId, gApp, isSeq, isRng, isRng2, uDGet, bodyE, startE, ugName, List.map_cons, List.map_nil, List.length_cons, List.length_nil, List.cons_append, List.nil_append, List.getElem?_cons_zero, List.getElem?_cons_succ, List.set_cons_zero, List.set_cons_succ, List.replicate, Nat.add_one_sub_one, Nat.sub_self, Nat.reduceSub, Nat.reduceAdd, Option.some.injEq, exists_eq_left', exists_eq_left, exists_and_left, true_and, and_true, D.bl.injEq, D.int.injEq, D.str.injEq, D.tup.injEq, D.ref.injEq, Ob.lst.injEq, List.cons.injEq, fTup, if_true, if_false, ite_true, ite_false, Bool.false_eq_true, Bool.true_eq_false, reduceIte]
  by_cases h0 : (r == 0) = true
  · simp only [dAdd, dAddI, dSub, dEq, dNe, dLt, dLe, dGt, dGe, dIs, SL.isNon, dNeg, fLen, lenD, isTy, mLstrip, seqOf, tru, tyOf, Option.map_some, String.reduceEq, usNil, usSeq, usSet, usExpr, usRet, usRetN, usIf, usBrk, usCnt, usAug, usAsg, usDPut, usRaise, usSub, uVar, uC, uBin, uChain, uUn, uTru, uTb, uAnd, uOr, uNot, uAndV, uOrV, uNotV, uIte, uNil, uCons, uTup, uLst, uNoPart, uPart, uSl, vSl, uFn, gP, uIsi, uBM, uBM0, gM, gAppend, gPop, uCall, uA0, uA1, gId, gApp, isSeq, isRng, isRng2, uDGet, bodyE, startE, ugName, List.map_cons, List.map_nil, List.length_cons, List.length_nil, List.cons_append, List.nil_append, List.getElem?_cons_zero, List.getElem?_cons_succ, List.set_cons_zero, List.set_cons_succ, List.replicate, Nat.add_one_sub_one, Nat.sub_self, Nat.reduceSub, Nat.reduceAdd, Option.some.injEq, exists_eq_left', exists_eq_left, exists_and_left, true_and, and_true, D.bl.injEq, D.int.injEq, D.str.injEq, D.tup.injEq, D.ref.injEq, Ob.lst.injEq, List.cons.injEq, fTup, if_true, if_false, ite_true, ite_false, Bool.false_eq_true, Bool.true_eq_false, reduceIte, h0]
    refine ⟨by rw [sizeLine_eq]; decide, ?_⟩
    refine take_of hf1 (by decide) (by decide) fun r2 S2 r20 r21 hf2 hb2 => ?_
    obtain ⟨d, ed, hd⟩ := ix_tup (S := S2) (xs := [.int 0, .int 9, .int 99, .int 899999999, .int 900000000, .int 1, .int 10]) r20 (by simpa using r21)
    simp only [dIx] at ed
    obtain ⟨n, rfl, n0, n1⟩ : ∃ n : Int, d = .int n ∧ 0 ≤ n ∧ n ≤ 900000000 := by
      simp only [List.mem_cons, List.not_mem_nil, or_false] at hd
      rcases hd with z | z | z | z | z | z | z <;> exact ⟨_, z, by decide, by decide⟩
    simp only [dAdd, dAddI, dSub, dEq, dNe, dLt, dLe, dGt, dGe, dIs, SL.isNon, dNeg, fLen, lenD, isTy, mLstrip, seqOf, tru, tyOf, Option.map_some, String.reduceEq, usNil, usSeq, usSet, usExpr, usRet, usRetN, usIf, usBrk, usCnt, usAug, usAsg, usDPut, usRaise, usSub, uVar, uC, uBin, uChain, uUn, uTru, uTb, uAnd, uOr, uNot, uAndV, uOrV, uNotV, uIte, uNil, uCons, uTup, uLst, uNoPart, uPart, uSl, vSl, uFn, gP, uIsi, uBM, uBM0, gM, gAppend, gPop, uCall, uA0, uA1, gId, gApp, isSeq, isRng, isRng2, uDGet, bodyE, startE, ugName, List.map_cons, List.map_nil, List.length_cons, List.length_nil, List.cons_append, List.nil_append, List.getElem?_cons_zero, List.getElem?_cons_succ, List.set_cons_zero, List.set_cons_succ, List.replicate, Nat.add_one_sub_one, Nat.sub_self, Nat.reduceSub, Nat.reduceAdd, Option.some.injEq, exists_eq_left', exists_eq_left, exists_and_left, true_and, and_true, D.bl.injEq, D.int.injEq, D.str.injEq, D.tup.injEq, D.ref.injEq, Ob.lst.injEq, List.cons.injEq, fTup, if_true, if_false, ite_true, ite_false, Bool.false_eq_true, Bool.true_eq_false, reduceIte, Ob.ins.injEq, Ob.dic.injEq, usFor, uMeth, uProp, uLenI, uMake, uCMeth, uLc, vSeq, uA2, uA3, gNon, sup_same, sup_sup, dIx, dNot, dIsNot, Bool.not_true, Bool.not_false, ed]
    exact ⟨S2, Le.refl _, q n S2 n0 n1 hf2 fun b hb => by rw [hb2 b hb, hb1 b hb]⟩
  · simp only [dAdd, dAddI, dSub, dEq, dNe, dLt, dLe, dGt, dGe, dIs, SL.isNon, dNeg, fLen, lenD, isTy, mLstrip, seqOf, tru, tyOf, Option.map_some, String.reduceEq, usNil, usSeq, usSet, usExpr, usRet, usRetN, usIf, usBrk, usCnt, usAug, usAsg, usDPut, usRaise, usSub, uVar, uC, uBin, uChain, uUn, uTru, uTb, uAnd, uOr, uNot, uAndV, uOrV, uNotV, uIte, uNil, uCons, uTup, uLst, uNoPart, uPart, uSl, vSl, uFn, gP, uIsi, uBM, uBM0, gM, gAppend, gPop, uCall, uA0, uA1, gId, gApp, isSeq, isRng, isRng2, uDGet, bodyE, startE, ugName, List.map_cons, List.map_nil, List.length_cons, List.length_nil, List.cons_append, List.nil_append, List.getElem?_cons_zero, List.getElem?_cons_succ, List.set_cons_zero, List.set_cons_succ, List.replicate, Nat.add_one_sub_one, Nat.sub_self, Nat.reduceSub, Nat.reduceAdd, Option.some.injEq, exists_eq_left', exists_eq_left, exists_and_left, true_and, and_true, D.bl.injEq, D.int.injEq, D.str.injEq, D.tup.injEq, D.ref.injEq, Ob.lst.injEq, List.cons.injEq, fTup, if_true, if_false, ite_true, ite_false, Bool.false_eq_true, Bool.true_eq_false, reduceIte, h0]
    by_cases h1 : (r == 1) = true
    · simp only [dAdd, dAddI, dSub, dEq, dNe, dLt, dLe, dGt, dGe, dIs, SL.isNon, dNeg, fLen, lenD, isTy, mLstrip, seqOf, tru, tyOf, Option.map_some, String.reduceEq, usNil, usSeq, usSet, usExpr, usRet, usRetN, usIf, usBrk, usCnt, usAug, usAsg, usDPut, usRaise, usSub, uVar, uC, uBin, uChain, uUn, uTru, uTb, uAnd, uOr, uNot, uAndV, uOrV, uNotV, uIte, uNil, uCons, uTup, uLst, uNoPart, uPart, uSl, vSl, uFn, gP, uIsi, uBM, uBM0, gM, gAppend, gPop, uCall, uA0, uA1, gId, gApp, isSeq, isRng, isRng2, uDGet, bodyE, startE, ugName, List.map_cons, List.map_nil, List.length_cons, List.length_nil, List.cons_append, List.nil_append, List.getElem?_cons_zero, List.getElem?_cons_succ, List.set_cons_zero, List.set_cons_succ, List.replicate, Nat.add_one_sub_one, Nat.sub_self, Nat.reduceSub, Nat.reduceAdd, Option.some.injEq, exists_eq_left', exists_eq_left, exists_and_left, true_and, and_true, D.bl.injEq, D.int.injEq, D.str.injEq, D.tup.injEq, D.ref.injEq, Ob.lst.injEq, List.cons.injEq, fTup, if_true, if_false, ite_true, ite_false, Bool.false_eq_true, Bool.true_eq_false, reduceIte, h1]
      exact take_of hf1 (by decide) (by decide) fun r2 S2 r20 r21 hf2 hb2 => ⟨S2, Le.refl _, q r2 S2 r20 (by omega) hf2 fun b hb => by rw [hb2 b hb, hb1 b hb]⟩
    · simp only [dAdd, dAddI, dSub, dEq, dNe, dLt, dLe, dGt, dGe, dIs, SL.isNon, dNeg, fLen, lenD, isTy, mLstrip, seqOf, tru, tyOf, Option.map_some, String.reduceEq, usNil, usSeq, usSet, usExpr, usRet, usRetN, usIf, usBrk, usCnt, usAug, usAsg, usDPut, usRaise, usSub, uVar, uC, uBin, uChain, uUn, uTru, uTb, uAnd, uOr, uNot, uAndV, uOrV, uNotV, uIte, uNil, uCons, uTup, uLst, uNoPart, uPart, uSl, vSl, uFn, gP, uIsi, uBM, uBM0, gM, gAppend, gPop, uCall, uA0, uA1, gId, gApp, isSeq, isRng, isRng2, uDGet, bodyE, startE, ugName, List.map_cons, List.map_nil, List.length_cons, List.length_nil, List.cons_append, List.nil_append, List.getElem?_cons_zero, List.getElem?_cons_succ, List.set_cons_zero, List.set_cons_succ, List.replicate, Nat.add_one_sub_one, Nat.sub_self, Nat.reduceSub, Nat.reduceAdd, Option.some.injEq, exists_eq_left', exists_eq_left, exists_and_left, true_and, and_true, D.bl.injEq, D.int.injEq, D.str.injEq, D.tup.injEq, D.ref.injEq, Ob.lst.injEq, List.cons.injEq, fTup, if_true, if_false, ite_true, ite_false, Bool.false_eq_true, Bool.true_eq_false, reduceIte, h1]
      exact take_of hf1 (by decide) (by decide) fun r2 S2 r20 r21 hf2 hb2 => ⟨S2, Le.refl _, q r2 S2 r20 (by omega) hf2 fun b hb => by rw [hb2 b hb, hb1 b hb]⟩
def sp__law_cut : FS := fun ds S Q X => ∃ f cl, ∃ size : Int, ds = [.ref f, .int size] ∧ 1 ≤ size ∧ size ≤ 1000000 ∧ Flw S f cl ∧ ∀ cu S', CutOk cu → Flw S' f cl → (∀ b, b ≠ f → S' b = S b) → Q cu S'
theorem ok_law_cut {ds : List D} {S : SS} {Q : QN} {X : QX} (h : sp__law_cut ds S Q X) : u__law_cut K c sp__law_take (bodyE Q X) (startE N__law_cut ds) S := by
  obtain ⟨f, cl, size, rfl, z1, z2, hf, q⟩ := h
  unfold u__law_cut
  simp only [dAdd, dAddI, dSub, dEq, dNe, dLt, dLe, dGt, dGe, dIs, SL.isNon, dNeg, fLen, lenD, isTy, mLstrip, seqOf, tru, tyOf, Option.map_some, String.reduceEq, usNil, usSeq, usSet, usExpr, usRet, usRetN, usIf, usBrk, usCnt, usAug, usAsg, usDPut, usRaise, usSub, uVar, uC, uBin, uChain, uUn, uTru, uTb, uAnd, uOr, uNot, uAndV, uOrV, uNotV, uIte, uNil, uCons, uTup, uLst, uNoPart, uPart, uSl, vSl, uFn, gP, uIsi, uBM, uBM0, gM, gAppend, gPop, uCall, uA0, uA1, gId, gApp, isSeq, isRng, isRng2, uDGet, bodyE, startE, ugName, List.map_cons, List.map_nil, List.length_cons, List.length_nil, List.cons_append, List.nil_append, List.getElem?_cons_zero, List.getElem?_cons_succ, List.set_cons_zero, List.set_cons_succ, List.replicate, Nat.add_one_sub_one, Nat.sub_self, Nat.reduceSub, Nat.reduceAdd, Option.some.injEq, exists_eq_left', exists_eq_left, exists_and_left, true_and, and_true, D.bl.injEq, D.int.injEq, D.str.injEq, D.tup.injEq, D.ref.injEq, Ob.lst.injEq, List.cons.injEq, fTup, if_true, if_false, ite_true, ite_false, Bool.false_eq_true, Bool.true_eq_false, reduceIte]
  refine take_of hf (by decide) (by decide) fun r S1 r0 r1 hf1 hb1 => ?_
  simp only [dAdd, dAddI, dSub, dEq, dNe, dLt, dLe, dGt, dGe, dIs, SL.isNon, dNeg, fLen, lenD, isTy, mLstrip, seqOf, tru, tyOf, Option.map_some, String.reduceEq, usNil, usSeq, usSet, usExpr, usRet, usRetN, usIf, usBrk, usCnt, usAug, usAsg, usDPut, usRaise, usSub, uVar, uC, uBin, uChain, uUn, uTru, uTb, uAnd, uOr, uNot, uAndV, uOrV, uNotV, uIte, uNil, uCons, uTup, uLst, uNoPart, uPart, uSl, vSl, uFn, gP, uIsi, uBM, uBM0, gM, gAppend, gPop, uCall, uA0, uA1, gId, gApp, isSeq, isRng, isRng2, uDGet, bodyE, startE, ugName, List.map_cons, List.map_nil, List.length_cons, List.length_nil, List.cons_append, List.nil_append, List.getElem?_cons_zero, List.getElem?_cons_succ, List.set_cons_zero, List.set_cons_succ, List.replicate, Nat.add_one_sub_one, Nat.sub_self, Nat.reduceSub, Nat.reduceAdd, Option.some.injEq, exists_eq_left', exists_eq_left, exists_and_left, true_and, and_true, D.bl.injEq, D.int.injEq, D.str.injEq, D.tup.injEq, D.ref.injEq, Ob.lst.injEq, List.cons.injEq, fTup, if_true, if_false, ite_true, ite_false, Bool.false_eq_true, Bool.true_eq_false, reduceIte]
  by_cases h0 : r < 2
  · simp only [dAdd, dAddI, dSub, dEq, dNe, dLt, dLe, dGt, dGe, dIs, SL.isNon, dNeg, fLen, lenD, isTy, mLstrip, seqOf, tru, tyOf, Option.map_some, String.reduceEq, usNil, usSeq, usSet, usExpr, usRet, usRetN, usIf, usBrk, usCnt, usAug, usAsg, usDPut, usRaise, usSub, uVar, uC, uBin, uChain, uUn, uTru, uTb, uAnd, uOr, uNot, uAndV, uOrV, uNotV, uIte, uNil, uCons, uTup, uLst, uNoPart, uPart, uSl, vSl, uFn, gP, uIsi, uBM, uBM0, gM, gAppend, gPop, uCall, uA0, uA1, gId, gApp, isSeq, isRng, isRng2, uDGet, bodyE, startE, ugName, List.map_cons, List.map_nil, List.length_cons, List.length_nil, List.cons_append, List.nil_append, List.getElem?_cons_zero, List.getElem?_cons_succ, List.set_cons_zero, List.set_cons_succ, List.replicate, Nat.add_one_sub_one, Nat.sub_self, Nat.reduceSub, Nat.reduceAdd, Option.some.injEq, exists_eq_left', exists_eq_left, exists_and_left, true_and, and_true, D.bl.injEq, D.int.injEq, D.str.injEq, D.tup.injEq, D.ref.injEq, Ob.lst.injEq, List.cons.injEq, fTup, if_true, if_false, ite_true, ite_false, Bool.false_eq_true, Bool.true_eq_false, reduceIte, decide_eq_true h0]
    exact ⟨S1, Le.refl _, q _ S1 (.inl rfl) hf1 hb1⟩
  · simp only [dAdd, dAddI, dSub, dEq, dNe, dLt, dLe, dGt, dGe, dIs, SL.isNon, dNeg, fLen, lenD, isTy, mLstrip, seqOf, tru, tyOf, Option.map_some, String.reduceEq, usNil, usSeq, usSet, usExpr, usRet, usRetN, usIf, usBrk, usCnt, usAug, usAsg, usDPut, usRaise, usSub, uVar, uC, uBin, uChain, uUn, uTru, uTb, uAnd, uOr, uNot, uAndV, uOrV, uNotV, uIte, uNil, uCons, uTup, uLst, uNoPart, uPart, uSl, vSl, uFn, gP, uIsi, uBM, uBM0, gM, gAppend, gPop, uCall, uA0, uA1, gId, gApp, isSeq, isRng, isRng2, uDGet, bodyE, startE, ugName, List.map_cons, List.map_nil, List.length_cons, List.length_nil, List.cons_append, List.nil_append, List.getElem?_cons_zero, List.getElem?_cons_succ, List.set_cons_zero, List.set_cons_succ, List.replicate, Nat.add_one_sub_one, Nat.sub_self, Nat.reduceSub, Nat.reduceAdd, Option.some.injEq, exists_eq_left', exists_eq_left, exists_and_left, true_and, and_true, D.bl.injEq, D.int.injEq, D.str.injEq, D.tup.injEq, D.ref.injEq, Ob.lst.injEq, List.cons.injEq, fTup, if_true, if_false, ite_true, ite_false, Bool.false_eq_true, Bool.true_eq_false, reduceIte, decide_eq_false h0]
    by_cases h1 : (r == 2) = true
    · simp only [dAdd, dAddI, dSub, dEq, dNe, dLt, dLe, dGt, dGe, dIs, SL.isNon, dNeg, fLen, lenD, isTy, mLstrip, seqOf, tru, tyOf, Option.map_some, String.reduceEq, usNil, usSeq, usSet, usExpr, usRet, usRetN, usIf, usBrk, usCnt, usAug, usAsg, usDPut, usRaise, usSub, uVar, uC, uBin, uChain, uUn, uTru, uTb, uAnd, uOr, uNot, uAndV, uOrV, uNotV, uIte, uNil, uCons, uTup, uLst, uNoPart, uPart, uSl, vSl, uFn, gP, uIsi, uBM, uBM0, gM, gAppend, gPop, uCall, uA0, uA1, gId, gApp, isSeq, isRng, isRng2, uDGet, bodyE, startE, ugName, List.map_cons, List.map_nil, List.length_cons, List.length_nil, List.cons_append, List.nil_append, List.getElem?_cons_zero, List.getElem?_cons_succ, List.set_cons_zero, List.set_cons_succ, List.replicate, Nat.add_one_sub_one, Nat.sub_self, Nat.reduceSub, Nat.reduceAdd, Option.some.injEq, exists_eq_left', exists_eq_left, exists_and_left, true_and, and_true, D.bl.injEq, D.int.injEq, D.str.injEq, D.tup.injEq, D.ref.injEq, Ob.lst.injEq, List.cons.injEq, fTup, if_true, if_false, ite_true, ite_false, Bool.false_eq_true, Bool.true_eq_false, reduceIte, h1]
      exact take_of hf1 (by omega) (by omega) fun r2 S2 r20 r21 hf2 hb2 => ⟨S2, Le.refl _, q _ S2 (.inr ⟨r2, r20, rfl⟩) hf2 fun b hb => by rw [hb2 b hb, hb1 b hb]⟩
    · simp only [dAdd, dAddI, dSub, dEq, dNe, dLt, dLe, dGt, dGe, dIs, SL.isNon, dNeg, fLen, lenD, isTy, mLstrip, seqOf, tru, tyOf, Option.map_some, String.reduceEq, usNil, usSeq, usSet, usExpr, usRet, usRetN, usIf, usBrk, usCnt, usAug, usAsg, usDPut, usRaise, usSub, uVar, uC, uBin, uChain, uUn, uTru, uTb, uAnd, uOr, uNot, uAndV, uOrV, uNotV, uIte, uNil, uCons, uTup, uLst, uNoPart, uPart, uSl, vSl, uFn, gP, uIsi, uBM, uBM0, gM, gAppend, gPop, uCall, uA0, uA1, gId, gApp, isSeq, isRng, isRng2, uDGet, bodyE, startE, ugName, List.map_cons, List.map_nil, List.length_cons, List.length_nil, List.cons_append, List.nil_append, List.getElem?_cons_zero, List.getElem?_cons_succ, List.set_cons_zero, List.set_cons_succ, List.replicate, Nat.add_one_sub_one, Nat.sub_self, Nat.reduceSub, Nat.reduceAdd, Option.some.injEq, exists_eq_left', exists_eq_left, exists_and_left, true_and, and_true, D.bl.injEq, D.int.injEq, D.str.injEq, D.tup.injEq, D.ref.injEq, Ob.lst.injEq, List.cons.injEq, fTup, if_true, if_false, ite_true, ite_false, Bool.false_eq_true, Bool.true_eq_false, reduceIte, h1]
      refine take_of hf1 (by decide) (by decide) fun r2 S2 r20 r21 hf2 hb2 => ?_
      simp only [dAdd, dAddI, dSub, dEq, dNe, dLt, dLe, dGt, dGe, dIs, SL.isNon, dNeg, fLen, lenD, isTy, mLstrip, seqOf, tru, tyOf, Option.map_some, String.reduceEq, usNil, usSeq, usSet, usExpr, usRet, usRetN, usIf, usBrk, usCnt, usAug, usAsg, usDPut, usRaise, usSub, uVar, uC, uBin, uChain, uUn, uTru, uTb, uAnd, uOr, uNot, uAndV, uOrV, uNotV, uIte, uNil, uCons, uTup, uLst, uNoPart, uPart, uSl, vSl, uFn, gP, uIsi, uBM, uBM0, gM, gAppend, gPop, uCall, uA0, uA1, gId, gApp, isSeq, isRng, isRng2, uDGet, bodyE, startE, ugName, List.map_cons, List.map_nil, List.length_cons, List.length_nil, List.cons_append, List.nil_append, List.getElem?_cons_zero, List.getElem?_cons_succ, List.set_cons_zero, List.set_cons_succ, List.replicate, Nat.add_one_sub_one, Nat.sub_self, Nat.reduceSub, Nat.reduceAdd, Option.some.injEq, exists_eq_left', exists_eq_left, exists_and_left, true_and, and_true, D.bl.injEq, D.int.injEq, D.str.injEq, D.tup.injEq, D.ref.injEq, Ob.lst.injEq, List.cons.injEq, fTup, if_true, if_false, ite_true, ite_false, Bool.false_eq_true, Bool.true_eq_false, reduceIte, fMax]
      exact ⟨S2, Le.refl _, q _ S2 (.inr ⟨_, by split <;> omega, rfl⟩) hf2 fun b hb => by rw [hb2 b hb, hb1 b hb]⟩
end K82

set_option Elab.async false
set_option linter.all false
set_option maxRecDepth 100000
set_option maxHeartbeats 4000000
namespace K82
open PySem PySem.Spec L2 SL NumText
variable {K : PySem.W.Frag} {c : Cs}
def pd3 (sp__law_head : FS) : US := (usSeq (usSet 7 (uCall (sp__law_head) gId (uA1 1 (uCons (uVar 3) uNil)))) (usSeq (usIf (uAnd (uTb (uBin dIsNot (uVar 7) (uC .non))) (uTb (uBin dGt (uBin dIx (uVar 7) (uC (.int 0))) (uC (.int 900000000))))) (usRet (uBin dAdd (uC (.str (cs "9"))) (uVar 3))) usNil) (usRet (uVar 3))))
def pd2 (sp__law_text : FS) (sp__law_take : FS) (sp__law_head : FS) : US := (usSeq (usIf (uTb (uBin dEq (uCall (sp__law_take) gId (uA1 2 (uCons (uVar 0) (uCons (uC (.int 3)) uNil)))) (uC (.int 0)))) (usSet 3 (uBin dAdd (uVar 3) (uCall (sp__law_text) gId (uA1 1 (uCons (uVar 0) uNil))))) usNil) (pd3 sp__law_head))
def pd1 (sp__law_text : FS) (sp__law_take : FS) (sp__law_head : FS) : US := (usSeq (usIf (uOr (uTb (uBin dEq (uVar 3) (uC (.str (cs ""))))) (uTb (uBin dEq (uSl (uVar 3) (uPart (uBin dSub (uFn (gP fLen) (uCons (uVar 3) uNil)) (uC (.int 1)))) uNoPart) (uC (.str (cs "\n")))))) (usFor (isRng (uCall (sp__law_take) gId (uA1 2 (uCons (uVar 0) (uCons (uC (.int 4)) uNil))))) (ugName 6) (usSet 3 (uBin dAdd (uBin dAdd (uVar 3) (uCall (sp__law_text) gId (uA1 1 (uCons (uVar 0) uNil)))) (uC (.str (cs "\n")))))) usNil) (pd2 sp__law_text sp__law_take sp__law_head))
def pd0 (sp__law_text : FS) (sp__law_take : FS) (sp__law_head : FS) : US := (usSeq (usIf (uTb (uBin dLt (uVar 4) (uC (.int 12)))) (usSeq (usSet 5 (uTup (uCons (uC (.str (cs ""))) (uCons (uFn (gP fStr) (uCons (uVar 1) uNil)) (uCons (uSl (uVar 3) uNoPart (uPart (uBin dSub (uFn (gP fLen) (uCons (uVar 3) uNil)) (uC (.int 1))))) (uCons (uBin dAdd (uC (.str (cs "0"))) (uVar 3)) (uCons (uBin dAdd (uC (.str (cs " "))) (uVar 3)) (uCons (uBin dAdd (uC (.str (cs "-"))) (uVar 3)) (uCons (uBin dAdd (uC (.str (cs "+"))) (uVar 3)) (uCons (uBin dAdd (uBin dAdd (uBin dAdd (uFn (gP fStr) (uCons (uVar 1) uNil)) (uC (.str (cs "\t")))) (uVar 2)) (uC (.str (cs "\n")))) (uCons (uBin dAdd (uBin dAdd (uC (.str (cs "1_0 "))) (uVar 2)) (uC (.str (cs "\n")))) (uCons (uBin dAdd (uBin dAdd (uC (.str (cs "1234567890 "))) (uVar 2)) (uC (.str (cs "\n")))) (uCons (uBin dAdd (uC (.str (cs "\n"))) (uVar 3)) (uCons (uBin dAdd (uFn (gP fStr) (uCons (uVar 1) uNil)) (uC (.str (cs "\n")))) uNil)))))))))))))) (usSet 3 (uBin dIx (uVar 5) (uVar 4)))) (usIf (uTb (uBin dEq (uVar 4) (uC (.int 12)))) (usSet 3 (uBin dAdd (uC (.str (cs "a"))) (uVar 3))) (usIf (uTb (uBin dEq (uVar 4) (uC (.int 13)))) (usSet 3 (uBin dAdd (uBin dAdd (uBin dAdd (uFn (gP fStr) (uCons (uVar 1) uNil)) (uC (.str (cs "x ")))) (uVar 2)) (uC (.str (cs "\n"))))) usNil))) (pd1 sp__law_text sp__law_take sp__law_head))
theorem pd_eq {K : PySem.W.Frag} {c : Cs} {sp__law_text : FS} {sp__law_take : FS} {sp__law_head : FS} : u__law_place K c sp__law_text sp__law_take sp__law_head = (usSeq (usSet 2 (uCall (sp__law_text) gId (uA1 1 (uCons (uVar 0) uNil)))) (usSeq (usSet 3 (uBin dAdd (uBin dAdd (uBin dAdd (uFn (gP fStr) (uCons (uVar 1) uNil)) (uC (.str (cs " ")))) (uVar 2)) (uC (.str (cs "\n"))))) (usSeq (usSet 4 (uCall (sp__law_take) gId (uA1 2 (uCons (uVar 0) (uCons (uC (.int 24)) uNil))))) (pd0 sp__law_text sp__law_take sp__law_head)))) := rfl
theorem c_9 : cs "9" = [57] := by decide +kernel
theorem c_mi : cs "-" = [45] := by decide +kernel
theorem c_pl : cs "+" = [43] := by decide +kernel
theorem c_tb : cs "\t" = [9] := by decide +kernel
theorem c_a : cs "a" = [97] := by decide +kernel
theorem c_x : cs "x " = [120, 32] := by decide +kernel
theorem c_10 : cs "1_0 " = [49, 95, 48, 32] := by decide +kernel
theorem c_19 : cs "1234567890 " = [49, 50, 51, 52, 53, 54, 55, 56, 57, 48, 32] := by decide +kernel
theorem szT {n : Nat} (h : n ≤ 1000000) : (n ≤ sizeLine) = True := eq_true (szl h)
theorem cut_le {α : Type} {l : List α} {a b : Option Int} : (cut l a b).length ≤ l.length := by
  unfold cut; rw [List.length_take, List.length_drop]; omega
theorem at_pick {xs : List D} {r : Int} {P : D → Prop} (h0 : 0 ≤ r) (h1 : r < xs.length) (ha : ∀ d ∈ xs, ∃ t, d = D.str t ∧ t.length ≤ 40) (k : ∀ t, t.length ≤ 40 → P (.str t)) : ∃ z, L2.atI xs r = some z ∧ P z := by
  obtain ⟨d, ed, hd⟩ := ix_tup (S := (fun _ => none)) (xs := xs) h0 h1
  obtain ⟨t, rfl, h⟩ := ha d hd
  exact ⟨_, ed, k t h⟩
def PlOk (x : List Nat) : Prop := hn x ≤ 900000000 ∧ x.length ≤ 100
def sp__law_place : FS := fun ds S Q X => ∃ f cl, ∃ n : Int, ds = [.ref f, .int n] ∧ 0 ≤ n ∧ n ≤ 900000000 ∧ Flw S f cl ∧ ∀ x S', PlOk x → Flw S' f cl → (∀ b, b ≠ f → S' b = S b) → Q (.str x) S'
theorem place_of {S : SS} {f cl : Addr} {n : Int} {Q : QN} {X : QX} (h : Flw S f cl) (h0 : 0 ≤ n) (h1 : n ≤ 900000000) (k : ∀ x S', PlOk x → Flw S' f cl → (∀ b, b ≠ f → S' b = S b) → Q (.str x) S') : sp__law_place [.ref f, .int n] S Q X := ⟨f, cl, n, rfl, h0, h1, h, k⟩
theorem hn9 {x : List Nat} (h : 900000000 < hn x) : hn (57 :: x) = -1 := by
  unfold hn at h ⊢
  split at h
  · rename_i hh
    obtain ⟨h1, h2, h3⟩ := hh
    have h9 : (x.takeWhile (· ≠ 32)).length = 9 := by
      have hl := digitsVal_lt (w := x.takeWhile (· ≠ 32)) (fun c hc => fig_iff.mpr (h3.2.2.1 c hc))
      have hle := h3.2.1
      by_cases z : (x.takeWhile (· ≠ 32)).length ≤ 8
      · have : 10 ^ (x.takeWhile (· ≠ 32)).length ≤ 10 ^ 8 := Nat.pow_le_pow_right (by decide) z
        omega
      · omega
    rw [if_neg]
    rintro ⟨_, _, z⟩
    have e : (57 :: x).takeWhile (· ≠ 32) = 57 :: x.takeWhile (· ≠ 32) := by rw [List.takeWhile_cons, if_pos (by decide)]
    rw [e] at z
    have := z.2.1
    simp only [List.length_cons] at this
    omega
  · omega
theorem pd3_of {S : SS} {x : List Nat} {e0 e1 e2 e4 e5 e6 e7 : Option D} {Q : QN} {X : QX} (hx : x.length ≤ 99) (q : ∀ y, PlOk y → Q (.str y) S) : pd3 sp__law_head (bodyE Q X) [e0, e1, e2, some (.str x), e4, e5, e6, e7] S := by
  unfold pd3
  simp only [dAdd, dAddI, dSub, dEq, dNe, dLt, dLe, dGt, dGe, dIs, SL.isNon, dNeg, fLen, lenD, isTy, mLstrip, seqOf, tru, tyOf, Option.map_some, String.reduceEq, usNil, usSeq, usSet, usExpr, usRet, usRetN, usIf, usBrk, usCnt, usAug, usAsg, usDPut, usRaise, usSub, uVar, uC, uBin, uChain, uUn, uTru, uTb, uAnd, uOr, uNot, uAndV, uOrV, uNotV, uIte, uNil, uCons, uTup, uLst, uNoPart, uPart, uSl, vSl, uFn, gP, uIsi, uBM, uBM0, gM, gAppend, gPop, uCall, uA0, uA1, gId, gApp, isSeq, isRng, isRng2, uDGet, bodyE, startE, ugName, List.map_cons, List.map_nil, List.length_cons, List.length_nil, List.cons_append, List.nil_append, List.getElem?_cons_zero, List.getElem?_cons_succ, List.set_cons_zero, List.set_cons_succ, List.replicate, Nat.add_one_sub_one, Nat.sub_self, Nat.reduceSub, Nat.reduceAdd, Option.some.injEq, exists_eq_left', exists_eq_left, exists_and_left, true_and, and_true, D.bl.injEq, D.int.injEq, D.str.injEq, D.tup.injEq, D.ref.injEq, Ob.lst.injEq, List.cons.injEq, fTup, if_true, if_false, ite_true, ite_false, Bool.false_eq_true, Bool.true_eq_false, reduceIte, Ob.ins.injEq, Ob.dic.injEq, usFor, uMeth, uProp, uLenI, uMake, uCMeth, uLc, vSeq, uA2, uA3, gNon, sup_same, sup_sup, dIx, dNot, dIsNot, Bool.not_true, Bool.not_false]
  refine ⟨x, rfl, by omega, ?_⟩
  by_cases h : 0 ≤ hn x
  · rw [hd_pos h]
    simp (disch := (try simp only [List.length_append, List.length_cons, List.length_nil]); omega) only [dAdd, dAddI, dSub, dEq, dNe, dLt, dLe, dGt, dGe, dIs, SL.isNon, dNeg, fLen, lenD, isTy, mLstrip, seqOf, tru, tyOf, Option.map_some, String.reduceEq, usNil, usSeq, usSet, usExpr, usRet, usRetN, usIf, usBrk, usCnt, usAug, usAsg, usDPut, usRaise, usSub, uVar, uC, uBin, uChain, uUn, uTru, uTb, uAnd, uOr, uNot, uAndV, uOrV, uNotV, uIte, uNil, uCons, uTup, uLst, uNoPart, uPart, uSl, vSl, uFn, gP, uIsi, uBM, uBM0, gM, gAppend, gPop, uCall, uA0, uA1, gId, gApp, isSeq, isRng, isRng2, uDGet, bodyE, startE, ugName, List.map_cons, List.map_nil, List.length_cons, List.length_nil, List.cons_append, List.nil_append, List.getElem?_cons_zero, List.getElem?_cons_succ, List.set_cons_zero, List.set_cons_succ, List.replicate, Nat.add_one_sub_one, Nat.sub_self, Nat.reduceSub, Nat.reduceAdd, Option.some.injEq, exists_eq_left', exists_eq_left, exists_and_left, true_and, and_true, D.bl.injEq, D.int.injEq, D.str.injEq, D.tup.injEq, D.ref.injEq, Ob.lst.injEq, List.cons.injEq, fTup, if_true, if_false, ite_true, ite_false, Bool.false_eq_true, Bool.true_eq_false, reduceIte, Ob.ins.injEq, Ob.dic.injEq, usFor, uMeth, uProp, uLenI, uMake, uCMeth, uLc, vSeq, uA2, uA3, gNon, sup_same, sup_sup, dIx, dNot, dIsNot, Bool.not_true, Bool.not_false, atI0, Bool.not_false, c_9, szT]
    by_cases h9 : 900000000 < hn x
    · simp only [decide_eq_true h9, if_true]
      exact ⟨S, Le.refl _, q _ ⟨by
        rw [hn9 h9]; decide, by simp; omega⟩⟩
    · simp only [decide_eq_false h9, Bool.false_eq_true, if_false]
      exact ⟨S, Le.refl _, q _ ⟨by omega, by omega⟩⟩
  · rw [hd_neg (by omega)]
    simp only [dAdd, dAddI, dSub, dEq, dNe, dLt, dLe, dGt, dGe, dIs, SL.isNon, dNeg, fLen, lenD, isTy, mLstrip, seqOf, tru, tyOf, Option.map_some, String.reduceEq, usNil, usSeq, usSet, usExpr, usRet, usRetN, usIf, usBrk, usCnt, usAug, usAsg, usDPut, usRaise, usSub, uVar, uC, uBin, uChain, uUn, uTru, uTb, uAnd, uOr, uNot, uAndV, uOrV, uNotV, uIte, uNil, uCons, uTup, uLst, uNoPart, uPart, uSl, vSl, uFn, gP, uIsi, uBM, uBM0, gM, gAppend, gPop, uCall, uA0, uA1, gId, gApp, isSeq, isRng, isRng2, uDGet, bodyE, startE, ugName, List.map_cons, List.map_nil, List.length_cons, List.length_nil, List.cons_append, List.nil_append, List.getElem?_cons_zero, List.getElem?_cons_succ, List.set_cons_zero, List.set_cons_succ, List.replicate, Nat.add_one_sub_one, Nat.sub_self, Nat.reduceSub, Nat.reduceAdd, Option.some.injEq, exists_eq_left', exists_eq_left, exists_and_left, true_and, and_true, D.bl.injEq, D.int.injEq, D.str.injEq, D.tup.injEq, D.ref.injEq, Ob.lst.injEq, List.cons.injEq, fTup, if_true, if_false, ite_true, ite_false, Bool.false_eq_true, Bool.true_eq_false, reduceIte, Ob.ins.injEq, Ob.dic.injEq, usFor, uMeth, uProp, uLenI, uMake, uCMeth, uLc, vSeq, uA2, uA3, gNon, sup_same, sup_sup, dIx, dNot, dIsNot, Bool.not_true, Bool.not_false, Bool.not_true]
    exact ⟨S, Le.refl _, q _ ⟨by omega, by omega⟩⟩
theorem pd2_of {S : SS} {f cl : Addr} {x : List Nat} {e1 e2 e4 e5 e6 e7 : Option D} {Q : QN} {X : QX} (hf : Flw S f cl) (hx : x.length ≤ 80) (q : ∀ y S', PlOk y → Flw S' f cl → (∀ b, b ≠ f → S' b = S b) → Q (.str y) S') : pd2 sp__law_text sp__law_take sp__law_head (bodyE Q X) [some (.ref f), e1, e2, some (.str x), e4, e5, e6, e7] S := by
  unfold pd2
  simp only [dAdd, dAddI, dSub, dEq, dNe, dLt, dLe, dGt, dGe, dIs, SL.isNon, dNeg, fLen, lenD, isTy, mLstrip, seqOf, tru, tyOf, Option.map_some, String.reduceEq, usNil, usSeq, usSet, usExpr, usRet, usRetN, usIf, usBrk, usCnt, usAug, usAsg, usDPut, usRaise, usSub, uVar, uC, uBin, uChain, uUn, uTru, uTb, uAnd, uOr, uNot, uAndV, uOrV, uNotV, uIte, uNil, uCons, uTup, uLst, uNoPart, uPart, uSl, vSl, uFn, gP, uIsi, uBM, uBM0, gM, gAppend, gPop, uCall, uA0, uA1, gId, gApp, isSeq, isRng, isRng2, uDGet, bodyE, startE, ugName, List.map_cons, List.map_nil, List.length_cons, List.length_nil, List.cons_append, List.nil_append, List.getElem?_cons_zero, List.getElem?_cons_succ, List.set_cons_zero, List.set_cons_succ, List.replicate, Nat.add_one_sub_one, Nat.sub_self, Nat.reduceSub, Nat.reduceAdd, Option.some.injEq, exists_eq_left', exists_eq_left, exists_and_left, true_and, and_true, D.bl.injEq, D.int.injEq, D.str.injEq, D.tup.injEq, D.ref.injEq, Ob.lst.injEq, List.cons.injEq, fTup, if_true, if_false, ite_true, ite_false, Bool.false_eq_true, Bool.true_eq_false, reduceIte, Ob.ins.injEq, Ob.dic.injEq, usFor, uMeth, uProp, uLenI, uMake, uCMeth, uLc, vSeq, uA2, uA3, gNon, sup_same, sup_sup, dIx, dNot, dIsNot, Bool.not_true, Bool.not_false]
  refine take_of hf (by decide) (by decide) fun r S1 r0 r1 hf1 hb1 => ?_
  simp only [dAdd, dAddI, dSub, dEq, dNe, dLt, dLe, dGt, dGe, dIs, SL.isNon, dNeg, fLen, lenD, isTy, mLstrip, seqOf, tru, tyOf, Option.map_some, String.reduceEq, usNil, usSeq, usSet, usExpr, usRet, usRetN, usIf, usBrk, usCnt, usAug, usAsg, usDPut, usRaise, usSub, uVar, uC, uBin, uChain, uUn, uTru, uTb, uAnd, uOr, uNot, uAndV, uOrV, uNotV, uIte, uNil, uCons, uTup, uLst, uNoPart, uPart, uSl, vSl, uFn, gP, uIsi, uBM, uBM0, gM, gAppend, gPop, uCall, uA0, uA1, gId, gApp, isSeq, isRng, isRng2, uDGet, bodyE, startE, ugName, List.map_cons, List.map_nil, List.length_cons, List.length_nil, List.cons_append, List.nil_append, List.getElem?_cons_zero, List.getElem?_cons_succ, List.set_cons_zero, List.set_cons_succ, List.replicate, Nat.add_one_sub_one, Nat.sub_self, Nat.reduceSub, Nat.reduceAdd, Option.some.injEq, exists_eq_left', exists_eq_left, exists_and_left, true_and, and_true, D.bl.injEq, D.int.injEq, D.str.injEq, D.tup.injEq, D.ref.injEq, Ob.lst.injEq, List.cons.injEq, fTup, if_true, if_false, ite_true, ite_false, Bool.false_eq_true, Bool.true_eq_false, reduceIte, Ob.ins.injEq, Ob.dic.injEq, usFor, uMeth, uProp, uLenI, uMake, uCMeth, uLc, vSeq, uA2, uA3, gNon, sup_same, sup_sup, dIx, dNot, dIsNot, Bool.not_true, Bool.not_false]
  by_cases h0 : (r == 0) = true
  · simp only [dAdd, dAddI, dSub, dEq, dNe, dLt, dLe, dGt, dGe, dIs, SL.isNon, dNeg, fLen, lenD, isTy, mLstrip, seqOf, tru, tyOf, Option.map_some, String.reduceEq, usNil, usSeq, usSet, usExpr, usRet, usRetN, usIf, usBrk, usCnt, usAug, usAsg, usDPut, usRaise, usSub, uVar, uC, uBin, uChain, uUn, uTru, uTb, uAnd, uOr, uNot, uAndV, uOrV, uNotV, uIte, uNil, uCons, uTup, uLst, uNoPart, uPart, uSl, vSl, uFn, gP, uIsi, uBM, uBM0, gM, gAppend, gPop, uCall, uA0, uA1, gId, gApp, isSeq, isRng, isRng2, uDGet, bodyE, startE, ugName, List.map_cons, List.map_nil, List.length_cons, List.length_nil, List.cons_append, List.nil_append, List.getElem?_cons_zero, List.getElem?_cons_succ, List.set_cons_zero, List.set_cons_succ, List.replicate, Nat.add_one_sub_one, Nat.sub_self, Nat.reduceSub, Nat.reduceAdd, Option.some.injEq, exists_eq_left', exists_eq_left, exists_and_left, true_and, and_true, D.bl.injEq, D.int.injEq, D.str.injEq, D.tup.injEq, D.ref.injEq, Ob.lst.injEq, List.cons.injEq, fTup, if_true, if_false, ite_true, ite_false, Bool.false_eq_true, Bool.true_eq_false, reduceIte, Ob.ins.injEq, Ob.dic.injEq, usFor, uMeth, uProp, uLenI, uMake, uCMeth, uLc, vSeq, uA2, uA3, gNon, sup_same, sup_sup, dIx, dNot, dIsNot, Bool.not_true, Bool.not_false, h0]
    refine text_of hf1 fun t S2 ht hf2 hb2 => ?_
    have ht1 := ht.1
    simp (disch := (try simp only [List.length_append, List.length_cons, List.length_nil]); omega) only [dAdd, dAddI, dSub, dEq, dNe, dLt, dLe, dGt, dGe, dIs, SL.isNon, dNeg, fLen, lenD, isTy, mLstrip, seqOf, tru, tyOf, Option.map_some, String.reduceEq, usNil, usSeq, usSet, usExpr, usRet, usRetN, usIf, usBrk, usCnt, usAug, usAsg, usDPut, usRaise, usSub, uVar, uC, uBin, uChain, uUn, uTru, uTb, uAnd, uOr, uNot, uAndV, uOrV, uNotV, uIte, uNil, uCons, uTup, uLst, uNoPart, uPart, uSl, vSl, uFn, gP, uIsi, uBM, uBM0, gM, gAppend, gPop, uCall, uA0, uA1, gId, gApp, isSeq, isRng, isRng2, uDGet, bodyE, startE, ugName, List.map_cons, List.map_nil, List.length_cons, List.length_nil, List.cons_append, List.nil_append, List.getElem?_cons_zero, List.getElem?_cons_succ, List.set_cons_zero, List.set_cons_succ, List.replicate, Nat.add_one_sub_one, Nat.sub_self, Nat.reduceSub, Nat.reduceAdd, Option.some.injEq, exists_eq_left', exists_eq_left, exists_and_left, true_and, and_true, D.bl.injEq, D.int.injEq, D.str.injEq, D.tup.injEq, D.ref.injEq, Ob.lst.injEq, List.cons.injEq, fTup, if_true, if_false, ite_true, ite_false, Bool.false_eq_true, Bool.true_eq_false, reduceIte, Ob.ins.injEq, Ob.dic.injEq, usFor, uMeth, uProp, uLenI, uMake, uCMeth, uLc, vSeq, uA2, uA3, gNon, sup_same, sup_sup, dIx, dNot, dIsNot, Bool.not_true, Bool.not_false, szT]
    exact pd3_of (by rw [List.length_append]; have := ht.1; omega) fun y hy => q y S2 hy hf2 fun b hb => by rw [hb2 b hb, hb1 b hb]
  · simp only [dAdd, dAddI, dSub, dEq, dNe, dLt, dLe, dGt, dGe, dIs, SL.isNon, dNeg, fLen, lenD, isTy, mLstrip, seqOf, tru, tyOf, Option.map_some, String.reduceEq, usNil, usSeq, usSet, usExpr, usRet, usRetN, usIf, usBrk, usCnt, usAug, usAsg, usDPut, usRaise, usSub, uVar, uC, uBin, uChain, uUn, uTru, uTb, uAnd, uOr, uNot, uAndV, uOrV, uNotV, uIte, uNil, uCons, uTup, uLst, uNoPart, uPart, uSl, vSl, uFn, gP, uIsi, uBM, uBM0, gM, gAppend, gPop, uCall, uA0, uA1, gId, gApp, isSeq, isRng, isRng2, uDGet, bodyE, startE, ugName, List.map_cons, List.map_nil, List.length_cons, List.length_nil, List.cons_append, List.nil_append, List.getElem?_cons_zero, List.getElem?_cons_succ, List.set_cons_zero, List.set_cons_succ, List.replicate, Nat.add_one_sub_one, Nat.sub_self, Nat.reduceSub, Nat.reduceAdd, Option.some.injEq, exists_eq_left', exists_eq_left, exists_and_left, true_and, and_true, D.bl.injEq, D.int.injEq, D.str.injEq, D.tup.injEq, D.ref.injEq, Ob.lst.injEq, List.cons.injEq, fTup, if_true, if_false, ite_true, ite_false, Bool.false_eq_true, Bool.true_eq_false, reduceIte, Ob.ins.injEq, Ob.dic.injEq, usFor, uMeth, uProp, uLenI, uMake, uCMeth, uLc, vSeq, uA2, uA3, gNon, sup_same, sup_sup, dIx, dNot, dIsNot, Bool.not_true, Bool.not_false, h0]
    exact pd3_of (by omega) fun y hy => q y S1 hy hf1 hb1
theorem pl_for {Z : EndsS} {f cl : Addr} {e1 e2 e4 e5 e7 : Option D} {S0 : SS} : ∀ (j : Nat) (lo : Int) (x : List Nat) (e6 : Option D) (S : SS), x.length + 13 * j ≤ 80 → Flw S f cl → (∀ b, b ≠ f → S b = S0 b) →
    (∀ x e6 S', x.length ≤ 80 → Flw S' f cl → (∀ b, b ≠ f → S' b = S0 b) → Z.nx [some (.ref f), e1, e2, some (.str x), e4, e5, e6, e7] S') →
    forL (ugName 6) (usSet 3 (uBin dAdd (uBin dAdd (uVar 3) (uCall sp__law_text gId (uA1 1 (uCons (uVar 0) uNil)))) (uC (.str (cs "\n"))))) (fun _ => True) Z (irng lo j) [some (.ref f), e1, e2, some (.str x), e4, e5, e6, e7] S
  | 0, lo, x, e6, S, hl, hf, hb, k => ⟨trivial, k x e6 S (by omega) hf hb⟩
  | j + 1, lo, x, e6, S, hl, hf, hb, k => by
    rw [irng_succ]
    refine ⟨trivial, ?_⟩
    simp only [dAdd, dAddI, dSub, dEq, dNe, dLt, dLe, dGt, dGe, dIs, SL.isNon, dNeg, fLen, lenD, isTy, mLstrip, seqOf, tru, tyOf, Option.map_some, String.reduceEq, usNil, usSeq, usSet, usExpr, usRet, usRetN, usIf, usBrk, usCnt, usAug, usAsg, usDPut, usRaise, usSub, uVar, uC, uBin, uChain, uUn, uTru, uTb, uAnd, uOr, uNot, uAndV, uOrV, uNotV, uIte, uNil, uCons, uTup, uLst, uNoPart, uPart, uSl, vSl, uFn, gP, uIsi, uBM, uBM0, gM, gAppend, gPop, uCall, uA0, uA1, gId, gApp, isSeq, isRng, isRng2, uDGet, bodyE, startE, ugName, List.map_cons, List.map_nil, List.length_cons, List.length_nil, List.cons_append, List.nil_append, List.getElem?_cons_zero, List.getElem?_cons_succ, List.set_cons_zero, List.set_cons_succ, List.replicate, Nat.add_one_sub_one, Nat.sub_self, Nat.reduceSub, Nat.reduceAdd, Option.some.injEq, exists_eq_left', exists_eq_left, exists_and_left, true_and, and_true, D.bl.injEq, D.int.injEq, D.str.injEq, D.tup.injEq, D.ref.injEq, Ob.lst.injEq, List.cons.injEq, fTup, if_true, if_false, ite_true, ite_false, Bool.false_eq_true, Bool.true_eq_false, reduceIte, Ob.ins.injEq, Ob.dic.injEq, usFor, uMeth, uProp, uLenI, uMake, uCMeth, uLc, vSeq, uA2, uA3, gNon, sup_same, sup_sup, dIx, dNot, dIsNot, Bool.not_true, Bool.not_false]
    refine text_of hf fun t S2 ht hf2 hb2 => ?_
    have ht1 := ht.1
    simp (disch := (try simp only [List.length_append, List.length_cons, List.length_nil]); omega) only [dAdd, dAddI, dSub, dEq, dNe, dLt, dLe, dGt, dGe, dIs, SL.isNon, dNeg, fLen, lenD, isTy, mLstrip, seqOf, tru, tyOf, Option.map_some, String.reduceEq, usNil, usSeq, usSet, usExpr, usRet, usRetN, usIf, usBrk, usCnt, usAug, usAsg, usDPut, usRaise, usSub, uVar, uC, uBin, uChain, uUn, uTru, uTb, uAnd, uOr, uNot, uAndV, uOrV, uNotV, uIte, uNil, uCons, uTup, uLst, uNoPart, uPart, uSl, vSl, uFn, gP, uIsi, uBM, uBM0, gM, gAppend, gPop, uCall, uA0, uA1, gId, gApp, isSeq, isRng, isRng2, uDGet, bodyE, startE, ugName, List.map_cons, List.map_nil, List.length_cons, List.length_nil, List.cons_append, List.nil_append, List.getElem?_cons_zero, List.getElem?_cons_succ, List.set_cons_zero, List.set_cons_succ, List.replicate, Nat.add_one_sub_one, Nat.sub_self, Nat.reduceSub, Nat.reduceAdd, Option.some.injEq, exists_eq_left', exists_eq_left, exists_and_left, true_and, and_true, D.bl.injEq, D.int.injEq, D.str.injEq, D.tup.injEq, D.ref.injEq, Ob.lst.injEq, List.cons.injEq, fTup, if_true, if_false, ite_true, ite_false, Bool.false_eq_true, Bool.true_eq_false, reduceIte, Ob.ins.injEq, Ob.dic.injEq, usFor, uMeth, uProp, uLenI, uMake, uCMeth, uLc, vSeq, uA2, uA3, gNon, sup_same, sup_sup, dIx, dNot, dIsNot, Bool.not_true, Bool.not_false, szT, c_lf]
    exact pl_for j (lo + 1) _ _ S2 (by simp only [List.length_append, List.length_cons, List.length_nil]; omega) hf2 (fun b h => by rw [hb2 b h, hb b h]) k
theorem pd1_of {S : SS} {f cl : Addr} {x : List Nat} {e1 e2 e4 e5 e6 e7 : Option D} {Q : QN} {X : QX} (hf : Flw S f cl) (hx : x.length ≤ 40) (q : ∀ y S', PlOk y → Flw S' f cl → (∀ b, b ≠ f → S' b = S b) → Q (.str y) S') : pd1 sp__law_text sp__law_take sp__law_head (bodyE Q X) [some (.ref f), e1, e2, some (.str x), e4, e5, e6, e7] S := by
  have go : (usFor (isRng (uCall (sp__law_take) gId (uA1 2 (uCons (uVar 0) (uCons (uC (.int 4)) uNil))))) (ugName 6) (usSet 3 (uBin dAdd (uBin dAdd (uVar 3) (uCall (sp__law_text) gId (uA1 1 (uCons (uVar 0) uNil)))) (uC (.str (cs "\n")))))) { bodyE Q X with nx := pd2 sp__law_text sp__law_take sp__law_head (bodyE Q X) } [some (.ref f), e1, e2, some (.str x), e4, e5, e6, e7] S := by
    simp only [dAdd, dAddI, dSub, dEq, dNe, dLt, dLe, dGt, dGe, dIs, SL.isNon, dNeg, fLen, lenD, isTy, mLstrip, seqOf, tru, tyOf, Option.map_some, String.reduceEq, usNil, usSeq, usSet, usExpr, usRet, usRetN, usIf, usBrk, usCnt, usAug, usAsg, usDPut, usRaise, usSub, uVar, uC, uBin, uChain, uUn, uTru, uTb, uAnd, uOr, uNot, uAndV, uOrV, uNotV, uIte, uNil, uCons, uTup, uLst, uNoPart, uPart, uSl, vSl, uFn, gP, uIsi, uBM, uBM0, gM, gAppend, gPop, uCall, uA0, uA1, gId, gApp, isSeq, isRng, isRng2, uDGet, bodyE, startE, ugName, List.map_cons, List.map_nil, List.length_cons, List.length_nil, List.cons_append, List.nil_append, List.getElem?_cons_zero, List.getElem?_cons_succ, List.set_cons_zero, List.set_cons_succ, List.replicate, Nat.add_one_sub_one, Nat.sub_self, Nat.reduceSub, Nat.reduceAdd, Option.some.injEq, exists_eq_left', exists_eq_left, exists_and_left, true_and, and_true, D.bl.injEq, D.int.injEq, D.str.injEq, D.tup.injEq, D.ref.injEq, Ob.lst.injEq, List.cons.injEq, fTup, if_true, if_false, ite_true, ite_false, Bool.false_eq_true, Bool.true_eq_false, reduceIte, Ob.ins.injEq, Ob.dic.injEq, usFor, uMeth, uProp, uLenI, uMake, uCMeth, uLc, vSeq, uA2, uA3, gNon, sup_same, sup_sup, dIx, dNot, dIsNot, Bool.not_true, Bool.not_false]
    refine take_of hf (by decide) (by decide) fun r S1 r0 r1 hf1 hb1 => ?_
    refine ⟨r, rfl, by omega, by omega, ?_⟩
    exact pl_for (S0 := S) r.toNat 0 x _ S1 (by omega) hf1 hb1 fun x e6 S' hx' hf' hb' => pd2_of hf' hx' fun y S3 hy hf3 hb3 => q y S3 hy hf3 fun b hb => by rw [hb3 b hb, hb' b hb]
  have no := pd2_of (e1 := e1) (e2 := e2) (e4 := e4) (e5 := e5) (e6 := e6) (e7 := e7) (X := X) hf (x := x) (by omega) q
  unfold pd1
  simp only [dAdd, dAddI, dSub, dEq, dNe, dLt, dLe, dGt, dGe, dIs, SL.isNon, dNeg, fLen, lenD, isTy, mLstrip, seqOf, tru, tyOf, Option.map_some, String.reduceEq, usNil, usSeq, usSet, usExpr, usRet, usRetN, usIf, usBrk, usCnt, usAug, usAsg, usDPut, usRaise, usSub, uVar, uC, uBin, uChain, uUn, uTru, uTb, uAnd, uOr, uNot, uAndV, uOrV, uNotV, uIte, uNil, uCons, uTup, uLst, uNoPart, uPart, uSl, vSl, uFn, gP, uIsi, uBM, uBM0, gM, gAppend, gPop, uCall, uA0, uA1, gId, gApp, isSeq, isRng, isRng2, uDGet, bodyE, startE, ugName, List.map_cons, List.map_nil, List.length_cons, List.length_nil, List.cons_append, List.nil_append, List.getElem?_cons_zero, List.getElem?_cons_succ, List.set_cons_zero, List.set_cons_succ, List.replicate, Nat.add_one_sub_one, Nat.sub_self, Nat.reduceSub, Nat.reduceAdd, Option.some.injEq, exists_eq_left', exists_eq_left, exists_and_left, true_and, and_true, D.bl.injEq, D.int.injEq, D.str.injEq, D.tup.injEq, D.ref.injEq, Ob.lst.injEq, List.cons.injEq, fTup, if_true, if_false, ite_true, ite_false, Bool.false_eq_true, Bool.true_eq_false, reduceIte, Ob.ins.injEq, Ob.dic.injEq, usFor, uMeth, uProp, uLenI, uMake, uCMeth, uLc, vSeq, uA2, uA3, gNon, sup_same, sup_sup, dIx, dNot, dIsNot, Bool.not_true, Bool.not_false] at go
  simp only [dAdd, dAddI, dSub, dEq, dNe, dLt, dLe, dGt, dGe, dIs, SL.isNon, dNeg, fLen, lenD, isTy, mLstrip, seqOf, tru, tyOf, Option.map_some, String.reduceEq, usNil, usSeq, usSet, usExpr, usRet, usRetN, usIf, usBrk, usCnt, usAug, usAsg, usDPut, usRaise, usSub, uVar, uC, uBin, uChain, uUn, uTru, uTb, uAnd, uOr, uNot, uAndV, uOrV, uNotV, uIte, uNil, uCons, uTup, uLst, uNoPart, uPart, uSl, vSl, uFn, gP, uIsi, uBM, uBM0, gM, gAppend, gPop, uCall, uA0, uA1, gId, gApp, isSeq, isRng, isRng2, uDGet, bodyE, startE, ugName, List.map_cons, List.map_nil, List.length_cons, List.length_nil, List.cons_append, List.nil_append, List.getElem?_cons_zero, List.getElem?_cons_succ, List.set_cons_zero, List.set_cons_succ, List.replicate, Nat.add_one_sub_one, Nat.sub_self, Nat.reduceSub, Nat.reduceAdd, Option.some.injEq, exists_eq_left', exists_eq_left, exists_and_left, true_and, and_true, D.bl.injEq, D.int.injEq, D.str.injEq, D.tup.injEq, D.ref.injEq, Ob.lst.injEq, List.cons.injEq, fTup, if_true, if_false, ite_true, ite_false, Bool.false_eq_true, Bool.true_eq_false, reduceIte, Ob.ins.injEq, Ob.dic.injEq, usFor, uMeth, uProp, uLenI, uMake, uCMeth, uLc, vSeq, uA2, uA3, gNon, sup_same, sup_sup, dIx, dNot, dIsNot, Bool.not_true, Bool.not_false]
  by_cases h1 : (x == cs "") = true
  · simp only [h1, if_true]
    exact go
  · simp only [h1, Bool.false_eq_true, if_false]
    have hls : x.length ≤ sizeLine := szl (by omega)
    simp only [dAdd, dAddI, dSub, dEq, dNe, dLt, dLe, dGt, dGe, dIs, SL.isNon, dNeg, fLen, lenD, isTy, mLstrip, seqOf, tru, tyOf, Option.map_some, String.reduceEq, usNil, usSeq, usSet, usExpr, usRet, usRetN, usIf, usBrk, usCnt, usAug, usAsg, usDPut, usRaise, usSub, uVar, uC, uBin, uChain, uUn, uTru, uTb, uAnd, uOr, uNot, uAndV, uOrV, uNotV, uIte, uNil, uCons, uTup, uLst, uNoPart, uPart, uSl, vSl, uFn, gP, uIsi, uBM, uBM0, gM, gAppend, gPop, uCall, uA0, uA1, gId, gApp, isSeq, isRng, isRng2, uDGet, bodyE, startE, ugName, List.map_cons, List.map_nil, List.length_cons, List.length_nil, List.cons_append, List.nil_append, List.getElem?_cons_zero, List.getElem?_cons_succ, List.set_cons_zero, List.set_cons_succ, List.replicate, Nat.add_one_sub_one, Nat.sub_self, Nat.reduceSub, Nat.reduceAdd, Option.some.injEq, exists_eq_left', exists_eq_left, exists_and_left, true_and, and_true, D.bl.injEq, D.int.injEq, D.str.injEq, D.tup.injEq, D.ref.injEq, Ob.lst.injEq, List.cons.injEq, fTup, if_true, if_false, ite_true, ite_false, Bool.false_eq_true, Bool.true_eq_false, reduceIte, Ob.ins.injEq, Ob.dic.injEq, usFor, uMeth, uProp, uLenI, uMake, uCMeth, uLc, vSeq, uA2, uA3, gNon, sup_same, sup_sup, dIx, dNot, dIsNot, Bool.not_true, Bool.not_false, hls]
    split
    · exact go
    · exact no
theorem fstr_n {S : SS} {n : Int} (h0 : 0 ≤ n) (h1 : n ≤ 1000000000) : fStr S [.int n] = some (.str (dig n)) := by
  have hlg : n.natAbs.log2 < 1920 := by
    have h1 : n.natAbs < 2 ^ 40 := by omega
    by_cases z : n.natAbs = 0
    · rw [z]; decide
    · have := (Nat.log2_lt z).mpr h1; omega
  show (if _ then _ else none) = _
  rw [if_pos hlg]
theorem ok_law_place {ds : List D} {S : SS} {Q : QN} {X : QX} (h : sp__law_place ds S Q X) : u__law_place K c sp__law_text sp__law_take sp__law_head (bodyE Q X) (startE N__law_place ds) S := by
  obtain ⟨f, cl, n, rfl, n0, n1, hf, q⟩ := h
  have es : ∀ S, fStr S [.int n] = some (.str (dig n)) := fun S => fstr_n n0 (by omega)
  have hd9 : (dig n).length ≤ 13 := dig13 n0 (by omega)
  rw [pd_eq]
  simp only [dAdd, dAddI, dSub, dEq, dNe, dLt, dLe, dGt, dGe, dIs, SL.isNon, dNeg, fLen, lenD, isTy, mLstrip, seqOf, tru, tyOf, Option.map_some, String.reduceEq, usNil, usSeq, usSet, usExpr, usRet, usRetN, usIf, usBrk, usCnt, usAug, usAsg, usDPut, usRaise, usSub, uVar, uC, uBin, uChain, uUn, uTru, uTb, uAnd, uOr, uNot, uAndV, uOrV, uNotV, uIte, uNil, uCons, uTup, uLst, uNoPart, uPart, uSl, vSl, uFn, gP, uIsi, uBM, uBM0, gM, gAppend, gPop, uCall, uA0, uA1, gId, gApp, isSeq, isRng, isRng2, uDGet, bodyE, startE, ugName, List.map_cons, List.map_nil, List.length_cons, List.length_nil, List.cons_append, List.nil_append, List.getElem?_cons_zero, List.getElem?_cons_succ, List.set_cons_zero, List.set_cons_succ, List.replicate, Nat.add_one_sub_one, Nat.sub_self, Nat.reduceSub, Nat.reduceAdd, Option.some.injEq, exists_eq_left', exists_eq_left, exists_and_left, true_and, and_true, D.bl.injEq, D.int.injEq, D.str.injEq, D.tup.injEq, D.ref.injEq, Ob.lst.injEq, List.cons.injEq, fTup, if_true, if_false, ite_true, ite_false, Bool.false_eq_true, Bool.true_eq_false, reduceIte, Ob.ins.injEq, Ob.dic.injEq, usFor, uMeth, uProp, uLenI, uMake, uCMeth, uLc, vSeq, uA2, uA3, gNon, sup_same, sup_sup, dIx, dNot, dIsNot, Bool.not_true, Bool.not_false]
  refine text_of hf fun t S1 ht hf1 hb1 => ?_
  have ht1 := ht.1
  simp (disch := (try simp only [List.length_append, List.length_cons, List.length_nil]); omega) only [dAdd, dAddI, dSub, dEq, dNe, dLt, dLe, dGt, dGe, dIs, SL.isNon, dNeg, fLen, lenD, isTy, mLstrip, seqOf, tru, tyOf, Option.map_some, String.reduceEq, usNil, usSeq, usSet, usExpr, usRet, usRetN, usIf, usBrk, usCnt, usAug, usAsg, usDPut, usRaise, usSub, uVar, uC, uBin, uChain, uUn, uTru, uTb, uAnd, uOr, uNot, uAndV, uOrV, uNotV, uIte, uNil, uCons, uTup, uLst, uNoPart, uPart, uSl, vSl, uFn, gP, uIsi, uBM, uBM0, gM, gAppend, gPop, uCall, uA0, uA1, gId, gApp, isSeq, isRng, isRng2, uDGet, bodyE, startE, ugName, List.map_cons, List.map_nil, List.length_cons, List.length_nil, List.cons_append, List.nil_append, List.getElem?_cons_zero, List.getElem?_cons_succ, List.set_cons_zero, List.set_cons_succ, List.replicate, Nat.add_one_sub_one, Nat.sub_self, Nat.reduceSub, Nat.reduceAdd, Option.some.injEq, exists_eq_left', exists_eq_left, exists_and_left, true_and, and_true, D.bl.injEq, D.int.injEq, D.str.injEq, D.tup.injEq, D.ref.injEq, Ob.lst.injEq, List.cons.injEq, fTup, if_true, if_false, ite_true, ite_false, Bool.false_eq_true, Bool.true_eq_false, reduceIte, Ob.ins.injEq, Ob.dic.injEq, usFor, uMeth, uProp, uLenI, uMake, uCMeth, uLc, vSeq, uA2, uA3, gNon, sup_same, sup_sup, dIx, dNot, dIsNot, Bool.not_true, Bool.not_false, es, c_sp, c_lf, szT]
  refine take_of hf1 (by decide) (by decide) fun r S2 r0 r1 hf2 hb2 => ?_
  have q2 : ∀ y S', PlOk y → Flw S' f cl → (∀ b, b ≠ f → S' b = S2 b) → Q (.str y) S' := fun y S' hy hf' hb' => q y S' hy hf' fun b hb => by rw [hb' b hb, hb2 b hb, hb1 b hb]
  unfold pd0
  simp only [dAdd, dAddI, dSub, dEq, dNe, dLt, dLe, dGt, dGe, dIs, SL.isNon, dNeg, fLen, lenD, isTy, mLstrip, seqOf, tru, tyOf, Option.map_some, String.reduceEq, usNil, usSeq, usSet, usExpr, usRet, usRetN, usIf, usBrk, usCnt, usAug, usAsg, usDPut, usRaise, usSub, uVar, uC, uBin, uChain, uUn, uTru, uTb, uAnd, uOr, uNot, uAndV, uOrV, uNotV, uIte, uNil, uCons, uTup, uLst, uNoPart, uPart, uSl, vSl, uFn, gP, uIsi, uBM, uBM0, gM, gAppend, gPop, uCall, uA0, uA1, gId, gApp, isSeq, isRng, isRng2, uDGet, bodyE, startE, ugName, List.map_cons, List.map_nil, List.length_cons, List.length_nil, List.cons_append, List.nil_append, List.getElem?_cons_zero, List.getElem?_cons_succ, List.set_cons_zero, List.set_cons_succ, List.replicate, Nat.add_one_sub_one, Nat.sub_self, Nat.reduceSub, Nat.reduceAdd, Option.some.injEq, exists_eq_left', exists_eq_left, exists_and_left, true_and, and_true, D.bl.injEq, D.int.injEq, D.str.injEq, D.tup.injEq, D.ref.injEq, Ob.lst.injEq, List.cons.injEq, fTup, if_true, if_false, ite_true, ite_false, Bool.false_eq_true, Bool.true_eq_false, reduceIte, Ob.ins.injEq, Ob.dic.injEq, usFor, uMeth, uProp, uLenI, uMake, uCMeth, uLc, vSeq, uA2, uA3, gNon, sup_same, sup_sup, dIx, dNot, dIsNot, Bool.not_true, Bool.not_false]
  by_cases h1 : r < 12
  · simp (disch := (try simp only [List.length_append, List.length_cons, List.length_nil]); omega) only [dAdd, dAddI, dSub, dEq, dNe, dLt, dLe, dGt, dGe, dIs, SL.isNon, dNeg, fLen, lenD, isTy, mLstrip, seqOf, tru, tyOf, Option.map_some, String.reduceEq, usNil, usSeq, usSet, usExpr, usRet, usRetN, usIf, usBrk, usCnt, usAug, usAsg, usDPut, usRaise, usSub, uVar, uC, uBin, uChain, uUn, uTru, uTb, uAnd, uOr, uNot, uAndV, uOrV, uNotV, uIte, uNil, uCons, uTup, uLst, uNoPart, uPart, uSl, vSl, uFn, gP, uIsi, uBM, uBM0, gM, gAppend, gPop, uCall, uA0, uA1, gId, gApp, isSeq, isRng, isRng2, uDGet, bodyE, startE, ugName, List.map_cons, List.map_nil, List.length_cons, List.length_nil, List.cons_append, List.nil_append, List.getElem?_cons_zero, List.getElem?_cons_succ, List.set_cons_zero, List.set_cons_succ, List.replicate, Nat.add_one_sub_one, Nat.sub_self, Nat.reduceSub, Nat.reduceAdd, Option.some.injEq, exists_eq_left', exists_eq_left, exists_and_left, true_and, and_true, D.bl.injEq, D.int.injEq, D.str.injEq, D.tup.injEq, D.ref.injEq, Ob.lst.injEq, List.cons.injEq, fTup, if_true, if_false, ite_true, ite_false, Bool.false_eq_true, Bool.true_eq_false, reduceIte, Ob.ins.injEq, Ob.dic.injEq, usFor, uMeth, uProp, uLenI, uMake, uCMeth, uLc, vSeq, uA2, uA3, gNon, sup_same, sup_sup, dIx, dNot, dIsNot, Bool.not_true, Bool.not_false, decide_eq_true h1, es, c_sp, c_lf, c_em, c_z, c_mi, c_pl, c_tb, c_10, c_19, szT]
    refine at_pick r0 (by simpa using h1) (fun d hd => ?_) fun t ht => ?_
    · simp only [List.mem_cons, List.not_mem_nil, or_false] at hd
      rcases hd with z | z | z | z | z | z | z | z | z | z | z | z <;> refine ⟨_, z, ?_⟩ <;> first | (simp only [List.length_append, List.length_cons, List.length_nil]; omega) | (refine Nat.le_trans cut_le ?_; simp only [List.length_append, List.length_cons, List.length_nil]; omega) | omega
    · exact pd1_of hf2 ht q2
  · simp only [dAdd, dAddI, dSub, dEq, dNe, dLt, dLe, dGt, dGe, dIs, SL.isNon, dNeg, fLen, lenD, isTy, mLstrip, seqOf, tru, tyOf, Option.map_some, String.reduceEq, usNil, usSeq, usSet, usExpr, usRet, usRetN, usIf, usBrk, usCnt, usAug, usAsg, usDPut, usRaise, usSub, uVar, uC, uBin, uChain, uUn, uTru, uTb, uAnd, uOr, uNot, uAndV, uOrV, uNotV, uIte, uNil, uCons, uTup, uLst, uNoPart, uPart, uSl, vSl, uFn, gP, uIsi, uBM, uBM0, gM, gAppend, gPop, uCall, uA0, uA1, gId, gApp, isSeq, isRng, isRng2, uDGet, bodyE, startE, ugName, List.map_cons, List.map_nil, List.length_cons, List.length_nil, List.cons_append, List.nil_append, List.getElem?_cons_zero, List.getElem?_cons_succ, List.set_cons_zero, List.set_cons_succ, List.replicate, Nat.add_one_sub_one, Nat.sub_self, Nat.reduceSub, Nat.reduceAdd, Option.some.injEq, exists_eq_left', exists_eq_left, exists_and_left, true_and, and_true, D.bl.injEq, D.int.injEq, D.str.injEq, D.tup.injEq, D.ref.injEq, Ob.lst.injEq, List.cons.injEq, fTup, if_true, if_false, ite_true, ite_false, Bool.false_eq_true, Bool.true_eq_false, reduceIte, Ob.ins.injEq, Ob.dic.injEq, usFor, uMeth, uProp, uLenI, uMake, uCMeth, uLc, vSeq, uA2, uA3, gNon, sup_same, sup_sup, dIx, dNot, dIsNot, Bool.not_true, Bool.not_false, decide_eq_false h1]
    by_cases h2 : (r == 12) = true
    · simp (disch := (try simp only [List.length_append, List.length_cons, List.length_nil]); omega) only [dAdd, dAddI, dSub, dEq, dNe, dLt, dLe, dGt, dGe, dIs, SL.isNon, dNeg, fLen, lenD, isTy, mLstrip, seqOf, tru, tyOf, Option.map_some, String.reduceEq, usNil, usSeq, usSet, usExpr, usRet, usRetN, usIf, usBrk, usCnt, usAug, usAsg, usDPut, usRaise, usSub, uVar, uC, uBin, uChain, uUn, uTru, uTb, uAnd, uOr, uNot, uAndV, uOrV, uNotV, uIte, uNil, uCons, uTup, uLst, uNoPart, uPart, uSl, vSl, uFn, gP, uIsi, uBM, uBM0, gM, gAppend, gPop, uCall, uA0, uA1, gId, gApp, isSeq, isRng, isRng2, uDGet, bodyE, startE, ugName, List.map_cons, List.map_nil, List.length_cons, List.length_nil, List.cons_append, List.nil_append, List.getElem?_cons_zero, List.getElem?_cons_succ, List.set_cons_zero, List.set_cons_succ, List.replicate, Nat.add_one_sub_one, Nat.sub_self, Nat.reduceSub, Nat.reduceAdd, Option.some.injEq, exists_eq_left', exists_eq_left, exists_and_left, true_and, and_true, D.bl.injEq, D.int.injEq, D.str.injEq, D.tup.injEq, D.ref.injEq, Ob.lst.injEq, List.cons.injEq, fTup, if_true, if_false, ite_true, ite_false, Bool.false_eq_true, Bool.true_eq_false, reduceIte, Ob.ins.injEq, Ob.dic.injEq, usFor, uMeth, uProp, uLenI, uMake, uCMeth, uLc, vSeq, uA2, uA3, gNon, sup_same, sup_sup, dIx, dNot, dIsNot, Bool.not_true, Bool.not_false, h2, c_a, szT]
      exact pd1_of hf2 (by simp only [List.length_append, List.length_cons, List.length_nil]; omega) q2
    · simp only [dAdd, dAddI, dSub, dEq, dNe, dLt, dLe, dGt, dGe, dIs, SL.isNon, dNeg, fLen, lenD, isTy, mLstrip, seqOf, tru, tyOf, Option.map_some, String.reduceEq, usNil, usSeq, usSet, usExpr, usRet, usRetN, usIf, usBrk, usCnt, usAug, usAsg, usDPut, usRaise, usSub, uVar, uC, uBin, uChain, uUn, uTru, uTb, uAnd, uOr, uNot, uAndV, uOrV, uNotV, uIte, uNil, uCons, uTup, uLst, uNoPart, uPart, uSl, vSl, uFn, gP, uIsi, uBM, uBM0, gM, gAppend, gPop, uCall, uA0, uA1, gId, gApp, isSeq, isRng, isRng2, uDGet, bodyE, startE, ugName, List.map_cons, List.map_nil, List.length_cons, List.length_nil, List.cons_append, List.nil_append, List.getElem?_cons_zero, List.getElem?_cons_succ, List.set_cons_zero, List.set_cons_succ, List.replicate, Nat.add_one_sub_one, Nat.sub_self, Nat.reduceSub, Nat.reduceAdd, Option.some.injEq, exists_eq_left', exists_eq_left, exists_and_left, true_and, and_true, D.bl.injEq, D.int.injEq, D.str.injEq, D.tup.injEq, D.ref.injEq, Ob.lst.injEq, List.cons.injEq, fTup, if_true, if_false, ite_true, ite_false, Bool.false_eq_true, Bool.true_eq_false, reduceIte, Ob.ins.injEq, Ob.dic.injEq, usFor, uMeth, uProp, uLenI, uMake, uCMeth, uLc, vSeq, uA2, uA3, gNon, sup_same, sup_sup, dIx, dNot, dIsNot, Bool.not_true, Bool.not_false, h2]
      by_cases h3 : (r == 13) = true
      · simp (disch := (try simp only [List.length_append, List.length_cons, List.length_nil]); omega) only [dAdd, dAddI, dSub, dEq, dNe, dLt, dLe, dGt, dGe, dIs, SL.isNon, dNeg, fLen, lenD, isTy, mLstrip, seqOf, tru, tyOf, Option.map_some, String.reduceEq, usNil, usSeq, usSet, usExpr, usRet, usRetN, usIf, usBrk, usCnt, usAug, usAsg, usDPut, usRaise, usSub, uVar, uC, uBin, uChain, uUn, uTru, uTb, uAnd, uOr, uNot, uAndV, uOrV, uNotV, uIte, uNil, uCons, uTup, uLst, uNoPart, uPart, uSl, vSl, uFn, gP, uIsi, uBM, uBM0, gM, gAppend, gPop, uCall, uA0, uA1, gId, gApp, isSeq, isRng, isRng2, uDGet, bodyE, startE, ugName, List.map_cons, List.map_nil, List.length_cons, List.length_nil, List.cons_append, List.nil_append, List.getElem?_cons_zero, List.getElem?_cons_succ, List.set_cons_zero, List.set_cons_succ, List.replicate, Nat.add_one_sub_one, Nat.sub_self, Nat.reduceSub, Nat.reduceAdd, Option.some.injEq, exists_eq_left', exists_eq_left, exists_and_left, true_and, and_true, D.bl.injEq, D.int.injEq, D.str.injEq, D.tup.injEq, D.ref.injEq, Ob.lst.injEq, List.cons.injEq, fTup, if_true, if_false, ite_true, ite_false, Bool.false_eq_true, Bool.true_eq_false, reduceIte, Ob.ins.injEq, Ob.dic.injEq, usFor, uMeth, uProp, uLenI, uMake, uCMeth, uLc, vSeq, uA2, uA3, gNon, sup_same, sup_sup, dIx, dNot, dIsNot, Bool.not_true, Bool.not_false, h3, es, c_x, c_lf, szT]
        exact pd1_of hf2 (by simp only [List.length_append, List.length_cons, List.length_nil]; omega) q2
      · simp only [dAdd, dAddI, dSub, dEq, dNe, dLt, dLe, dGt, dGe, dIs, SL.isNon, dNeg, fLen, lenD, isTy, mLstrip, seqOf, tru, tyOf, Option.map_some, String.reduceEq, usNil, usSeq, usSet, usExpr, usRet, usRetN, usIf, usBrk, usCnt, usAug, usAsg, usDPut, usRaise, usSub, uVar, uC, uBin, uChain, uUn, uTru, uTb, uAnd, uOr, uNot, uAndV, uOrV, uNotV, uIte, uNil, uCons, uTup, uLst, uNoPart, uPart, uSl, vSl, uFn, gP, uIsi, uBM, uBM0, gM, gAppend, gPop, uCall, uA0, uA1, gId, gApp, isSeq, isRng, isRng2, uDGet, bodyE, startE, ugName, List.map_cons, List.map_nil, List.length_cons, List.length_nil, List.cons_append, List.nil_append, List.getElem?_cons_zero, List.getElem?_cons_succ, List.set_cons_zero, List.set_cons_succ, List.replicate, Nat.add_one_sub_one, Nat.sub_self, Nat.reduceSub, Nat.reduceAdd, Option.some.injEq, exists_eq_left', exists_eq_left, exists_and_left, true_and, and_true, D.bl.injEq, D.int.injEq, D.str.injEq, D.tup.injEq, D.ref.injEq, Ob.lst.injEq, List.cons.injEq, fTup, if_true, if_false, ite_true, ite_false, Bool.false_eq_true, Bool.true_eq_false, reduceIte, Ob.ins.injEq, Ob.dic.injEq, usFor, uMeth, uProp, uLenI, uMake, uCMeth, uLc, vSeq, uA2, uA3, gNon, sup_same, sup_sup, dIx, dNot, dIsNot, Bool.not_true, Bool.not_false, h3]
        exact pd1_of hf2 (by simp only [List.length_append, List.length_cons, List.length_nil]; omega) q2
end K82

set_option Elab.async false
set_option linter.all false
set_option maxRecDepth 100000
set_option maxHeartbeats 4000000
namespace K82
open PySem PySem.Spec L2 SL NumText
variable {K : PySem.W.Frag} {c : Cs}
theorem lc_abs {xs0 : List D} {p2 p3 : Addr} {env : En} {Q : SS → Prop} (hne : p2 ≠ p3) (hw : (wipeE env [1]).length = 2) : ∀ (xs acc : List Int) (S : SS), S p2 = some (.lst xs0) → S p3 = some (.lst (acc.map .int)) → acc.length + xs.length ≤ 1000 →
    (∀ (ys : List Int) S', (∀ b, b ≠ p3 → S' b = S b) → S' p3 = some (.lst (ys.map .int)) → ys.length = acc.length + xs.length → Q S') →
    lcL (ugName 1) utYes (uFn (gP fAbs) (uCons (uFn (gP fInt) (uCons (uVar 1) uNil)) uNil)) (fun S => S p2 = some (.lst xs0)) [1] p3 env Q (xs.map .int) S
  | [], acc, S, h2, h3, hl, k => ⟨h2, k acc S (fun _ _ => rfl) h3 rfl⟩
  | x :: xs, acc, S, h2, h3, hl, k => by
    simp only [List.length_cons] at hl
    have hg : ((wipeE env [1]).set 1 (some (D.int x)))[1]? = some (some (.int x)) := by rw [List.getElem?_set_self (by omega)]
    refine ⟨h2, ?_⟩
    simp only [dAdd, dAddI, dSub, dEq, dNe, dLt, dLe, dGt, dGe, dIs, SL.isNon, dNeg, fLen, lenD, isTy, mLstrip, seqOf, tru, tyOf, Option.map_some, String.reduceEq, usNil, usSeq, usSet, usExpr, usRet, usRetN, usIf, usBrk, usCnt, usAug, usAsg, usDPut, usRaise, usSub, uVar, uC, uBin, uChain, uUn, uTru, uTb, uAnd, uOr, uNot, uAndV, uOrV, uNotV, uIte, uNil, uCons, uTup, uLst, uNoPart, uPart, uSl, vSl, uFn, gP, uIsi, uBM, uBM0, gM, gAppend, gPop, uCall, uA0, uA1, gId, gApp, isSeq, isRng, isRng2, uDGet, bodyE, startE, ugName, List.map_cons, List.map_nil, List.length_cons, List.length_nil, List.cons_append, List.nil_append, List.getElem?_cons_zero, List.getElem?_cons_succ, List.set_cons_zero, List.set_cons_succ, List.replicate, Nat.add_one_sub_one, Nat.sub_self, Nat.reduceSub, Nat.reduceAdd, Option.some.injEq, exists_eq_left', exists_eq_left, exists_and_left, true_and, and_true, D.bl.injEq, D.int.injEq, D.str.injEq, D.tup.injEq, D.ref.injEq, Ob.lst.injEq, List.cons.injEq, fTup, if_true, if_false, ite_true, ite_false, Bool.false_eq_true, Bool.true_eq_false, reduceIte, utYes, hg, fInt, fAbs]
    refine ⟨_, h3, by rw [List.length_map, sizeLine_eq]; omega, ?_⟩
    refine lc_abs hne hw xs (acc ++ [(x.natAbs : Int)]) _ (by rw [sup_ne hne]; exact h2) (by rw [sup_same]; simp; rw [show (if x < 0 then -x else x) = (x.natAbs : Int) by split <;> omega]) (by rw [List.length_append]; simp; omega) fun ys S' hS hp hy => k ys S' (fun b hb => (hS b hb).trans (sup_ne hb)) hp (by rw [hy]; simp; omega)
/-- the script -/
def Scr (S : SS) (sd : D) (ns : List Int) : Prop := (∃ a, sd = .ref a ∧ S a = some (.rol (ns.map .int))) ∨ sd = .kl (ns.map .int)
def sp__law_flow : FS := fun ds S Q X => ∃ sd, ∃ ns : List Int, ds = [sd] ∧ Scr S sd ns ∧ ∀ f cl S', Le S S' → Flw S' f cl → Q (.ref f) S'
theorem ok_law_flow {ds : List D} {S : SS} {Q : QN} {X : QX} (h : sp__law_flow ds S Q X) : u__law_flow K c (bodyE Q X) (startE N__law_flow ds) S := by
  obtain ⟨sd, ns, rfl, hs, q⟩ := h
  unfold u__law_flow
  simp only [dAdd, dAddI, dSub, dEq, dNe, dLt, dLe, dGt, dGe, dIs, SL.isNon, dNeg, fLen, lenD, isTy, mLstrip, seqOf, tru, tyOf, Option.map_some, String.reduceEq, usNil, usSeq, usSet, usExpr, usRet, usRetN, usIf, usBrk, usCnt, usAug, usAsg, usDPut, usRaise, usSub, uVar, uC, uBin, uChain, uUn, uTru, uTb, uAnd, uOr, uNot, uAndV, uOrV, uNotV, uIte, uNil, uCons, uTup, uLst, uNoPart, uPart, uSl, vSl, uFn, gP, uIsi, uBM, uBM0, gM, gAppend, gPop, uCall, uA0, uA1, gId, gApp, isSeq, isRng, isRng2, uDGet, bodyE, startE, ugName, List.map_cons, List.map_nil, List.length_cons, List.length_nil, List.cons_append, List.nil_append, List.getElem?_cons_zero, List.getElem?_cons_succ, List.set_cons_zero, List.set_cons_succ, List.replicate, Nat.add_one_sub_one, Nat.sub_self, Nat.reduceSub, Nat.reduceAdd, Option.some.injEq, exists_eq_left', exists_eq_left, exists_and_left, true_and, and_true, D.bl.injEq, D.int.injEq, D.str.injEq, D.tup.injEq, D.ref.injEq, Ob.lst.injEq, List.cons.injEq, fTup, if_true, if_false, ite_true, ite_false, Bool.false_eq_true, Bool.true_eq_false, reduceIte, uCat, uLc]
  have hcut : cut (ns.map D.int) none (some 63) = (ns.take 63).map .int := by rw [cut_to (by decide), List.map_take]; rfl
  have main : ∀ p2, S p2 = none → ∀ p3, SL.sup S p2 (.lst ((ns.take 63).map .int)) p3 = none →
      lcL (ugName 1) utYes (uFn (gP fAbs) (uCons (uFn (gP fInt) (uCons (uVar 1) uNil)) uNil)) (fun S => S p2 = some (.lst ((ns.take 63).map .int))) [1] p3 [some sd, none] (fun S2 => 1 ≤ sizeLine ∧ ∀ p, S2 p = none → ∃ xs, SL.sup S2 p (.lst [.int 5]) p3 = some (.lst xs) ∧ ∃ ys, some (Ob.lst [.int 5]) = some (Ob.lst ys) ∧ xs.length + ys.length ≤ sizeLine ∧
        ∀ p_1, SL.sup S2 p (.lst [.int 5]) p_1 = none → 4 ≤ sizeLine ∧ ∀ p_2, SL.sup (SL.sup S2 p (.lst [.int 5])) p_1 (.lst (xs ++ ys)) p_2 = none → ∃ S', Le S' (SL.sup (SL.sup (SL.sup S2 p (.lst [.int 5])) p_1 (.lst (xs ++ ys))) p_2 (.lst [.ref p_1, .int 0, .int 0, .int 0])) ∧ Q (.ref p_2) S') ((ns.take 63).map .int) (SL.sup (SL.sup S p2 (.lst ((ns.take 63).map .int))) p3 (.lst [])) := fun p2 hp2 p3 hp3 => by
    have h23 : p2 ≠ p3 := fun z => by rw [← z, sup_same] at hp3; cases hp3
    have l1 : Le S (SL.sup S p2 (.lst ((ns.take 63).map .int))) := Le.new hp2
    refine lc_abs h23 rfl (ns.take 63) [] _ (by rw [sup_ne h23, sup_same]) (by rw [sup_same]; rfl) (by rw [List.length_take]; simp; omega) fun zs S' hS hp3' hz => ⟨szl (by decide), fun p hp => ?_⟩
    have l2 : Le S S' := fun b o e => by
      have hb : b ≠ p3 := fun z => by have := l1 b o e; rw [z, hp3] at this; cases this
      rw [hS b hb, sup_ne hb]; exact l1 b o e
    have hpp : p3 ≠ p := fun z => by rw [← z, hp3'] at hp; cases hp
    refine ⟨_, by rw [sup_ne hpp]; exact hp3', _, rfl, by rw [List.length_map, hz, List.length_take, sizeLine_eq]; simp; omega, fun p5 hp5 => ⟨szl (by decide), fun p6 hp6 => ⟨_, Le.refl _, q p6 p5 _ (((l2.trans (Le.new hp)).trans (Le.new hp5)).trans (Le.new hp6)) ⟨?_, ⟨zs ++ [5], ?_, by simp, by rw [List.length_append, hz, List.length_take]; simp; omega⟩, 0, 0, 0, sup_same⟩⟩⟩⟩
    · intro z; rw [← z, sup_same] at hp6; cases hp6
    · rw [sup_ne (fun z => by rw [← z, sup_same] at hp6; cases hp6), sup_same]; simp
  rcases hs with ⟨sc, rfl, hs⟩ | rfl
  · simp only [hs, hcut]
    intro p2 hp2
    simp only [vSeq, sup_same]
    exact fun p3 hp3 => main p2 hp2 p3 hp3
  · simp only [hcut]
    intro p2 hp2
    simp only [vSeq, sup_same]
    exact fun p3 hp3 => main p2 hp2 p3 hp3
end K82

set_option Elab.async false
set_option linter.all false
set_option maxRecDepth 100000
set_option maxHeartbeats 4000000
namespace K82
open PySem PySem.Spec L2 SL NumText
variable {K : PySem.W.Frag} {c : Cs}
theorem nd_places {a b : List Nat} : (dsk a b).lookup (Str.ofString "places") = none := lk_dn (by decide +kernel)
theorem nd_write {a b : List Nat} : (dsk a b).lookup (Str.ofString "write") = none := lk_dn (by decide +kernel)
theorem nd_close {a b : List Nat} : (dsk a b).lookup (Str.ofString "close") = none := lk_dn (by decide +kernel)
theorem nd_mend {a b : List Nat} : (dsk a b).lookup (Str.ofString "mend") = none := lk_dn (by decide +kernel)
theorem nd_head {a b : List Nat} : (dsk a b).lookup (Str.ofString "head") = none := lk_dn (by decide +kernel)
/-- what the classes say of each other -/
structure Ks (K : PySem.W.Frag) (c : Cs) : Prop where
  exT : PySem.W.exmOne K (.ref c.Torn) (.ref c.Torn) = some true
  exB : PySem.W.exmOne K (.ref c.BadBook) (.ref c.BadBook) = some true
def oth (a b : List Nat) : List Nat := if hn a < hn b then a else b
def tt (a b : List Nat) : Bool := decide (hn a < hn b)
def p0 (t : Bool) (x y : List Nat) : List Nat := if t = true then y else x
def p1 (t : Bool) (x y : List Nat) : List Nat := if t = true then x else y
section
variable {a b x y : List Nat} {t : Bool}
theorem ab0 : p0 (tt a b) (prs a b) (oth a b) = a := by
  unfold p0 tt prs oth; by_cases h : hn a < hn b <;> simp [h]
theorem ab1 : p1 (tt a b) (prs a b) (oth a b) = b := by
  unfold p1 tt prs oth; by_cases h : hn a < hn b <;> simp [h]
theorem putP_tt : putP a b x = dsk (p0 (tt a b) x (oth a b)) (p1 (tt a b) x (oth a b)) := by
  unfold putP p0 p1 tt oth; by_cases h : hn a < hn b <;> simp [h]
theorem putO_tt : putO a b x = dsk (p0 (tt a b) (prs a b) x) (p1 (tt a b) (prs a b) x) := by
  unfold putO p0 p1 tt prs; by_cases h : hn a < hn b <;> simp [h]
theorem vset_p {S : SS} {pl : Addr} {Q : SS → Prop} (hs : S pl = some (.lst [.str a, .str b])) (q : Q (SL.sup S pl (.lst [.str (p0 (tt a b) x (oth a b)), .str (p1 (tt a b) x (oth a b))]))) : vSet (.ref pl) (.int (pat a b)) (.str x) S Q := by
  simp only [vSet, hs]
  by_cases h : hn a < hn b
  · refine ⟨1, by rw [pat, if_pos h]; rfl, ?_⟩
    simpa [p0, p1, tt, oth, h] using q
  · refine ⟨0, by rw [pat, if_neg h]; rfl, ?_⟩
    simpa [p0, p1, tt, oth, h] using q
theorem vset_o {S : SS} {pl : Addr} {Q : SS → Prop} (hs : S pl = some (.lst [.str a, .str b])) (q : Q (SL.sup S pl (.lst [.str (p0 (tt a b) (prs a b) x), .str (p1 (tt a b) (prs a b) x)]))) : vSet (.ref pl) (.int (1 - pat a b)) (.str x) S Q := by
  simp only [vSet, hs]
  by_cases h : hn a < hn b
  · refine ⟨0, by rw [pat, if_pos h]; rfl, ?_⟩
    simpa [p0, p1, tt, prs, h] using q
  · refine ⟨1, by rw [pat, if_neg h]; rfl, ?_⟩
    simpa [p0, p1, tt, prs, h] using q
end
def Bd (M : Int) (L : Nat) (x : List Nat) : Prop := hn x ≤ M ∧ x.length ≤ L
structure PrOk (M : Int) (L : Nat) (a b : List Nat) : Prop where
  ok : 0 ≤ hn a ∨ 0 ≤ hn b
  l : Bd M L a
  r : Bd M L b
section
variable {a b x y : List Nat} {t : Bool} {M : Int} {L : Nat}
theorem PrOk.of (h : 0 ≤ hn x) (h1 : Bd M L x) (h2 : Bd M L y) : PrOk M L (p0 t x y) (p1 t x y) := by
  cases t
  · exact ⟨.inl h, h1, h2⟩
  · exact ⟨.inr h, h2, h1⟩
theorem PrOk.prs (h : PrOk M L a b) : 0 ≤ hn (prs a b) ∧ Bd M L (prs a b) ∧ Bd M L (oth a b) := by
  obtain ⟨h0, h1, h2⟩ := h
  unfold K82.prs oth
  by_cases z : hn a < hn b
  · rw [if_pos z, if_pos z]; exact ⟨by omega, h2, h1⟩
  · rw [if_neg z, if_neg z]; exact ⟨by omega, h1, h2⟩
theorem PrOk.pre (h : PrOk M L a b) : pre a b = pat a b := by
  have := h.ok
  unfold K82.pre; rw [if_neg (by omega)]
theorem hn_10 (h : 0 ≤ hn x) : 10 ∈ x := by
  by_cases z : 10 ∈ x
  · exact z
  · rw [hn_nolf z] at h; omega
theorem hn_app (h : 10 ∈ x) : hn (x ++ y) = hn x := by
  obtain ⟨l, r, e, h10⟩ := mem_split1 h
  subst e
  by_cases h32 : 32 ∈ l
  · obtain ⟨p, s, e, hp⟩ := mem_split1 h32
    subst e
    rw [List.append_assoc (as := p ++ 32 :: s), List.cons_append, hn_line hp, hn_line hp]
  · rw [List.append_assoc, List.cons_append, hn_noblank h32, hn_noblank h32]
theorem hn_take {k : Nat} (hx : 0 ≤ hn (x ++ [10])) (h10 : 10 ∉ x) : hn ((x ++ [10]).take k) = hn (x ++ [10]) ∨ hn ((x ++ [10]).take k) = -1 := by
  by_cases h : k ≤ x.length
  · right
    rw [List.take_append_of_le_length h]
    exact hn_nolf fun z => h10 (List.mem_of_mem_take z)
  · left
    rw [List.take_of_length_le (by simp; omega)]
theorem head_of (h : 0 ≤ hn x) : ∃ p s ls e, x = wl ((p ++ 32 :: s) :: ls) ++ e ∧ (∀ l ∈ (p ++ 32 :: s) :: ls, 10 ∉ l) ∧ 10 ∉ e ∧ 32 ∉ p ∧ htx x = s := by
  obtain ⟨ls, e, h1, h2, h3⟩ := lines_of x
  cases ls with
  | nil => rw [h1, wl_nil, List.nil_append, hn_nolf h3] at h; omega
  | cons l ls =>
    by_cases h32 : 32 ∈ l
    · obtain ⟨p, s, e', hp⟩ := mem_split1 h32
      subst e'
      refine ⟨p, s, ls, e, h1, h2, h3, hp, ?_⟩
      rw [h1, wl_cons, List.append_assoc, List.cons_append]
      exact htx_at hp (h2 _ List.mem_cons_self)
    · rw [h1, wl_cons, List.append_assoc, List.cons_append, hn_noblank h32] at h; omega
end
theorem wl_le {ls : List (List Nat)} : ls.length ≤ (wl ls).length := by rw [wl_len]; omega
theorem cut_of {S : SS} {f cl : Addr} {size : Int} {Q : QN} {X : QX} (h : Flw S f cl) (h0 : 1 ≤ size) (h1 : size ≤ 1000000) (k : ∀ cu S', CutOk cu → Flw S' f cl → (∀ b, b ≠ f → S' b = S b) → Q cu S') : sp__law_cut [.ref f, .int size] S Q X := ⟨f, cl, size, rfl, h0, h1, h, k⟩
/-! ### _law_is -/
structure Pr (c : Cs) (S : SS) (d p : Addr) (M : Int) (L : Nat) (a b : List Nat) : Prop where
  d : S d = some (.ins c.Disk (dsk a b))
  p : S p = some (.lst [.str a, .str b])
  ok : PrOk M L a b
def sp__law_is (c : Cs) : FS := fun ds S Q X => ∃ d p M L a b, ds = [.ref d, .ref p] ∧ Pr c S d p M L a b ∧ L ≤ 50000 ∧ Q (.bl true) S
def is3 (c : Cs) (sp__law_same : FS) (sp_Disk___len__ : FS) : US := (usRet (uCall (sp__law_same) gId (uA1 2 (uCons (uLenI c.Disk (sp_Disk___len__) (uVar 0)) (uCons (uFn (gP fLen) (uCons (uVar 5) uNil)) uNil)))))
def is2 (c : Cs) (sp__law_same : FS) (sp_Disk_head : FS) (sp_Disk_records : FS) (sp_Disk___len__ : FS) : US := (usSeq (usIf (uOr (uNot (uTru (uCall (sp__law_same) gId (uA1 2 (uCons (uMeth c.Disk "head" (sp_Disk_head) gId (uVar 0) uA0) (uCons (uBin dIx (uVar 3) (uC (.int 1))) uNil)))))) (uNot (uTru (uCall (sp__law_same) gId (uA1 2 (uCons (uMeth c.Disk "records" (sp_Disk_records) gId (uVar 0) uA0) (uCons (uVar 5) uNil))))))) (usRet (uC (.bl false))) usNil) (is3 c sp__law_same sp_Disk___len__))
def is1 (c : Cs) (sp_Disk_places : FS) (sp__law_same : FS) (sp_Disk_book : FS) (sp_Disk_head : FS) (sp_Disk_records : FS) (sp_Disk___len__ : FS) : US := (usSeq (usIf (uOr (uNot (uTru (uCall (sp__law_same) gId (uA1 2 (uCons (uMeth c.Disk "places" (sp_Disk_places) gId (uVar 0) uA0) (uCons (uFn (gP fTup) (uCons (uVar 1) uNil)) uNil)))))) (uNot (uTru (uCall (sp__law_same) gId (uA1 2 (uCons (uProp c.Disk (sp_Disk_book) (uVar 0)) (uCons (uBin dIx (uVar 3) (uC (.int 0))) uNil))))))) (usRet (uC (.bl false))) usNil) (is2 c sp__law_same sp_Disk_head sp_Disk_records sp_Disk___len__))
def is0 (c : Cs) (sp_Disk_places : FS) (sp__law_same : FS) (sp_Disk_book : FS) (sp_Disk_head : FS) (sp_Disk_records : FS) (sp_Disk___len__ : FS) : US := (usSeq (usSet 5 (uFn (gP fTup) (uCons (uSl (uVar 4) (uPart (uC (.int 1))) (uPart (uBin dSub (uFn (gP fLen) (uCons (uVar 4) uNil)) (uC (.int 1))))) uNil))) (is1 c sp_Disk_places sp__law_same sp_Disk_book sp_Disk_head sp_Disk_records sp_Disk___len__))
theorem is_eq {K : PySem.W.Frag} {c : Cs} {sp__law_present : FS} {sp__law_head : FS} {sp_Disk_places : FS} {sp__law_same : FS} {sp_Disk_book : FS} {sp_Disk_head : FS} {sp_Disk_records : FS} {sp_Disk___len__ : FS} : u__law_is K c sp__law_present sp__law_head sp_Disk_places sp__law_same sp_Disk_book sp_Disk_head sp_Disk_records sp_Disk___len__ = (usSeq (usSet 2 (uCall (sp__law_present) gId (uA1 1 (uCons (uVar 1) uNil)))) (usSeq (usSet 3 (uCall (sp__law_head) gId (uA1 1 (uCons (uBin dIx (uVar 1) (uVar 2)) uNil)))) (usSeq (usSet 4 (uBM "str" gSplit (uBin dIx (uVar 1) (uVar 2)) (uCons (uC (.str (cs "\n"))) uNil))) (is0 c sp_Disk_places sp__law_same sp_Disk_book sp_Disk_head sp_Disk_records sp_Disk___len__)))) := rfl

theorem ok_law_is {ds : List D} {S : SS} {Q : QN} {X : QX} (h : sp__law_is c ds S Q X) : u__law_is K c sp__law_present sp__law_head (sp_Disk_places c) (sp_ls 6) (sp_Disk_book c) (sp_Disk_head c) (sp_Disk_records c) (sp_Disk___len__ c) (bodyE Q X) (startE N__law_is ds) S := by
  obtain ⟨d, p, M, L, a, b, rfl, ⟨hd, hp, hok⟩, hL, q⟩ := h
  obtain ⟨h0, ⟨hM, hl⟩, _⟩ := hok.prs
  obtain ⟨_, ⟨_, la⟩, ⟨_, lb⟩⟩ := id hok
  have dk : Dk c S d a b := ⟨hd, by omega, by omega⟩
  obtain ⟨np, s, ls, e, ex, hls, he, h32, hs⟩ := head_of h0
  have hll : ls.length ≤ 50000 := by
    have : ls.length + 1 ≤ (prs a b).length := by rw [ex, List.length_append]; have := wl_le (ls := (np ++ 32 :: s) :: ls); simp only [List.length_cons] at this; omega
    omega
  rw [is_eq]
  simp only [dAdd, dAddI, dSub, dEq, dNe, dLt, dLe, dGt, dGe, dIs, SL.isNon, dNeg, fLen, lenD, isTy, mLstrip, seqOf, tru, tyOf, Option.map_some, String.reduceEq, usNil, usSeq, usSet, usExpr, usRet, usRetN, usIf, usBrk, usCnt, usAug, usAsg, usDPut, usRaise, usSub, uVar, uC, uBin, uChain, uUn, uTru, uTb, uAnd, uOr, uNot, uAndV, uOrV, uNotV, uIte, uNil, uCons, uTup, uLst, uNoPart, uPart, uSl, vSl, uFn, gP, uIsi, uBM, uBM0, gM, gAppend, gPop, uCall, uA0, uA1, gId, gApp, isSeq, isRng, isRng2, uDGet, bodyE, startE, ugName, List.map_cons, List.map_nil, List.length_cons, List.length_nil, List.cons_append, List.nil_append, List.getElem?_cons_zero, List.getElem?_cons_succ, List.set_cons_zero, List.set_cons_succ, List.replicate, Nat.add_one_sub_one, Nat.sub_self, Nat.reduceSub, Nat.reduceAdd, Option.some.injEq, exists_eq_left', exists_eq_left, exists_and_left, true_and, and_true, D.bl.injEq, D.int.injEq, D.str.injEq, D.tup.injEq, D.ref.injEq, Ob.lst.injEq, List.cons.injEq, fTup, if_true, if_false, ite_true, ite_false, Bool.false_eq_true, Bool.true_eq_false, reduceIte, Ob.ins.injEq, Ob.dic.injEq, usFor, uMeth, uProp, uLenI, uMake, uCMeth, uLc, vSeq, uA2, uA3, gNon, sup_same, sup_sup, dIx, dNot, dIsNot, Bool.not_true, Bool.not_false]
  refine ⟨p, a, b, rfl, hp, by omega, by omega, ?_⟩
  rw [hok.pre]
  simp only [dAdd, dAddI, dSub, dEq, dNe, dLt, dLe, dGt, dGe, dIs, SL.isNon, dNeg, fLen, lenD, isTy, mLstrip, seqOf, tru, tyOf, Option.map_some, String.reduceEq, usNil, usSeq, usSet, usExpr, usRet, usRetN, usIf, usBrk, usCnt, usAug, usAsg, usDPut, usRaise, usSub, uVar, uC, uBin, uChain, uUn, uTru, uTb, uAnd, uOr, uNot, uAndV, uOrV, uNotV, uIte, uNil, uCons, uTup, uLst, uNoPart, uPart, uSl, vSl, uFn, gP, uIsi, uBM, uBM0, gM, gAppend, gPop, uCall, uA0, uA1, gId, gApp, isSeq, isRng, isRng2, uDGet, bodyE, startE, ugName, List.map_cons, List.map_nil, List.length_cons, List.length_nil, List.cons_append, List.nil_append, List.getElem?_cons_zero, List.getElem?_cons_succ, List.set_cons_zero, List.set_cons_succ, List.replicate, Nat.add_one_sub_one, Nat.sub_self, Nat.reduceSub, Nat.reduceAdd, Option.some.injEq, exists_eq_left', exists_eq_left, exists_and_left, true_and, and_true, D.bl.injEq, D.int.injEq, D.str.injEq, D.tup.injEq, D.ref.injEq, Ob.lst.injEq, List.cons.injEq, fTup, if_true, if_false, ite_true, ite_false, Bool.false_eq_true, Bool.true_eq_false, reduceIte, Ob.ins.injEq, Ob.dic.injEq, usFor, uMeth, uProp, uLenI, uMake, uCMeth, uLc, vSeq, uA2, uA3, gNon, sup_same, sup_sup, dIx, dNot, dIsNot, Bool.not_true, Bool.not_false, hp, atIp]
  refine ⟨_, rfl, by omega, ?_⟩
  rw [hd_pos h0]
  have hsp : sSplit (prs a b) [10] = ((np ++ 32 :: s) :: ls) ++ [e] := by rw [ex]; exact split_plc hls he
  have hne : ([10] : List Nat) ≠ [] := by simp
  have hx8 : (prs a b).length + 2 ≤ sizeLine := lz72 (by omega)
  unfold is0
  simp only [dAdd, dAddI, dSub, dEq, dNe, dLt, dLe, dGt, dGe, dIs, SL.isNon, dNeg, fLen, lenD, isTy, mLstrip, seqOf, tru, tyOf, Option.map_some, String.reduceEq, usNil, usSeq, usSet, usExpr, usRet, usRetN, usIf, usBrk, usCnt, usAug, usAsg, usDPut, usRaise, usSub, uVar, uC, uBin, uChain, uUn, uTru, uTb, uAnd, uOr, uNot, uAndV, uOrV, uNotV, uIte, uNil, uCons, uTup, uLst, uNoPart, uPart, uSl, vSl, uFn, gP, uIsi, uBM, uBM0, gM, gAppend, gPop, uCall, uA0, uA1, gId, gApp, isSeq, isRng, isRng2, uDGet, bodyE, startE, ugName, List.map_cons, List.map_nil, List.length_cons, List.length_nil, List.cons_append, List.nil_append, List.getElem?_cons_zero, List.getElem?_cons_succ, List.set_cons_zero, List.set_cons_succ, List.replicate, Nat.add_one_sub_one, Nat.sub_self, Nat.reduceSub, Nat.reduceAdd, Option.some.injEq, exists_eq_left', exists_eq_left, exists_and_left, true_and, and_true, D.bl.injEq, D.int.injEq, D.str.injEq, D.tup.injEq, D.ref.injEq, Ob.lst.injEq, List.cons.injEq, fTup, if_true, if_false, ite_true, ite_false, Bool.false_eq_true, Bool.true_eq_false, reduceIte, Ob.ins.injEq, Ob.dic.injEq, usFor, uMeth, uProp, uLenI, uMake, uCMeth, uLc, vSeq, uA2, uA3, gNon, sup_same, sup_sup, dIx, dNot, dIsNot, Bool.not_true, Bool.not_false, hp, atIp, gSplit, c_lf, hsp, hne, hx8]
  refine ⟨hne, fun q1 hq1 q2 hq2 => ?_⟩
  have hcut : cut (D.str (np ++ 32 :: s) :: List.map D.str (ls ++ [e])) (some 1) (some (((List.map D.str (ls ++ [e])).length + 1 : Nat) - 1 : Int)) = ls.map .str := by
    rw [cut_int (by decide) (by omega)]
    have e1 : ((((List.map D.str (ls ++ [e])).length + 1 : Nat) : Int) - 1).toNat - (1 : Int).toNat = ls.length := by simp
    rw [e1]
    simp
  simp only [hcut]
  have l2 := (Le.new (o := .lst (D.str (np ++ 32 :: s) :: List.map D.str (ls ++ [e]))) hq1).trans (Le.new (o := .lst (ls.map D.str)) hq2)
  generalize hS2 : SL.sup (SL.sup S q1 (.lst (D.str (np ++ 32 :: s) :: List.map D.str (ls ++ [e])))) q2 (.lst (ls.map D.str)) = S2 at *
  have hd2 := l2 _ _ hd
  have hp2 := l2 _ _ hp
  have dk2 : Dk c S2 d a b := ⟨hd2, by omega, by omega⟩
  have eP : EzW 1 (D.tup [D.str a, D.str b]) := ⟨by simp, fun x hx => by simp at hx; rcases hx with rfl | rfl <;> trivial⟩
  have eR : EzW 1 (D.tup (ls.map D.str)) := ⟨by rw [List.length_map]; omega, fun x hx => by
    obtain ⟨y, _, rfl⟩ := List.mem_map.mp hx; trivial⟩
  unfold is1
  simp only [dAdd, dAddI, dSub, dEq, dNe, dLt, dLe, dGt, dGe, dIs, SL.isNon, dNeg, fLen, lenD, isTy, mLstrip, seqOf, tru, tyOf, Option.map_some, String.reduceEq, usNil, usSeq, usSet, usExpr, usRet, usRetN, usIf, usBrk, usCnt, usAug, usAsg, usDPut, usRaise, usSub, uVar, uC, uBin, uChain, uUn, uTru, uTb, uAnd, uOr, uNot, uAndV, uOrV, uNotV, uIte, uNil, uCons, uTup, uLst, uNoPart, uPart, uSl, vSl, uFn, gP, uIsi, uBM, uBM0, gM, gAppend, gPop, uCall, uA0, uA1, gId, gApp, isSeq, isRng, isRng2, uDGet, bodyE, startE, ugName, List.map_cons, List.map_nil, List.length_cons, List.length_nil, List.cons_append, List.nil_append, List.getElem?_cons_zero, List.getElem?_cons_succ, List.set_cons_zero, List.set_cons_succ, List.replicate, Nat.add_one_sub_one, Nat.sub_self, Nat.reduceSub, Nat.reduceAdd, Option.some.injEq, exists_eq_left', exists_eq_left, exists_and_left, true_and, and_true, D.bl.injEq, D.int.injEq, D.str.injEq, D.tup.injEq, D.ref.injEq, Ob.lst.injEq, List.cons.injEq, fTup, if_true, if_false, ite_true, ite_false, Bool.false_eq_true, Bool.true_eq_false, reduceIte, Ob.ins.injEq, Ob.dic.injEq, usFor, uMeth, uProp, uLenI, uMake, uCMeth, uLc, vSeq, uA2, uA3, gNon, sup_same, sup_sup, dIx, dNot, dIsNot, Bool.not_true, Bool.not_false, hd2, hp2]
  refine ⟨nd_places, d, a, b, rfl, dk2, ?_⟩
  simp only [dAdd, dAddI, dSub, dEq, dNe, dLt, dLe, dGt, dGe, dIs, SL.isNon, dNeg, fLen, lenD, isTy, mLstrip, seqOf, tru, tyOf, Option.map_some, String.reduceEq, usNil, usSeq, usSet, usExpr, usRet, usRetN, usIf, usBrk, usCnt, usAug, usAsg, usDPut, usRaise, usSub, uVar, uC, uBin, uChain, uUn, uTru, uTb, uAnd, uOr, uNot, uAndV, uOrV, uNotV, uIte, uNil, uCons, uTup, uLst, uNoPart, uPart, uSl, vSl, uFn, gP, uIsi, uBM, uBM0, gM, gAppend, gPop, uCall, uA0, uA1, gId, gApp, isSeq, isRng, isRng2, uDGet, bodyE, startE, ugName, List.map_cons, List.map_nil, List.length_cons, List.length_nil, List.cons_append, List.nil_append, List.getElem?_cons_zero, List.getElem?_cons_succ, List.set_cons_zero, List.set_cons_succ, List.replicate, Nat.add_one_sub_one, Nat.sub_self, Nat.reduceSub, Nat.reduceAdd, Option.some.injEq, exists_eq_left', exists_eq_left, exists_and_left, true_and, and_true, D.bl.injEq, D.int.injEq, D.str.injEq, D.tup.injEq, D.ref.injEq, Ob.lst.injEq, List.cons.injEq, fTup, if_true, if_false, ite_true, ite_false, Bool.false_eq_true, Bool.true_eq_false, reduceIte, Ob.ins.injEq, Ob.dic.injEq, usFor, uMeth, uProp, uLenI, uMake, uCMeth, uLc, vSeq, uA2, uA3, gNon, sup_same, sup_sup, dIx, dNot, dIsNot, Bool.not_true, Bool.not_false, hd2, hp2]
  refine ls_of (m := 1) (by decide) eP ?_
  simp only [dAdd, dAddI, dSub, dEq, dNe, dLt, dLe, dGt, dGe, dIs, SL.isNon, dNeg, fLen, lenD, isTy, mLstrip, seqOf, tru, tyOf, Option.map_some, String.reduceEq, usNil, usSeq, usSet, usExpr, usRet, usRetN, usIf, usBrk, usCnt, usAug, usAsg, usDPut, usRaise, usSub, uVar, uC, uBin, uChain, uUn, uTru, uTb, uAnd, uOr, uNot, uAndV, uOrV, uNotV, uIte, uNil, uCons, uTup, uLst, uNoPart, uPart, uSl, vSl, uFn, gP, uIsi, uBM, uBM0, gM, gAppend, gPop, uCall, uA0, uA1, gId, gApp, isSeq, isRng, isRng2, uDGet, bodyE, startE, ugName, List.map_cons, List.map_nil, List.length_cons, List.length_nil, List.cons_append, List.nil_append, List.getElem?_cons_zero, List.getElem?_cons_succ, List.set_cons_zero, List.set_cons_succ, List.replicate, Nat.add_one_sub_one, Nat.sub_self, Nat.reduceSub, Nat.reduceAdd, Option.some.injEq, exists_eq_left', exists_eq_left, exists_and_left, true_and, and_true, D.bl.injEq, D.int.injEq, D.str.injEq, D.tup.injEq, D.ref.injEq, Ob.lst.injEq, List.cons.injEq, fTup, if_true, if_false, ite_true, ite_false, Bool.false_eq_true, Bool.true_eq_false, reduceIte, Ob.ins.injEq, Ob.dic.injEq, usFor, uMeth, uProp, uLenI, uMake, uCMeth, uLc, vSeq, uA2, uA3, gNon, sup_same, sup_sup, dIx, dNot, dIsNot, Bool.not_true, Bool.not_false, hd2, hp2]
  refine ⟨d, a, b, rfl, dk2, ?_⟩
  simp only [dAdd, dAddI, dSub, dEq, dNe, dLt, dLe, dGt, dGe, dIs, SL.isNon, dNeg, fLen, lenD, isTy, mLstrip, seqOf, tru, tyOf, Option.map_some, String.reduceEq, usNil, usSeq, usSet, usExpr, usRet, usRetN, usIf, usBrk, usCnt, usAug, usAsg, usDPut, usRaise, usSub, uVar, uC, uBin, uChain, uUn, uTru, uTb, uAnd, uOr, uNot, uAndV, uOrV, uNotV, uIte, uNil, uCons, uTup, uLst, uNoPart, uPart, uSl, vSl, uFn, gP, uIsi, uBM, uBM0, gM, gAppend, gPop, uCall, uA0, uA1, gId, gApp, isSeq, isRng, isRng2, uDGet, bodyE, startE, ugName, List.map_cons, List.map_nil, List.length_cons, List.length_nil, List.cons_append, List.nil_append, List.getElem?_cons_zero, List.getElem?_cons_succ, List.set_cons_zero, List.set_cons_succ, List.replicate, Nat.add_one_sub_one, Nat.sub_self, Nat.reduceSub, Nat.reduceAdd, Option.some.injEq, exists_eq_left', exists_eq_left, exists_and_left, true_and, and_true, D.bl.injEq, D.int.injEq, D.str.injEq, D.tup.injEq, D.ref.injEq, Ob.lst.injEq, List.cons.injEq, fTup, if_true, if_false, ite_true, ite_false, Bool.false_eq_true, Bool.true_eq_false, reduceIte, Ob.ins.injEq, Ob.dic.injEq, usFor, uMeth, uProp, uLenI, uMake, uCMeth, uLc, vSeq, uA2, uA3, gNon, sup_same, sup_sup, dIx, dNot, dIsNot, Bool.not_true, Bool.not_false, atI0]
  refine ls_of (m := 0) (by decide) trivial ?_
  unfold is2
  simp only [dAdd, dAddI, dSub, dEq, dNe, dLt, dLe, dGt, dGe, dIs, SL.isNon, dNeg, fLen, lenD, isTy, mLstrip, seqOf, tru, tyOf, Option.map_some, String.reduceEq, usNil, usSeq, usSet, usExpr, usRet, usRetN, usIf, usBrk, usCnt, usAug, usAsg, usDPut, usRaise, usSub, uVar, uC, uBin, uChain, uUn, uTru, uTb, uAnd, uOr, uNot, uAndV, uOrV, uNotV, uIte, uNil, uCons, uTup, uLst, uNoPart, uPart, uSl, vSl, uFn, gP, uIsi, uBM, uBM0, gM, gAppend, gPop, uCall, uA0, uA1, gId, gApp, isSeq, isRng, isRng2, uDGet, bodyE, startE, ugName, List.map_cons, List.map_nil, List.length_cons, List.length_nil, List.cons_append, List.nil_append, List.getElem?_cons_zero, List.getElem?_cons_succ, List.set_cons_zero, List.set_cons_succ, List.replicate, Nat.add_one_sub_one, Nat.sub_self, Nat.reduceSub, Nat.reduceAdd, Option.some.injEq, exists_eq_left', exists_eq_left, exists_and_left, true_and, and_true, D.bl.injEq, D.int.injEq, D.str.injEq, D.tup.injEq, D.ref.injEq, Ob.lst.injEq, List.cons.injEq, fTup, if_true, if_false, ite_true, ite_false, Bool.false_eq_true, Bool.true_eq_false, reduceIte, Ob.ins.injEq, Ob.dic.injEq, usFor, uMeth, uProp, uLenI, uMake, uCMeth, uLc, vSeq, uA2, uA3, gNon, sup_same, sup_sup, dIx, dNot, dIsNot, Bool.not_true, Bool.not_false, hd2, hp2]
  refine ⟨nd_head, d, a, b, np, s, ls, e, rfl, dk2, ex, hls, he, h32, ?_⟩
  simp only [dAdd, dAddI, dSub, dEq, dNe, dLt, dLe, dGt, dGe, dIs, SL.isNon, dNeg, fLen, lenD, isTy, mLstrip, seqOf, tru, tyOf, Option.map_some, String.reduceEq, usNil, usSeq, usSet, usExpr, usRet, usRetN, usIf, usBrk, usCnt, usAug, usAsg, usDPut, usRaise, usSub, uVar, uC, uBin, uChain, uUn, uTru, uTb, uAnd, uOr, uNot, uAndV, uOrV, uNotV, uIte, uNil, uCons, uTup, uLst, uNoPart, uPart, uSl, vSl, uFn, gP, uIsi, uBM, uBM0, gM, gAppend, gPop, uCall, uA0, uA1, gId, gApp, isSeq, isRng, isRng2, uDGet, bodyE, startE, ugName, List.map_cons, List.map_nil, List.length_cons, List.length_nil, List.cons_append, List.nil_append, List.getElem?_cons_zero, List.getElem?_cons_succ, List.set_cons_zero, List.set_cons_succ, List.replicate, Nat.add_one_sub_one, Nat.sub_self, Nat.reduceSub, Nat.reduceAdd, Option.some.injEq, exists_eq_left', exists_eq_left, exists_and_left, true_and, and_true, D.bl.injEq, D.int.injEq, D.str.injEq, D.tup.injEq, D.ref.injEq, Ob.lst.injEq, List.cons.injEq, fTup, if_true, if_false, ite_true, ite_false, Bool.false_eq_true, Bool.true_eq_false, reduceIte, Ob.ins.injEq, Ob.dic.injEq, usFor, uMeth, uProp, uLenI, uMake, uCMeth, uLc, vSeq, uA2, uA3, gNon, sup_same, sup_sup, dIx, dNot, dIsNot, Bool.not_true, Bool.not_false, atI1, hs]
  refine ls_of (m := 0) (by decide) trivial ?_
  simp only [dAdd, dAddI, dSub, dEq, dNe, dLt, dLe, dGt, dGe, dIs, SL.isNon, dNeg, fLen, lenD, isTy, mLstrip, seqOf, tru, tyOf, Option.map_some, String.reduceEq, usNil, usSeq, usSet, usExpr, usRet, usRetN, usIf, usBrk, usCnt, usAug, usAsg, usDPut, usRaise, usSub, uVar, uC, uBin, uChain, uUn, uTru, uTb, uAnd, uOr, uNot, uAndV, uOrV, uNotV, uIte, uNil, uCons, uTup, uLst, uNoPart, uPart, uSl, vSl, uFn, gP, uIsi, uBM, uBM0, gM, gAppend, gPop, uCall, uA0, uA1, gId, gApp, isSeq, isRng, isRng2, uDGet, bodyE, startE, ugName, List.map_cons, List.map_nil, List.length_cons, List.length_nil, List.cons_append, List.nil_append, List.getElem?_cons_zero, List.getElem?_cons_succ, List.set_cons_zero, List.set_cons_succ, List.replicate, Nat.add_one_sub_one, Nat.sub_self, Nat.reduceSub, Nat.reduceAdd, Option.some.injEq, exists_eq_left', exists_eq_left, exists_and_left, true_and, and_true, D.bl.injEq, D.int.injEq, D.str.injEq, D.tup.injEq, D.ref.injEq, Ob.lst.injEq, List.cons.injEq, fTup, if_true, if_false, ite_true, ite_false, Bool.false_eq_true, Bool.true_eq_false, reduceIte, Ob.ins.injEq, Ob.dic.injEq, usFor, uMeth, uProp, uLenI, uMake, uCMeth, uLc, vSeq, uA2, uA3, gNon, sup_same, sup_sup, dIx, dNot, dIsNot, Bool.not_true, Bool.not_false, hd2, hp2]
  refine ⟨nd_rec, d, a, b, _, ls, e, rfl, dk2, ex, hls, he, ?_⟩
  refine ls_of (m := 1) (by decide) eR ?_
  unfold is3
  simp only [dAdd, dAddI, dSub, dEq, dNe, dLt, dLe, dGt, dGe, dIs, SL.isNon, dNeg, fLen, lenD, isTy, mLstrip, seqOf, tru, tyOf, Option.map_some, String.reduceEq, usNil, usSeq, usSet, usExpr, usRet, usRetN, usIf, usBrk, usCnt, usAug, usAsg, usDPut, usRaise, usSub, uVar, uC, uBin, uChain, uUn, uTru, uTb, uAnd, uOr, uNot, uAndV, uOrV, uNotV, uIte, uNil, uCons, uTup, uLst, uNoPart, uPart, uSl, vSl, uFn, gP, uIsi, uBM, uBM0, gM, gAppend, gPop, uCall, uA0, uA1, gId, gApp, isSeq, isRng, isRng2, uDGet, bodyE, startE, ugName, List.map_cons, List.map_nil, List.length_cons, List.length_nil, List.cons_append, List.nil_append, List.getElem?_cons_zero, List.getElem?_cons_succ, List.set_cons_zero, List.set_cons_succ, List.replicate, Nat.add_one_sub_one, Nat.sub_self, Nat.reduceSub, Nat.reduceAdd, Option.some.injEq, exists_eq_left', exists_eq_left, exists_and_left, true_and, and_true, D.bl.injEq, D.int.injEq, D.str.injEq, D.tup.injEq, D.ref.injEq, Ob.lst.injEq, List.cons.injEq, fTup, if_true, if_false, ite_true, ite_false, Bool.false_eq_true, Bool.true_eq_false, reduceIte, Ob.ins.injEq, Ob.dic.injEq, usFor, uMeth, uProp, uLenI, uMake, uCMeth, uLc, vSeq, uA2, uA3, gNon, sup_same, sup_sup, dIx, dNot, dIsNot, Bool.not_true, Bool.not_false, hd2, hp2]
  refine ⟨d, a, b, _, ls, e, rfl, dk2, ex, hls, he, ?_⟩
  simp only [dAdd, dAddI, dSub, dEq, dNe, dLt, dLe, dGt, dGe, dIs, SL.isNon, dNeg, fLen, lenD, isTy, mLstrip, seqOf, tru, tyOf, Option.map_some, String.reduceEq, usNil, usSeq, usSet, usExpr, usRet, usRetN, usIf, usBrk, usCnt, usAug, usAsg, usDPut, usRaise, usSub, uVar, uC, uBin, uChain, uUn, uTru, uTb, uAnd, uOr, uNot, uAndV, uOrV, uNotV, uIte, uNil, uCons, uTup, uLst, uNoPart, uPart, uSl, vSl, uFn, gP, uIsi, uBM, uBM0, gM, gAppend, gPop, uCall, uA0, uA1, gId, gApp, isSeq, isRng, isRng2, uDGet, bodyE, startE, ugName, List.map_cons, List.map_nil, List.length_cons, List.length_nil, List.cons_append, List.nil_append, List.getElem?_cons_zero, List.getElem?_cons_succ, List.set_cons_zero, List.set_cons_succ, List.replicate, Nat.add_one_sub_one, Nat.sub_self, Nat.reduceSub, Nat.reduceAdd, Option.some.injEq, exists_eq_left', exists_eq_left, exists_and_left, true_and, and_true, D.bl.injEq, D.int.injEq, D.str.injEq, D.tup.injEq, D.ref.injEq, Ob.lst.injEq, List.cons.injEq, fTup, if_true, if_false, ite_true, ite_false, Bool.false_eq_true, Bool.true_eq_false, reduceIte, Ob.ins.injEq, Ob.dic.injEq, usFor, uMeth, uProp, uLenI, uMake, uCMeth, uLc, vSeq, uA2, uA3, gNon, sup_same, sup_sup, dIx, dNot, dIsNot, Bool.not_true, Bool.not_false, List.length_map]
  refine ⟨by omega, by omega, ls_of (v := .int ls.length) (m := 0) (by decide) trivial ?_⟩
  exact ⟨S, l2, q⟩
end K82

set_option Elab.async false
set_option linter.all false
set_option maxRecDepth 100000
set_option maxHeartbeats 4000000
namespace K82
open PySem PySem.Spec L2 SL NumText
variable {K : PySem.W.Frag} {c : Cs}

theorem Pr.ne {S : SS} {d p f cl : Addr} {M : Int} {L : Nat} {a b : List Nat} (h : Pr c S d p M L a b) (hf : Flw S f cl) : d ≠ p ∧ d ≠ f ∧ p ≠ f ∧ d ≠ cl ∧ p ≠ cl := by
  obtain ⟨hd, hp, _⟩ := h
  obtain ⟨_, ⟨xs, hc, hx0, _⟩, x, g, t, hr⟩ := hf
  refine ⟨fun z => ?_, fun z => ?_, fun z => ?_, fun z => ?_, fun z => ?_⟩ <;> subst z
  · rw [hd] at hp; cases hp
  · rw [hd] at hr; cases hr
  · rw [hp] at hr; cases hr
  · rw [hd] at hc; cases hc
  · rw [hp] at hc
    cases xs with
    | nil => exact hx0 rfl
    | cons y ys => simp at hc
theorem Pr.dn {S : SS} {d p : Addr} {M : Int} {L : Nat} {a b : List Nat} (h : Pr c S d p M L a b) : d ≠ p := by
  obtain ⟨hd, hp, _⟩ := h
  intro z; subst z; rw [hd] at hp; cases hp
theorem Pr.keep {S S' : SS} {d p : Addr} {M : Int} {L : Nat} {a b : List Nat} (h : Pr c S d p M L a b) (h1 : S' d = S d) (h2 : S' p = S p) : Pr c S' d p M L a b := ⟨h1.trans h.d, h2.trans h.p, h.ok⟩
/-! ### mend -/
def sp__law_mend (c : Cs) : FS := fun ds S Q X => ∃ d p M L a b, ds = [.ref d, .ref p] ∧ Pr c S d p M L a b ∧ L ≤ 50000 ∧ ∀ a' b' S', Pr c S' d p M L a' b' → (∀ x, x ≠ d → x ≠ p → S' x = S x) → Q (.bl true) S'
theorem ok_law_mend {ds : List D} {S : SS} {Q : QN} {X : QX} (h : sp__law_mend c ds S Q X) : u__law_mend K c sp__law_present sp__law_torn (sp_Disk_mend c) (sp_ls 6) (bodyE Q X) (startE N__law_mend ds) S := by
  obtain ⟨d, p, M, L, a, b, rfl, hpr, hL, q⟩ := h
  obtain ⟨hd, hp, hok⟩ := id hpr
  have hdp := hpr.dn
  obtain ⟨h0, ⟨hM, hl⟩, ho⟩ := hok.prs
  obtain ⟨_, ⟨_, la⟩, ⟨_, lb⟩⟩ := id hok
  obtain ⟨ls, e, ex, hls, he⟩ := lines_of (prs a b)
  have hx8 : (prs a b).length ≤ sizeLine := lz7 (by omega)
  unfold u__law_mend
  simp only [dAdd, dAddI, dSub, dEq, dNe, dLt, dLe, dGt, dGe, dIs, SL.isNon, dNeg, fLen, lenD, isTy, mLstrip, seqOf, tru, tyOf, Option.map_some, String.reduceEq, usNil, usSeq, usSet, usExpr, usRet, usRetN, usIf, usBrk, usCnt, usAug, usAsg, usDPut, usRaise, usSub, uVar, uC, uBin, uChain, uUn, uTru, uTb, uAnd, uOr, uNot, uAndV, uOrV, uNotV, uIte, uNil, uCons, uTup, uLst, uNoPart, uPart, uSl, vSl, uFn, gP, uIsi, uBM, uBM0, gM, gAppend, gPop, uCall, uA0, uA1, gId, gApp, isSeq, isRng, isRng2, uDGet, bodyE, startE, ugName, List.map_cons, List.map_nil, List.length_cons, List.length_nil, List.cons_append, List.nil_append, List.getElem?_cons_zero, List.getElem?_cons_succ, List.set_cons_zero, List.set_cons_succ, List.replicate, Nat.add_one_sub_one, Nat.sub_self, Nat.reduceSub, Nat.reduceAdd, Option.some.injEq, exists_eq_left', exists_eq_left, exists_and_left, true_and, and_true, D.bl.injEq, D.int.injEq, D.str.injEq, D.tup.injEq, D.ref.injEq, Ob.lst.injEq, List.cons.injEq, fTup, if_true, if_false, ite_true, ite_false, Bool.false_eq_true, Bool.true_eq_false, reduceIte, Ob.ins.injEq, Ob.dic.injEq, usFor, uMeth, uProp, uLenI, uMake, uCMeth, uLc, vSeq, uA2, uA3, gNon, sup_same, sup_sup, dIx, dNot, dIsNot, Bool.not_true, Bool.not_false]
  refine ⟨p, a, b, rfl, hp, by omega, by omega, ?_⟩
  rw [hok.pre]
  simp only [dAdd, dAddI, dSub, dEq, dNe, dLt, dLe, dGt, dGe, dIs, SL.isNon, dNeg, fLen, lenD, isTy, mLstrip, seqOf, tru, tyOf, Option.map_some, String.reduceEq, usNil, usSeq, usSet, usExpr, usRet, usRetN, usIf, usBrk, usCnt, usAug, usAsg, usDPut, usRaise, usSub, uVar, uC, uBin, uChain, uUn, uTru, uTb, uAnd, uOr, uNot, uAndV, uOrV, uNotV, uIte, uNil, uCons, uTup, uLst, uNoPart, uPart, uSl, vSl, uFn, gP, uIsi, uBM, uBM0, gM, gAppend, gPop, uCall, uA0, uA1, gId, gApp, isSeq, isRng, isRng2, uDGet, bodyE, startE, ugName, List.map_cons, List.map_nil, List.length_cons, List.length_nil, List.cons_append, List.nil_append, List.getElem?_cons_zero, List.getElem?_cons_succ, List.set_cons_zero, List.set_cons_succ, List.replicate, Nat.add_one_sub_one, Nat.sub_self, Nat.reduceSub, Nat.reduceAdd, Option.some.injEq, exists_eq_left', exists_eq_left, exists_and_left, true_and, and_true, D.bl.injEq, D.int.injEq, D.str.injEq, D.tup.injEq, D.ref.injEq, Ob.lst.injEq, List.cons.injEq, fTup, if_true, if_false, ite_true, ite_false, Bool.false_eq_true, Bool.true_eq_false, reduceIte, Ob.ins.injEq, Ob.dic.injEq, usFor, uMeth, uProp, uLenI, uMake, uCMeth, uLc, vSeq, uA2, uA3, gNon, sup_same, sup_sup, dIx, dNot, dIsNot, Bool.not_true, Bool.not_false, hp, atIp]
  refine ⟨ls, e, by rw [ex], he, by rw [← ex]; exact hx8, ?_⟩
  have hel : e.length ≤ sizeLine := lz7 (by rw [ex, List.length_append] at hl; omega)
  simp only [dAdd, dAddI, dSub, dEq, dNe, dLt, dLe, dGt, dGe, dIs, SL.isNon, dNeg, fLen, lenD, isTy, mLstrip, seqOf, tru, tyOf, Option.map_some, String.reduceEq, usNil, usSeq, usSet, usExpr, usRet, usRetN, usIf, usBrk, usCnt, usAug, usAsg, usDPut, usRaise, usSub, uVar, uC, uBin, uChain, uUn, uTru, uTb, uAnd, uOr, uNot, uAndV, uOrV, uNotV, uIte, uNil, uCons, uTup, uLst, uNoPart, uPart, uSl, vSl, uFn, gP, uIsi, uBM, uBM0, gM, gAppend, gPop, uCall, uA0, uA1, gId, gApp, isSeq, isRng, isRng2, uDGet, bodyE, startE, ugName, List.map_cons, List.map_nil, List.length_cons, List.length_nil, List.cons_append, List.nil_append, List.getElem?_cons_zero, List.getElem?_cons_succ, List.set_cons_zero, List.set_cons_succ, List.replicate, Nat.add_one_sub_one, Nat.sub_self, Nat.reduceSub, Nat.reduceAdd, Option.some.injEq, exists_eq_left', exists_eq_left, exists_and_left, true_and, and_true, D.bl.injEq, D.int.injEq, D.str.injEq, D.tup.injEq, D.ref.injEq, Ob.lst.injEq, List.cons.injEq, fTup, if_true, if_false, ite_true, ite_false, Bool.false_eq_true, Bool.true_eq_false, reduceIte, Ob.ins.injEq, Ob.dic.injEq, usFor, uMeth, uProp, uLenI, uMake, uCMeth, uLc, vSeq, uA2, uA3, gNon, sup_same, sup_sup, dIx, dNot, dIsNot, Bool.not_true, Bool.not_false, hp, atIp, hx8, hel]
  have hcut : cut (prs a b) none (some (((prs a b).length : Int) - (e.length : Int))) = wl ls := by
    have : (e.length : Int) ≤ (prs a b).length := by rw [ex, List.length_append]; omega
    rw [cut_to (by omega), ex, List.length_append]
    have : ((((wl ls).length + e.length : Nat) : Int) - (e.length : Int)).toNat = (wl ls).length := by omega
    rw [this]; simp
  rw [hcut]
  refine vset_p hp ?_
  simp only [dAdd, dAddI, dSub, dEq, dNe, dLt, dLe, dGt, dGe, dIs, SL.isNon, dNeg, fLen, lenD, isTy, mLstrip, seqOf, tru, tyOf, Option.map_some, String.reduceEq, usNil, usSeq, usSet, usExpr, usRet, usRetN, usIf, usBrk, usCnt, usAug, usAsg, usDPut, usRaise, usSub, uVar, uC, uBin, uChain, uUn, uTru, uTb, uAnd, uOr, uNot, uAndV, uOrV, uNotV, uIte, uNil, uCons, uTup, uLst, uNoPart, uPart, uSl, vSl, uFn, gP, uIsi, uBM, uBM0, gM, gAppend, gPop, uCall, uA0, uA1, gId, gApp, isSeq, isRng, isRng2, uDGet, bodyE, startE, ugName, List.map_cons, List.map_nil, List.length_cons, List.length_nil, List.cons_append, List.nil_append, List.getElem?_cons_zero, List.getElem?_cons_succ, List.set_cons_zero, List.set_cons_succ, List.replicate, Nat.add_one_sub_one, Nat.sub_self, Nat.reduceSub, Nat.reduceAdd, Option.some.injEq, exists_eq_left', exists_eq_left, exists_and_left, true_and, and_true, D.bl.injEq, D.int.injEq, D.str.injEq, D.tup.injEq, D.ref.injEq, Ob.lst.injEq, List.cons.injEq, fTup, if_true, if_false, ite_true, ite_false, Bool.false_eq_true, Bool.true_eq_false, reduceIte, Ob.ins.injEq, Ob.dic.injEq, usFor, uMeth, uProp, uLenI, uMake, uCMeth, uLc, vSeq, uA2, uA3, gNon, sup_same, sup_sup, dIx, dNot, dIsNot, Bool.not_true, Bool.not_false, sup_ne hdp, hd]
  refine ⟨nd_mend, d, a, b, ls, e, rfl, ⟨by rw [sup_ne hdp]; exact hd, by omega, by omega⟩, ex, he, ?_⟩
  simp only [dAdd, dAddI, dSub, dEq, dNe, dLt, dLe, dGt, dGe, dIs, SL.isNon, dNeg, fLen, lenD, isTy, mLstrip, seqOf, tru, tyOf, Option.map_some, String.reduceEq, usNil, usSeq, usSet, usExpr, usRet, usRetN, usIf, usBrk, usCnt, usAug, usAsg, usDPut, usRaise, usSub, uVar, uC, uBin, uChain, uUn, uTru, uTb, uAnd, uOr, uNot, uAndV, uOrV, uNotV, uIte, uNil, uCons, uTup, uLst, uNoPart, uPart, uSl, vSl, uFn, gP, uIsi, uBM, uBM0, gM, gAppend, gPop, uCall, uA0, uA1, gId, gApp, isSeq, isRng, isRng2, uDGet, bodyE, startE, ugName, List.map_cons, List.map_nil, List.length_cons, List.length_nil, List.cons_append, List.nil_append, List.getElem?_cons_zero, List.getElem?_cons_succ, List.set_cons_zero, List.set_cons_succ, List.replicate, Nat.add_one_sub_one, Nat.sub_self, Nat.reduceSub, Nat.reduceAdd, Option.some.injEq, exists_eq_left', exists_eq_left, exists_and_left, true_and, and_true, D.bl.injEq, D.int.injEq, D.str.injEq, D.tup.injEq, D.ref.injEq, Ob.lst.injEq, List.cons.injEq, fTup, if_true, if_false, ite_true, ite_false, Bool.false_eq_true, Bool.true_eq_false, reduceIte, Ob.ins.injEq, Ob.dic.injEq, usFor, uMeth, uProp, uLenI, uMake, uCMeth, uLc, vSeq, uA2, uA3, gNon, sup_same, sup_sup, dIx, dNot, dIsNot, Bool.not_true, Bool.not_false, c_em]
  have h10 : 10 ∈ wl ls := by
    have := hn_10 h0
    rw [ex] at this
    rcases List.mem_append.mp this with z | z
    · exact z
    · exact (he z).elim
  have hw : hn (wl ls) = hn (prs a b) := by rw [ex, hn_app h10]
  have hwl : (wl ls).length ≤ L := by rw [ex, List.length_append] at hl; omega
  have key : PrOk M L (p0 (tt a b) (wl ls) (oth a b)) (p1 (tt a b) (wl ls) (oth a b)) := PrOk.of (by omega) ⟨by omega, hwl⟩ ho
  refine ls_of (v := .bl _) (m := 0) (by decide) trivial ⟨_, Le.refl _, q _ _ _ ⟨?_, ?_, key⟩ fun x h1 h2 => by rw [sup_ne h1, sup_ne h2]⟩
  · rw [sup_same, putP_tt]
  · rw [sup_ne (Ne.symm hdp), sup_same]
/-! ### close -/
def sp__law_close (c : Cs) : FS := fun ds S Q X => ∃ f cl d p M L a b, ds = [.ref f, .ref d, .ref p] ∧ Flw S f cl ∧ Pr c S d p M L a b ∧ L ≤ 50000 ∧ M < 999999990 ∧ ∀ a' b' S', Flw S' f cl → Pr c S' d p (M + 1) (L + 100) a' b' → (∀ x, x ≠ f → x ≠ d → x ≠ p → S' x = S x) → Q (.bl true) S'
def cl1 (sp__law_same : FS) : US := (usSeq (usSub (uVar 2) (uBin dSub (uC (.int 1)) (uVar 3)) (uVar 5)) (usRet (uCall (sp__law_same) gId (uA1 2 (uCons (uVar 8) (uCons (uBin dEq (uFn (gP fLen) (uCons (uVar 5) uNil)) (uVar 6)) uNil))))))
def cl0 (c : Cs) (sp_Disk_close : FS) (sp__law_same : FS) : US := (usSeq (usIf (uTb (uBin dIs (uVar 7) (uC .non))) (usSet 8 (uMeth c.Disk "close" (sp_Disk_close) gNon (uVar 1) (uA1 1 (uCons (uVar 4) uNil)))) (usSeq (usSet 5 (uSl (uVar 5) uNoPart (uPart (uVar 7)))) (usSet 8 (uMeth c.Disk "close" (sp_Disk_close) gApp (uVar 1) (uA2 1 1 (uCons (uVar 4) uNil) (uCons (uVar 7) uNil)))))) (cl1 sp__law_same))
theorem cl_eq {K : PySem.W.Frag} {c : Cs} {sp__law_present : FS} {sp__law_text : FS} {sp__law_head : FS} {sp__law_cut : FS} {sp_Disk_close : FS} {sp__law_same : FS} : u__law_close K c sp__law_present sp__law_text sp__law_head sp__law_cut sp_Disk_close sp__law_same = (usSeq (usSet 3 (uCall (sp__law_present) gId (uA1 1 (uCons (uVar 2) uNil)))) (usSeq (usSet 4 (uCall (sp__law_text) gId (uA1 1 (uCons (uVar 0) uNil)))) (usSeq (usSet 5 (uBin dAdd (uBin dAdd (uBin dAdd (uFn (gP fStr) (uCons (uBin dAdd (uBin dIx (uCall (sp__law_head) gId (uA1 1 (uCons (uBin dIx (uVar 2) (uVar 3)) uNil))) (uC (.int 0))) (uC (.int 1))) uNil)) (uC (.str (cs " ")))) (uVar 4)) (uC (.str (cs "\n"))))) (usSeq (usSet 6 (uFn (gP fLen) (uCons (uVar 5) uNil))) (usSeq (usSet 7 (uCall (sp__law_cut) gId (uA1 2 (uCons (uVar 0) (uCons (uVar 6) uNil))))) (cl0 c sp_Disk_close sp__law_same)))))) := rfl

theorem Bd.up {M M' : Int} {L L' : Nat} {x : List Nat} (h : Bd M L x) (h1 : M ≤ M') (h2 : L ≤ L') : Bd M' L' x := ⟨by have := h.1; omega, Nat.le_trans h.2 h2⟩
theorem hn_fsg {x : List Nat} {cu : D} (hx : 0 ≤ hn (x ++ [10])) (h10 : 10 ∉ x) : hn (fsg (x ++ [10]) cu) = hn (x ++ [10]) ∨ hn (fsg (x ++ [10]) cu) = -1 := by
  unfold fsg
  split
  · exact hn_take hx h10
  · exact .inl rfl
theorem len_eqb {x : List Nat} {cu : D} : (fsg x cu == x) = ((fsg x cu).length == x.length) := by
  rw [Bool.eq_iff_iff, beq_iff_eq, beq_iff_eq]
  refine ⟨fun h => by rw [h], fun h => ?_⟩
  unfold fsg at h ⊢
  split
  · rename_i k
    simp only [List.length_take] at h
    exact List.take_of_length_le (by omega)
  · rfl
theorem cbeq {m n : Nat} : ((m : Int) == (n : Int)) = (m == n) := by rw [Bool.eq_iff_iff]; simp; omega
theorem ok_law_close {ds : List D} {S : SS} {Q : QN} {X : QX} (h : sp__law_close c ds S Q X) : u__law_close K c sp__law_present sp__law_text sp__law_head sp__law_cut (sp_Disk_close c) (sp_ls 6) (bodyE Q X) (startE N__law_close ds) S := by
  obtain ⟨f, cl, d, p, M, L, a, b, rfl, hf, hpr, hL, hMM, q⟩ := h
  obtain ⟨hdp, hdf, hpf, _, _⟩ := hpr.ne hf
  rw [cl_eq]
  simp only [dAdd, dAddI, dSub, dEq, dNe, dLt, dLe, dGt, dGe, dIs, SL.isNon, dNeg, fLen, lenD, isTy, mLstrip, seqOf, tru, tyOf, Option.map_some, String.reduceEq, usNil, usSeq, usSet, usExpr, usRet, usRetN, usIf, usBrk, usCnt, usAug, usAsg, usDPut, usRaise, usSub, uVar, uC, uBin, uChain, uUn, uTru, uTb, uAnd, uOr, uNot, uAndV, uOrV, uNotV, uIte, uNil, uCons, uTup, uLst, uNoPart, uPart, uSl, vSl, uFn, gP, uIsi, uBM, uBM0, gM, gAppend, gPop, uCall, uA0, uA1, gId, gApp, isSeq, isRng, isRng2, uDGet, bodyE, startE, ugName, List.map_cons, List.map_nil, List.length_cons, List.length_nil, List.cons_append, List.nil_append, List.getElem?_cons_zero, List.getElem?_cons_succ, List.set_cons_zero, List.set_cons_succ, List.replicate, Nat.add_one_sub_one, Nat.sub_self, Nat.reduceSub, Nat.reduceAdd, Option.some.injEq, exists_eq_left', exists_eq_left, exists_and_left, true_and, and_true, D.bl.injEq, D.int.injEq, D.str.injEq, D.tup.injEq, D.ref.injEq, Ob.lst.injEq, List.cons.injEq, fTup, if_true, if_false, ite_true, ite_false, Bool.false_eq_true, Bool.true_eq_false, reduceIte, Ob.ins.injEq, Ob.dic.injEq, usFor, uMeth, uProp, uLenI, uMake, uCMeth, uLc, vSeq, uA2, uA3, gNon, sup_same, sup_sup, dIx, dNot, dIsNot, Bool.not_true, Bool.not_false]
  refine ⟨p, a, b, rfl, hpr.p, by have := hpr.ok.l.2; omega, by have := hpr.ok.r.2; omega, ?_⟩
  rw [hpr.ok.pre]
  simp only [dAdd, dAddI, dSub, dEq, dNe, dLt, dLe, dGt, dGe, dIs, SL.isNon, dNeg, fLen, lenD, isTy, mLstrip, seqOf, tru, tyOf, Option.map_some, String.reduceEq, usNil, usSeq, usSet, usExpr, usRet, usRetN, usIf, usBrk, usCnt, usAug, usAsg, usDPut, usRaise, usSub, uVar, uC, uBin, uChain, uUn, uTru, uTb, uAnd, uOr, uNot, uAndV, uOrV, uNotV, uIte, uNil, uCons, uTup, uLst, uNoPart, uPart, uSl, vSl, uFn, gP, uIsi, uBM, uBM0, gM, gAppend, gPop, uCall, uA0, uA1, gId, gApp, isSeq, isRng, isRng2, uDGet, bodyE, startE, ugName, List.map_cons, List.map_nil, List.length_cons, List.length_nil, List.cons_append, List.nil_append, List.getElem?_cons_zero, List.getElem?_cons_succ, List.set_cons_zero, List.set_cons_succ, List.replicate, Nat.add_one_sub_one, Nat.sub_self, Nat.reduceSub, Nat.reduceAdd, Option.some.injEq, exists_eq_left', exists_eq_left, exists_and_left, true_and, and_true, D.bl.injEq, D.int.injEq, D.str.injEq, D.tup.injEq, D.ref.injEq, Ob.lst.injEq, List.cons.injEq, fTup, if_true, if_false, ite_true, ite_false, Bool.false_eq_true, Bool.true_eq_false, reduceIte, Ob.ins.injEq, Ob.dic.injEq, usFor, uMeth, uProp, uLenI, uMake, uCMeth, uLc, vSeq, uA2, uA3, gNon, sup_same, sup_sup, dIx, dNot, dIsNot, Bool.not_true, Bool.not_false]
  refine text_of hf fun t S1 ht hf1 hb1 => ?_
  have hpr1 := hpr.keep (hb1 d hdf) (hb1 p hpf)
  obtain ⟨h0, ⟨hM, hl⟩, ho⟩ := hpr.ok.prs
  obtain ⟨_, ⟨_, la⟩, ⟨_, lb⟩⟩ := id hpr.ok
  have ht1 := ht.1
  simp only [dAdd, dAddI, dSub, dEq, dNe, dLt, dLe, dGt, dGe, dIs, SL.isNon, dNeg, fLen, lenD, isTy, mLstrip, seqOf, tru, tyOf, Option.map_some, String.reduceEq, usNil, usSeq, usSet, usExpr, usRet, usRetN, usIf, usBrk, usCnt, usAug, usAsg, usDPut, usRaise, usSub, uVar, uC, uBin, uChain, uUn, uTru, uTb, uAnd, uOr, uNot, uAndV, uOrV, uNotV, uIte, uNil, uCons, uTup, uLst, uNoPart, uPart, uSl, vSl, uFn, gP, uIsi, uBM, uBM0, gM, gAppend, gPop, uCall, uA0, uA1, gId, gApp, isSeq, isRng, isRng2, uDGet, bodyE, startE, ugName, List.map_cons, List.map_nil, List.length_cons, List.length_nil, List.cons_append, List.nil_append, List.getElem?_cons_zero, List.getElem?_cons_succ, List.set_cons_zero, List.set_cons_succ, List.replicate, Nat.add_one_sub_one, Nat.sub_self, Nat.reduceSub, Nat.reduceAdd, Option.some.injEq, exists_eq_left', exists_eq_left, exists_and_left, true_and, and_true, D.bl.injEq, D.int.injEq, D.str.injEq, D.tup.injEq, D.ref.injEq, Ob.lst.injEq, List.cons.injEq, fTup, if_true, if_false, ite_true, ite_false, Bool.false_eq_true, Bool.true_eq_false, reduceIte, Ob.ins.injEq, Ob.dic.injEq, usFor, uMeth, uProp, uLenI, uMake, uCMeth, uLc, vSeq, uA2, uA3, gNon, sup_same, sup_sup, dIx, dNot, dIsNot, Bool.not_true, Bool.not_false, hpr1.p, atIp]
  refine ⟨_, rfl, by omega, ?_⟩
  rw [hd_pos h0]
  have es : ∀ S, fStr S [.int (hn (prs a b) + 1)] = some (.str (dig (hn (prs a b) + 1))) := fun S => fstr_n (by omega) (by omega)
  have h13 := dig13 (i := hn (prs a b) + 1) (by omega) (by omega)
  simp (disch := (try simp only [List.length_append, List.length_cons, List.length_nil]); omega) only [dAdd, dAddI, dSub, dEq, dNe, dLt, dLe, dGt, dGe, dIs, SL.isNon, dNeg, fLen, lenD, isTy, mLstrip, seqOf, tru, tyOf, Option.map_some, String.reduceEq, usNil, usSeq, usSet, usExpr, usRet, usRetN, usIf, usBrk, usCnt, usAug, usAsg, usDPut, usRaise, usSub, uVar, uC, uBin, uChain, uUn, uTru, uTb, uAnd, uOr, uNot, uAndV, uOrV, uNotV, uIte, uNil, uCons, uTup, uLst, uNoPart, uPart, uSl, vSl, uFn, gP, uIsi, uBM, uBM0, gM, gAppend, gPop, uCall, uA0, uA1, gId, gApp, isSeq, isRng, isRng2, uDGet, bodyE, startE, ugName, List.map_cons, List.map_nil, List.length_cons, List.length_nil, List.cons_append, List.nil_append, List.getElem?_cons_zero, List.getElem?_cons_succ, List.set_cons_zero, List.set_cons_succ, List.replicate, Nat.add_one_sub_one, Nat.sub_self, Nat.reduceSub, Nat.reduceAdd, Option.some.injEq, exists_eq_left', exists_eq_left, exists_and_left, true_and, and_true, D.bl.injEq, D.int.injEq, D.str.injEq, D.tup.injEq, D.ref.injEq, Ob.lst.injEq, List.cons.injEq, fTup, if_true, if_false, ite_true, ite_false, Bool.false_eq_true, Bool.true_eq_false, reduceIte, Ob.ins.injEq, Ob.dic.injEq, usFor, uMeth, uProp, uLenI, uMake, uCMeth, uLc, vSeq, uA2, uA3, gNon, sup_same, sup_sup, dIx, dNot, dIsNot, Bool.not_true, Bool.not_false, atI0, es, c_sp, c_lf, szT]
  have hll : (dig (hn (prs a b) + 1) ++ [32] ++ t ++ [10]).length ≤ 27 := by simp only [List.length_append, List.length_cons, List.length_nil]; omega
  refine cut_of hf1 (by simp only [List.length_append, List.length_cons, List.length_nil]; omega) (by omega) fun cu S2 hc hf2 hb2 => ?_
  have hpr2 := hpr1.keep (hb2 d hdf) (hb2 p hpf)
  have h10 : 10 ∉ dig (hn (prs a b) + 1) ++ [32] ++ t := by
    simp only [List.mem_append, not_or]
    exact ⟨⟨dig_no (by decide), by decide⟩, ht.2⟩
  have hnl : hn (dig (hn (prs a b) + 1) ++ [32] ++ t ++ [10]) = hn (prs a b) + 1 := by
    rw [List.append_assoc, List.append_assoc, List.cons_append, List.nil_append]
    exact hn_dig (by omega) (by omega) (by simp)
  have hf9 := hn_fsg (cu := cu) (by rw [hnl]; omega) h10
  have hfl := fsg_len (x := dig (hn (prs a b) + 1) ++ [32] ++ t ++ [10]) (cu := cu)
  have key : PrOk (M + 1) (L + 100) (p0 (tt a b) (prs a b) (fsg (dig (hn (prs a b) + 1) ++ [32] ++ t ++ [10]) cu)) (p1 (tt a b) (prs a b) (fsg (dig (hn (prs a b) + 1) ++ [32] ++ t ++ [10]) cu)) := PrOk.of h0 (Bd.up ⟨hM, hl⟩ (by omega) (by omega)) ⟨by rcases hf9 with z | z <;> omega, by omega⟩
  have fin : ∀ S5, S5 = SL.sup (SL.sup S2 d (.ins c.Disk (putO a b (fsg (dig (hn (prs a b) + 1) ++ [32] ++ t ++ [10]) cu)))) p (.lst [.str (p0 (tt a b) (prs a b) (fsg (dig (hn (prs a b) + 1) ++ [32] ++ t ++ [10]) cu)), .str (p1 (tt a b) (prs a b) (fsg (dig (hn (prs a b) + 1) ++ [32] ++ t ++ [10]) cu))]) → ∃ S', Le S' S5 ∧ Q (.bl true) S' := fun S5 e5 => ⟨S5, Le.refl _, by
    subst e5
    refine q _ _ _ ?_ ⟨?_, sup_same, key⟩ fun x h1 h2 h3 => by rw [sup_ne h3, sup_ne h2, hb2 x h1, hb1 x h1]
    · obtain ⟨_, _, _, n1, n2⟩ := hpr2.ne hf2
      exact hf2.keep (by rw [sup_ne hpf.symm, sup_ne hdf.symm]) (by rw [sup_ne n2.symm, sup_ne n1.symm])
    · rw [sup_ne hdp, sup_same, putO_tt]⟩
  have hdk : Dk c S2 d a b := ⟨hpr2.d, by omega, by omega⟩
  generalize hline : dig (hn (prs a b) + 1) ++ [32] ++ t ++ [10] = line at *
  have hls : line.length ≤ sizeLine := szl (by omega)
  unfold cl0
  rcases hc with rfl | ⟨k, k0, rfl⟩
  · simp only [dAdd, dAddI, dSub, dEq, dNe, dLt, dLe, dGt, dGe, dIs, SL.isNon, dNeg, fLen, lenD, isTy, mLstrip, seqOf, tru, tyOf, Option.map_some, String.reduceEq, usNil, usSeq, usSet, usExpr, usRet, usRetN, usIf, usBrk, usCnt, usAug, usAsg, usDPut, usRaise, usSub, uVar, uC, uBin, uChain, uUn, uTru, uTb, uAnd, uOr, uNot, uAndV, uOrV, uNotV, uIte, uNil, uCons, uTup, uLst, uNoPart, uPart, uSl, vSl, uFn, gP, uIsi, uBM, uBM0, gM, gAppend, gPop, uCall, uA0, uA1, gId, gApp, isSeq, isRng, isRng2, uDGet, bodyE, startE, ugName, List.map_cons, List.map_nil, List.length_cons, List.length_nil, List.cons_append, List.nil_append, List.getElem?_cons_zero, List.getElem?_cons_succ, List.set_cons_zero, List.set_cons_succ, List.replicate, Nat.add_one_sub_one, Nat.sub_self, Nat.reduceSub, Nat.reduceAdd, Option.some.injEq, exists_eq_left', exists_eq_left, exists_and_left, true_and, and_true, D.bl.injEq, D.int.injEq, D.str.injEq, D.tup.injEq, D.ref.injEq, Ob.lst.injEq, List.cons.injEq, fTup, if_true, if_false, ite_true, ite_false, Bool.false_eq_true, Bool.true_eq_false, reduceIte, Ob.ins.injEq, Ob.dic.injEq, usFor, uMeth, uProp, uLenI, uMake, uCMeth, uLc, vSeq, uA2, uA3, gNon, sup_same, sup_sup, dIx, dNot, dIsNot, Bool.not_true, Bool.not_false, hpr2.d]
    refine ⟨nd_close, d, a, b, t, .non, rfl, hdk, .inl rfl, by omega, by omega, ?_⟩
    rw [hline]
    unfold cl1
    simp only [dAdd, dAddI, dSub, dEq, dNe, dLt, dLe, dGt, dGe, dIs, SL.isNon, dNeg, fLen, lenD, isTy, mLstrip, seqOf, tru, tyOf, Option.map_some, String.reduceEq, usNil, usSeq, usSet, usExpr, usRet, usRetN, usIf, usBrk, usCnt, usAug, usAsg, usDPut, usRaise, usSub, uVar, uC, uBin, uChain, uUn, uTru, uTb, uAnd, uOr, uNot, uAndV, uOrV, uNotV, uIte, uNil, uCons, uTup, uLst, uNoPart, uPart, uSl, vSl, uFn, gP, uIsi, uBM, uBM0, gM, gAppend, gPop, uCall, uA0, uA1, gId, gApp, isSeq, isRng, isRng2, uDGet, bodyE, startE, ugName, List.map_cons, List.map_nil, List.length_cons, List.length_nil, List.cons_append, List.nil_append, List.getElem?_cons_zero, List.getElem?_cons_succ, List.set_cons_zero, List.set_cons_succ, List.replicate, Nat.add_one_sub_one, Nat.sub_self, Nat.reduceSub, Nat.reduceAdd, Option.some.injEq, exists_eq_left', exists_eq_left, exists_and_left, true_and, and_true, D.bl.injEq, D.int.injEq, D.str.injEq, D.tup.injEq, D.ref.injEq, Ob.lst.injEq, List.cons.injEq, fTup, if_true, if_false, ite_true, ite_false, Bool.false_eq_true, Bool.true_eq_false, reduceIte, Ob.ins.injEq, Ob.dic.injEq, usFor, uMeth, uProp, uLenI, uMake, uCMeth, uLc, vSeq, uA2, uA3, gNon, sup_same, sup_sup, dIx, dNot, dIsNot, Bool.not_true, Bool.not_false]
    refine vset_o (by rw [sup_ne hdp.symm]; exact hpr2.p) ?_
    simp only [dAdd, dAddI, dSub, dEq, dNe, dLt, dLe, dGt, dGe, dIs, SL.isNon, dNeg, fLen, lenD, isTy, mLstrip, seqOf, tru, tyOf, Option.map_some, String.reduceEq, usNil, usSeq, usSet, usExpr, usRet, usRetN, usIf, usBrk, usCnt, usAug, usAsg, usDPut, usRaise, usSub, uVar, uC, uBin, uChain, uUn, uTru, uTb, uAnd, uOr, uNot, uAndV, uOrV, uNotV, uIte, uNil, uCons, uTup, uLst, uNoPart, uPart, uSl, vSl, uFn, gP, uIsi, uBM, uBM0, gM, gAppend, gPop, uCall, uA0, uA1, gId, gApp, isSeq, isRng, isRng2, uDGet, bodyE, startE, ugName, List.map_cons, List.map_nil, List.length_cons, List.length_nil, List.cons_append, List.nil_append, List.getElem?_cons_zero, List.getElem?_cons_succ, List.set_cons_zero, List.set_cons_succ, List.replicate, Nat.add_one_sub_one, Nat.sub_self, Nat.reduceSub, Nat.reduceAdd, Option.some.injEq, exists_eq_left', exists_eq_left, exists_and_left, true_and, and_true, D.bl.injEq, D.int.injEq, D.str.injEq, D.tup.injEq, D.ref.injEq, Ob.lst.injEq, List.cons.injEq, fTup, if_true, if_false, ite_true, ite_false, Bool.false_eq_true, Bool.true_eq_false, reduceIte, Ob.ins.injEq, Ob.dic.injEq, usFor, uMeth, uProp, uLenI, uMake, uCMeth, uLc, vSeq, uA2, uA3, gNon, sup_same, sup_sup, dIx, dNot, dIsNot, Bool.not_true, Bool.not_false, hls]
    have e1 : (fsg line .non == line) = true := by simp [fsg]
    rw [e1, beq_self_eq_true]
    exact ls_of (v := .bl true) (m := 0) (by decide) trivial (fin _ rfl)
  · simp only [dAdd, dAddI, dSub, dEq, dNe, dLt, dLe, dGt, dGe, dIs, SL.isNon, dNeg, fLen, lenD, isTy, mLstrip, seqOf, tru, tyOf, Option.map_some, String.reduceEq, usNil, usSeq, usSet, usExpr, usRet, usRetN, usIf, usBrk, usCnt, usAug, usAsg, usDPut, usRaise, usSub, uVar, uC, uBin, uChain, uUn, uTru, uTb, uAnd, uOr, uNot, uAndV, uOrV, uNotV, uIte, uNil, uCons, uTup, uLst, uNoPart, uPart, uSl, vSl, uFn, gP, uIsi, uBM, uBM0, gM, gAppend, gPop, uCall, uA0, uA1, gId, gApp, isSeq, isRng, isRng2, uDGet, bodyE, startE, ugName, List.map_cons, List.map_nil, List.length_cons, List.length_nil, List.cons_append, List.nil_append, List.getElem?_cons_zero, List.getElem?_cons_succ, List.set_cons_zero, List.set_cons_succ, List.replicate, Nat.add_one_sub_one, Nat.sub_self, Nat.reduceSub, Nat.reduceAdd, Option.some.injEq, exists_eq_left', exists_eq_left, exists_and_left, true_and, and_true, D.bl.injEq, D.int.injEq, D.str.injEq, D.tup.injEq, D.ref.injEq, Ob.lst.injEq, List.cons.injEq, fTup, if_true, if_false, ite_true, ite_false, Bool.false_eq_true, Bool.true_eq_false, reduceIte, Ob.ins.injEq, Ob.dic.injEq, usFor, uMeth, uProp, uLenI, uMake, uCMeth, uLc, vSeq, uA2, uA3, gNon, sup_same, sup_sup, dIx, dNot, dIsNot, Bool.not_true, Bool.not_false, hpr2.d, hls]
    refine ⟨nd_close, d, a, b, t, .int k, rfl, hdk, .inr ⟨k, k0, rfl⟩, by omega, by omega, ?_⟩
    rw [hline, show cut line none (some k) = fsg line (.int k) from cut_to k0]
    have hls2 : (fsg line (.int k)).length ≤ sizeLine := szl (by omega)
    unfold cl1
    simp only [dAdd, dAddI, dSub, dEq, dNe, dLt, dLe, dGt, dGe, dIs, SL.isNon, dNeg, fLen, lenD, isTy, mLstrip, seqOf, tru, tyOf, Option.map_some, String.reduceEq, usNil, usSeq, usSet, usExpr, usRet, usRetN, usIf, usBrk, usCnt, usAug, usAsg, usDPut, usRaise, usSub, uVar, uC, uBin, uChain, uUn, uTru, uTb, uAnd, uOr, uNot, uAndV, uOrV, uNotV, uIte, uNil, uCons, uTup, uLst, uNoPart, uPart, uSl, vSl, uFn, gP, uIsi, uBM, uBM0, gM, gAppend, gPop, uCall, uA0, uA1, gId, gApp, isSeq, isRng, isRng2, uDGet, bodyE, startE, ugName, List.map_cons, List.map_nil, List.length_cons, List.length_nil, List.cons_append, List.nil_append, List.getElem?_cons_zero, List.getElem?_cons_succ, List.set_cons_zero, List.set_cons_succ, List.replicate, Nat.add_one_sub_one, Nat.sub_self, Nat.reduceSub, Nat.reduceAdd, Option.some.injEq, exists_eq_left', exists_eq_left, exists_and_left, true_and, and_true, D.bl.injEq, D.int.injEq, D.str.injEq, D.tup.injEq, D.ref.injEq, Ob.lst.injEq, List.cons.injEq, fTup, if_true, if_false, ite_true, ite_false, Bool.false_eq_true, Bool.true_eq_false, reduceIte, Ob.ins.injEq, Ob.dic.injEq, usFor, uMeth, uProp, uLenI, uMake, uCMeth, uLc, vSeq, uA2, uA3, gNon, sup_same, sup_sup, dIx, dNot, dIsNot, Bool.not_true, Bool.not_false]
    refine vset_o (by rw [sup_ne hdp.symm]; exact hpr2.p) ?_
    simp only [dAdd, dAddI, dSub, dEq, dNe, dLt, dLe, dGt, dGe, dIs, SL.isNon, dNeg, fLen, lenD, isTy, mLstrip, seqOf, tru, tyOf, Option.map_some, String.reduceEq, usNil, usSeq, usSet, usExpr, usRet, usRetN, usIf, usBrk, usCnt, usAug, usAsg, usDPut, usRaise, usSub, uVar, uC, uBin, uChain, uUn, uTru, uTb, uAnd, uOr, uNot, uAndV, uOrV, uNotV, uIte, uNil, uCons, uTup, uLst, uNoPart, uPart, uSl, vSl, uFn, gP, uIsi, uBM, uBM0, gM, gAppend, gPop, uCall, uA0, uA1, gId, gApp, isSeq, isRng, isRng2, uDGet, bodyE, startE, ugName, List.map_cons, List.map_nil, List.length_cons, List.length_nil, List.cons_append, List.nil_append, List.getElem?_cons_zero, List.getElem?_cons_succ, List.set_cons_zero, List.set_cons_succ, List.replicate, Nat.add_one_sub_one, Nat.sub_self, Nat.reduceSub, Nat.reduceAdd, Option.some.injEq, exists_eq_left', exists_eq_left, exists_and_left, true_and, and_true, D.bl.injEq, D.int.injEq, D.str.injEq, D.tup.injEq, D.ref.injEq, Ob.lst.injEq, List.cons.injEq, fTup, if_true, if_false, ite_true, ite_false, Bool.false_eq_true, Bool.true_eq_false, reduceIte, Ob.ins.injEq, Ob.dic.injEq, usFor, uMeth, uProp, uLenI, uMake, uCMeth, uLc, vSeq, uA2, uA3, gNon, sup_same, sup_sup, dIx, dNot, dIsNot, Bool.not_true, Bool.not_false, hls2]
    rw [len_eqb, ← cbeq]
    exact ls_of (v := .bl _) (m := 0) (by decide) trivial (fin _ rfl)
end K82

set_option Elab.async false
set_option linter.all false
set_option maxRecDepth 100000
set_option maxHeartbeats 4000000
namespace K82
open PySem PySem.Spec L2 SL NumText
variable {K : PySem.W.Frag} {c : Cs}
def sp__law_write (c : Cs) : FS := fun ds S Q X => ∃ f cl d p M L a b, ds = [.ref f, .ref d, .ref p] ∧ Flw S f cl ∧ Pr c S d p M L a b ∧ L ≤ 50000 ∧ ∀ a' b' S', Flw S' f cl → Pr c S' d p M (L + 100) a' b' → (∀ x, x ≠ f → x ≠ d → x ≠ p → S' x = S x) → Q (.bl true) S'
def wr1 (sp__law_torn : FS) (sp__law_same : FS) : US := (usSeq (usIf (uTb (uBin dNe (uCall (sp__law_torn) gId (uA1 1 (uCons (uBin dIx (uVar 2) (uVar 3)) uNil))) (uC (.str (cs ""))))) (usRet (uC (.bl false))) usNil) (usSeq (usSub (uVar 2) (uVar 3) (uBin dAdd (uBin dIx (uVar 2) (uVar 3)) (uVar 6))) (usRet (uCall (sp__law_same) gId (uA1 2 (uCons (uVar 7) (uCons (uBin dEq (uFn (gP fLen) (uCons (uVar 6) uNil)) (uBin dAdd (uFn (gP fLen) (uCons (uVar 4) uNil)) (uC (.int 1)))) uNil)))))))
def wr0 (K : PySem.W.Frag) (c : Cs) (sp_Disk_write : FS) (sp__law_torn : FS) (sp__law_same : FS) : US := (usSeq (usTryAs K (.ref c.Torn) 8 (usIf (uTb (uBin dIs (uVar 5) (uC .non))) (usSet 7 (uMeth c.Disk "write" (sp_Disk_write) gNon (uVar 1) (uA1 1 (uCons (uVar 4) uNil)))) (usSet 7 (uMeth c.Disk "write" (sp_Disk_write) gApp (uVar 1) (uA2 1 1 (uCons (uVar 4) uNil) (uCons (uVar 5) uNil))))) (fun a cls d => (usRet (uAndV (uBin dNe (uCallH 1 (sp__law_torn) (uCons (uBin dIx (uVar 2) (uVar 3)) uNil)) (uC (.str (cs "")))) (uCallH 2 (sp__law_same) (uCons (uExF a c.Torn cls d "text" (uVar 8)) (uCons (uVar 4) uNil))))))) (wr1 sp__law_torn sp__law_same))
theorem wr_eq {K : PySem.W.Frag} {c : Cs} {sp__law_present : FS} {sp__law_text : FS} {sp__law_cut : FS} {sp_Disk_write : FS} {sp__law_torn : FS} {sp__law_same : FS} : u__law_write K c sp__law_present sp__law_text sp__law_cut sp_Disk_write sp__law_torn sp__law_same = (usSeq (usSet 3 (uCall (sp__law_present) gId (uA1 1 (uCons (uVar 2) uNil)))) (usSeq (usSet 4 (uCall (sp__law_text) gId (uA1 1 (uCons (uVar 0) uNil)))) (usSeq (usSet 5 (uCall (sp__law_cut) gId (uA1 2 (uCons (uVar 0) (uCons (uBin dAdd (uFn (gP fLen) (uCons (uVar 4) uNil)) (uC (.int 1))) uNil))))) (usSeq (usSet 6 (uBin dAdd (uVar 4) (uC (.str (cs "\n"))))) (usSeq (usIf (uTb (uBin dIsNot (uVar 5) (uC .non))) (usSet 6 (uSl (uVar 6) uNoPart (uPart (uVar 5)))) usNil) (wr0 K c sp_Disk_write sp__law_torn sp__law_same)))))) := rfl

theorem ok_law_write (ks : Ks K c) {ds : List D} {S : SS} {Q : QN} {X : QX} (h : sp__law_write c ds S Q X) : u__law_write K c sp__law_present sp__law_text sp__law_cut (sp_Disk_write c) sp__law_torn (sp_ls 6) (bodyE Q X) (startE N__law_write ds) S := by
  obtain ⟨f, cl, d, p, M, L, a, b, rfl, hf, hpr, hL, q⟩ := h
  obtain ⟨hdp, hdf, hpf, _, _⟩ := hpr.ne hf
  rw [wr_eq]
  simp only [dAdd, dAddI, dSub, dEq, dNe, dLt, dLe, dGt, dGe, dIs, SL.isNon, dNeg, fLen, lenD, isTy, mLstrip, seqOf, tru, tyOf, Option.map_some, String.reduceEq, usNil, usSeq, usSet, usExpr, usRet, usRetN, usIf, usBrk, usCnt, usAug, usAsg, usDPut, usRaise, usSub, uVar, uC, uBin, uChain, uUn, uTru, uTb, uAnd, uOr, uNot, uAndV, uOrV, uNotV, uIte, uNil, uCons, uTup, uLst, uNoPart, uPart, uSl, vSl, uFn, gP, uIsi, uBM, uBM0, gM, gAppend, gPop, uCall, uA0, uA1, gId, gApp, isSeq, isRng, isRng2, uDGet, bodyE, startE, ugName, List.map_cons, List.map_nil, List.length_cons, List.length_nil, List.cons_append, List.nil_append, List.getElem?_cons_zero, List.getElem?_cons_succ, List.set_cons_zero, List.set_cons_succ, List.replicate, Nat.add_one_sub_one, Nat.sub_self, Nat.reduceSub, Nat.reduceAdd, Option.some.injEq, exists_eq_left', exists_eq_left, exists_and_left, true_and, and_true, D.bl.injEq, D.int.injEq, D.str.injEq, D.tup.injEq, D.ref.injEq, Ob.lst.injEq, List.cons.injEq, fTup, if_true, if_false, ite_true, ite_false, Bool.false_eq_true, Bool.true_eq_false, reduceIte, Ob.ins.injEq, Ob.dic.injEq, usFor, uMeth, uProp, uLenI, uMake, uCMeth, uLc, vSeq, uA2, uA3, gNon, sup_same, sup_sup, dIx, dNot, dIsNot, Bool.not_true, Bool.not_false]
  refine ⟨p, a, b, rfl, hpr.p, by have := hpr.ok.l.2; omega, by have := hpr.ok.r.2; omega, ?_⟩
  rw [hpr.ok.pre]
  simp only [dAdd, dAddI, dSub, dEq, dNe, dLt, dLe, dGt, dGe, dIs, SL.isNon, dNeg, fLen, lenD, isTy, mLstrip, seqOf, tru, tyOf, Option.map_some, String.reduceEq, usNil, usSeq, usSet, usExpr, usRet, usRetN, usIf, usBrk, usCnt, usAug, usAsg, usDPut, usRaise, usSub, uVar, uC, uBin, uChain, uUn, uTru, uTb, uAnd, uOr, uNot, uAndV, uOrV, uNotV, uIte, uNil, uCons, uTup, uLst, uNoPart, uPart, uSl, vSl, uFn, gP, uIsi, uBM, uBM0, gM, gAppend, gPop, uCall, uA0, uA1, gId, gApp, isSeq, isRng, isRng2, uDGet, bodyE, startE, ugName, List.map_cons, List.map_nil, List.length_cons, List.length_nil, List.cons_append, List.nil_append, List.getElem?_cons_zero, List.getElem?_cons_succ, List.set_cons_zero, List.set_cons_succ, List.replicate, Nat.add_one_sub_one, Nat.sub_self, Nat.reduceSub, Nat.reduceAdd, Option.some.injEq, exists_eq_left', exists_eq_left, exists_and_left, true_and, and_true, D.bl.injEq, D.int.injEq, D.str.injEq, D.tup.injEq, D.ref.injEq, Ob.lst.injEq, List.cons.injEq, fTup, if_true, if_false, ite_true, ite_false, Bool.false_eq_true, Bool.true_eq_false, reduceIte, Ob.ins.injEq, Ob.dic.injEq, usFor, uMeth, uProp, uLenI, uMake, uCMeth, uLc, vSeq, uA2, uA3, gNon, sup_same, sup_sup, dIx, dNot, dIsNot, Bool.not_true, Bool.not_false]
  refine text_of hf fun t S1 ht hf1 hb1 => ?_
  have hpr1 := hpr.keep (hb1 d hdf) (hb1 p hpf)
  obtain ⟨h0, ⟨hM, hl⟩, ho⟩ := hpr.ok.prs
  obtain ⟨_, ⟨_, la⟩, ⟨_, lb⟩⟩ := id hpr.ok
  have ht1 := ht.1
  simp (disch := (try simp only [List.length_append, List.length_cons, List.length_nil]); omega) only [dAdd, dAddI, dSub, dEq, dNe, dLt, dLe, dGt, dGe, dIs, SL.isNon, dNeg, fLen, lenD, isTy, mLstrip, seqOf, tru, tyOf, Option.map_some, String.reduceEq, usNil, usSeq, usSet, usExpr, usRet, usRetN, usIf, usBrk, usCnt, usAug, usAsg, usDPut, usRaise, usSub, uVar, uC, uBin, uChain, uUn, uTru, uTb, uAnd, uOr, uNot, uAndV, uOrV, uNotV, uIte, uNil, uCons, uTup, uLst, uNoPart, uPart, uSl, vSl, uFn, gP, uIsi, uBM, uBM0, gM, gAppend, gPop, uCall, uA0, uA1, gId, gApp, isSeq, isRng, isRng2, uDGet, bodyE, startE, ugName, List.map_cons, List.map_nil, List.length_cons, List.length_nil, List.cons_append, List.nil_append, List.getElem?_cons_zero, List.getElem?_cons_succ, List.set_cons_zero, List.set_cons_succ, List.replicate, Nat.add_one_sub_one, Nat.sub_self, Nat.reduceSub, Nat.reduceAdd, Option.some.injEq, exists_eq_left', exists_eq_left, exists_and_left, true_and, and_true, D.bl.injEq, D.int.injEq, D.str.injEq, D.tup.injEq, D.ref.injEq, Ob.lst.injEq, List.cons.injEq, fTup, if_true, if_false, ite_true, ite_false, Bool.false_eq_true, Bool.true_eq_false, reduceIte, Ob.ins.injEq, Ob.dic.injEq, usFor, uMeth, uProp, uLenI, uMake, uCMeth, uLc, vSeq, uA2, uA3, gNon, sup_same, sup_sup, dIx, dNot, dIsNot, Bool.not_true, Bool.not_false, c_lf, szT]
  refine cut_of hf1 (by omega) (by omega) fun cu S2 hc hf2 hb2 => ?_
  have hpr2 := hpr1.keep (hb2 d hdf) (hb2 p hpf)
  have hfl := fsg_len (x := t ++ [10]) (cu := cu)
  have hll : (t ++ [10]).length ≤ 13 := by simp; omega
  have hls : (t ++ [10]).length ≤ sizeLine := szl (by omega)
  have hls2 : (fsg (t ++ [10]) cu).length ≤ sizeLine := szl (by omega)
  obtain ⟨ls, e, ex, hls3, he⟩ := lines_of (prs a b)
  have hx8 : (prs a b).length ≤ sizeLine := lz7 (by omega)
  have hdk : Dk c S2 d a b := ⟨hpr2.d, by omega, by omega⟩
  have hap : hn (prs a b ++ fsg (t ++ [10]) cu) = hn (prs a b) := hn_app (hn_10 h0)
  have key : PrOk M (L + 100) (p0 (tt a b) (prs a b ++ fsg (t ++ [10]) cu) (oth a b)) (p1 (tt a b) (prs a b ++ fsg (t ++ [10]) cu) (oth a b)) := PrOk.of (by rw [hap]; exact h0) ⟨by rw [hap]; exact hM, by rw [List.length_append]; omega⟩ (Bd.up ho (by omega) (by omega))
  have fin : ∀ S5, S5 = SL.sup (SL.sup S2 d (.ins c.Disk (putP a b (prs a b ++ fsg (t ++ [10]) cu)))) p (.lst [.str (p0 (tt a b) (prs a b ++ fsg (t ++ [10]) cu) (oth a b)), .str (p1 (tt a b) (prs a b ++ fsg (t ++ [10]) cu) (oth a b))]) → ∃ S', Le S' S5 ∧ Q (.bl true) S' := fun S5 e5 => ⟨S5, Le.refl _, by
    subst e5
    refine q _ _ _ ?_ ⟨?_, sup_same, key⟩ fun x h1 h2 h3 => by rw [sup_ne h3, sup_ne h2, hb2 x h1, hb1 x h1]
    · obtain ⟨_, _, _, n1, n2⟩ := hpr2.ne hf2
      exact hf2.keep (by rw [sup_ne hpf.symm, sup_ne hdf.symm]) (by rw [sup_ne n2.symm, sup_ne n1.symm])
    · rw [sup_ne hdp, sup_same, putP_tt]⟩
  have fin2 : ∃ S', Le S' S2 ∧ Q (.bl true) S' := ⟨S2, Le.refl _, q a b S2 hf2 ⟨hpr2.d, hpr2.p, ⟨hpr.ok.ok, Bd.up hpr.ok.l (by omega) (by omega), Bd.up hpr.ok.r (by omega) (by omega)⟩⟩ fun x h1 _ _ => by rw [hb2 x h1, hb1 x h1]⟩
  have w1 : ∀ {o : Option D}, e = [] → ∀ S3, S3 = SL.sup S2 d (.ins c.Disk (putP a b (prs a b ++ fsg (t ++ [10]) cu))) → wr1 sp__law_torn (sp_ls 6) (bodyE Q X) [some (.ref f), some (.ref d), some (.ref p), some (.int (pat a b)), some (.str t), some cu, some (.str (fsg (t ++ [10]) cu)), some (.bl (fsg (t ++ [10]) cu == t ++ [10])), o] S3 := fun {o} e0 S3 e3 => by
    have hp3 : S3 p = some (.lst [.str a, .str b]) := by rw [e3, sup_ne hdp.symm]; exact hpr2.p
    unfold wr1
    simp only [dAdd, dAddI, dSub, dEq, dNe, dLt, dLe, dGt, dGe, dIs, SL.isNon, dNeg, fLen, lenD, isTy, mLstrip, seqOf, tru, tyOf, Option.map_some, String.reduceEq, usNil, usSeq, usSet, usExpr, usRet, usRetN, usIf, usBrk, usCnt, usAug, usAsg, usDPut, usRaise, usSub, uVar, uC, uBin, uChain, uUn, uTru, uTb, uAnd, uOr, uNot, uAndV, uOrV, uNotV, uIte, uNil, uCons, uTup, uLst, uNoPart, uPart, uSl, vSl, uFn, gP, uIsi, uBM, uBM0, gM, gAppend, gPop, uCall, uA0, uA1, gId, gApp, isSeq, isRng, isRng2, uDGet, bodyE, startE, ugName, List.map_cons, List.map_nil, List.length_cons, List.length_nil, List.cons_append, List.nil_append, List.getElem?_cons_zero, List.getElem?_cons_succ, List.set_cons_zero, List.set_cons_succ, List.replicate, Nat.add_one_sub_one, Nat.sub_self, Nat.reduceSub, Nat.reduceAdd, Option.some.injEq, exists_eq_left', exists_eq_left, exists_and_left, true_and, and_true, D.bl.injEq, D.int.injEq, D.str.injEq, D.tup.injEq, D.ref.injEq, Ob.lst.injEq, List.cons.injEq, fTup, if_true, if_false, ite_true, ite_false, Bool.false_eq_true, Bool.true_eq_false, reduceIte, Ob.ins.injEq, Ob.dic.injEq, usFor, uMeth, uProp, uLenI, uMake, uCMeth, uLc, vSeq, uA2, uA3, gNon, sup_same, sup_sup, dIx, dNot, dIsNot, Bool.not_true, Bool.not_false, hp3, atIp]
    refine ⟨ls, e, by rw [ex], he, by rw [← ex]; exact hx8, ?_⟩
    have hz : (prs a b).length + (fsg (t ++ [10]) cu).length ≤ sizeLine := szl (by omega)
    have htl : t.length ≤ sizeLine := szl (by omega)
    simp only [dAdd, dAddI, dSub, dEq, dNe, dLt, dLe, dGt, dGe, dIs, SL.isNon, dNeg, fLen, lenD, isTy, mLstrip, seqOf, tru, tyOf, Option.map_some, String.reduceEq, usNil, usSeq, usSet, usExpr, usRet, usRetN, usIf, usBrk, usCnt, usAug, usAsg, usDPut, usRaise, usSub, uVar, uC, uBin, uChain, uUn, uTru, uTb, uAnd, uOr, uNot, uAndV, uOrV, uNotV, uIte, uNil, uCons, uTup, uLst, uNoPart, uPart, uSl, vSl, uFn, gP, uIsi, uBM, uBM0, gM, gAppend, gPop, uCall, uA0, uA1, gId, gApp, isSeq, isRng, isRng2, uDGet, bodyE, startE, ugName, List.map_cons, List.map_nil, List.length_cons, List.length_nil, List.cons_append, List.nil_append, List.getElem?_cons_zero, List.getElem?_cons_succ, List.set_cons_zero, List.set_cons_succ, List.replicate, Nat.add_one_sub_one, Nat.sub_self, Nat.reduceSub, Nat.reduceAdd, Option.some.injEq, exists_eq_left', exists_eq_left, exists_and_left, true_and, and_true, D.bl.injEq, D.int.injEq, D.str.injEq, D.tup.injEq, D.ref.injEq, Ob.lst.injEq, List.cons.injEq, fTup, if_true, if_false, ite_true, ite_false, Bool.false_eq_true, Bool.true_eq_false, reduceIte, Ob.ins.injEq, Ob.dic.injEq, usFor, uMeth, uProp, uLenI, uMake, uCMeth, uLc, vSeq, uA2, uA3, gNon, sup_same, sup_sup, dIx, dNot, dIsNot, Bool.not_true, Bool.not_false, e0, c_em, beq_self_eq_true, hp3, atIp, hz, dNe]
    refine vset_p hp3 ?_
    simp only [dAdd, dAddI, dSub, dEq, dNe, dLt, dLe, dGt, dGe, dIs, SL.isNon, dNeg, fLen, lenD, isTy, mLstrip, seqOf, tru, tyOf, Option.map_some, String.reduceEq, usNil, usSeq, usSet, usExpr, usRet, usRetN, usIf, usBrk, usCnt, usAug, usAsg, usDPut, usRaise, usSub, uVar, uC, uBin, uChain, uUn, uTru, uTb, uAnd, uOr, uNot, uAndV, uOrV, uNotV, uIte, uNil, uCons, uTup, uLst, uNoPart, uPart, uSl, vSl, uFn, gP, uIsi, uBM, uBM0, gM, gAppend, gPop, uCall, uA0, uA1, gId, gApp, isSeq, isRng, isRng2, uDGet, bodyE, startE, ugName, List.map_cons, List.map_nil, List.length_cons, List.length_nil, List.cons_append, List.nil_append, List.getElem?_cons_zero, List.getElem?_cons_succ, List.set_cons_zero, List.set_cons_succ, List.replicate, Nat.add_one_sub_one, Nat.sub_self, Nat.reduceSub, Nat.reduceAdd, Option.some.injEq, exists_eq_left', exists_eq_left, exists_and_left, true_and, and_true, D.bl.injEq, D.int.injEq, D.str.injEq, D.tup.injEq, D.ref.injEq, Ob.lst.injEq, List.cons.injEq, fTup, if_true, if_false, ite_true, ite_false, Bool.false_eq_true, Bool.true_eq_false, reduceIte, Ob.ins.injEq, Ob.dic.injEq, usFor, uMeth, uProp, uLenI, uMake, uCMeth, uLc, vSeq, uA2, uA3, gNon, sup_same, sup_sup, dIx, dNot, dIsNot, Bool.not_true, Bool.not_false, hls2, htl]
    have e1 : (((fsg (t ++ [10]) cu).length : Int) == (t.length : Int) + 1) = (fsg (t ++ [10]) cu == t ++ [10]) := by
      rw [len_eqb, Bool.eq_iff_iff]; simp; omega
    rw [e1]
    exact ls_of (v := .bl _) (m := 0) (by decide) trivial (fin _ (by rw [e3]))
  unfold wr0
  rcases hc with rfl | ⟨k, k0, rfl⟩
  · simp only [dAdd, dAddI, dSub, dEq, dNe, dLt, dLe, dGt, dGe, dIs, SL.isNon, dNeg, fLen, lenD, isTy, mLstrip, seqOf, tru, tyOf, Option.map_some, String.reduceEq, usNil, usSeq, usSet, usExpr, usRet, usRetN, usIf, usBrk, usCnt, usAug, usAsg, usDPut, usRaise, usSub, uVar, uC, uBin, uChain, uUn, uTru, uTb, uAnd, uOr, uNot, uAndV, uOrV, uNotV, uIte, uNil, uCons, uTup, uLst, uNoPart, uPart, uSl, vSl, uFn, gP, uIsi, uBM, uBM0, gM, gAppend, gPop, uCall, uA0, uA1, gId, gApp, isSeq, isRng, isRng2, uDGet, bodyE, startE, ugName, List.map_cons, List.map_nil, List.length_cons, List.length_nil, List.cons_append, List.nil_append, List.getElem?_cons_zero, List.getElem?_cons_succ, List.set_cons_zero, List.set_cons_succ, List.replicate, Nat.add_one_sub_one, Nat.sub_self, Nat.reduceSub, Nat.reduceAdd, Option.some.injEq, exists_eq_left', exists_eq_left, exists_and_left, true_and, and_true, D.bl.injEq, D.int.injEq, D.str.injEq, D.tup.injEq, D.ref.injEq, Ob.lst.injEq, List.cons.injEq, fTup, if_true, if_false, ite_true, ite_false, Bool.false_eq_true, Bool.true_eq_false, reduceIte, Ob.ins.injEq, Ob.dic.injEq, usFor, uMeth, uProp, uLenI, uMake, uCMeth, uLc, vSeq, uA2, uA3, gNon, sup_same, sup_sup, dIx, dNot, dIsNot, Bool.not_true, Bool.not_false, usTryAs, hpr2.d]
    refine ⟨nd_write, d, a, b, ls, e, t, .non, rfl, hdk, ex, he, .inl rfl, by omega, fun he2 => ?_, fun he2 => ?_⟩
    · refine ⟨true, ks.exT, fun _ x dd => ?_, fun z => by cases z⟩
      simp only [dAdd, dAddI, dSub, dEq, dNe, dLt, dLe, dGt, dGe, dIs, SL.isNon, dNeg, fLen, lenD, isTy, mLstrip, seqOf, tru, tyOf, Option.map_some, String.reduceEq, usNil, usSeq, usSet, usExpr, usRet, usRetN, usIf, usBrk, usCnt, usAug, usAsg, usDPut, usRaise, usSub, uVar, uC, uBin, uChain, uUn, uTru, uTb, uAnd, uOr, uNot, uAndV, uOrV, uNotV, uIte, uNil, uCons, uTup, uLst, uNoPart, uPart, uSl, vSl, uFn, gP, uIsi, uBM, uBM0, gM, gAppend, gPop, uCall, uA0, uA1, gId, gApp, isSeq, isRng, isRng2, uDGet, bodyE, startE, ugName, List.map_cons, List.map_nil, List.length_cons, List.length_nil, List.cons_append, List.nil_append, List.getElem?_cons_zero, List.getElem?_cons_succ, List.set_cons_zero, List.set_cons_succ, List.replicate, Nat.add_one_sub_one, Nat.sub_self, Nat.reduceSub, Nat.reduceAdd, Option.some.injEq, exists_eq_left', exists_eq_left, exists_and_left, true_and, and_true, D.bl.injEq, D.int.injEq, D.str.injEq, D.tup.injEq, D.ref.injEq, Ob.lst.injEq, List.cons.injEq, fTup, if_true, if_false, ite_true, ite_false, Bool.false_eq_true, Bool.true_eq_false, reduceIte, Ob.ins.injEq, Ob.dic.injEq, usFor, uMeth, uProp, uLenI, uMake, uCMeth, uLc, vSeq, uA2, uA3, gNon, sup_same, sup_sup, dIx, dNot, dIsNot, Bool.not_true, Bool.not_false, uCallH, uExF, asD, exists_eq_left', true_and]
      simp only [hpr2.p, atIp, Option.some.injEq, exists_eq_left']
      refine ⟨ls, e, by rw [ex], he, by rw [← ex]; exact hx8, ?_⟩
      have e1 : (e == []) = false := by rw [beq_eq_false_iff_ne]; exact he2
      simp only [dAdd, dAddI, dSub, dEq, dNe, dLt, dLe, dGt, dGe, dIs, SL.isNon, dNeg, fLen, lenD, isTy, mLstrip, seqOf, tru, tyOf, Option.map_some, String.reduceEq, usNil, usSeq, usSet, usExpr, usRet, usRetN, usIf, usBrk, usCnt, usAug, usAsg, usDPut, usRaise, usSub, uVar, uC, uBin, uChain, uUn, uTru, uTb, uAnd, uOr, uNot, uAndV, uOrV, uNotV, uIte, uNil, uCons, uTup, uLst, uNoPart, uPart, uSl, vSl, uFn, gP, uIsi, uBM, uBM0, gM, gAppend, gPop, uCall, uA0, uA1, gId, gApp, isSeq, isRng, isRng2, uDGet, bodyE, startE, ugName, List.map_cons, List.map_nil, List.length_cons, List.length_nil, List.cons_append, List.nil_append, List.getElem?_cons_zero, List.getElem?_cons_succ, List.set_cons_zero, List.set_cons_succ, List.replicate, Nat.add_one_sub_one, Nat.sub_self, Nat.reduceSub, Nat.reduceAdd, Option.some.injEq, exists_eq_left', exists_eq_left, exists_and_left, true_and, and_true, D.bl.injEq, D.int.injEq, D.str.injEq, D.tup.injEq, D.ref.injEq, Ob.lst.injEq, List.cons.injEq, fTup, if_true, if_false, ite_true, ite_false, Bool.false_eq_true, Bool.true_eq_false, reduceIte, Ob.ins.injEq, Ob.dic.injEq, usFor, uMeth, uProp, uLenI, uMake, uCMeth, uLc, vSeq, uA2, uA3, gNon, sup_same, sup_sup, dIx, dNot, dIsNot, Bool.not_true, Bool.not_false, e1, c_em, Bool.not_false]
      refine ⟨_, _, rfl, .str t, by simp [List.lookup], ls_of (v := .str t) (m := 0) (by decide) trivial fin2⟩
    · simp only [tryD]
      exact w1 he2 _ rfl
  · simp only [dAdd, dAddI, dSub, dEq, dNe, dLt, dLe, dGt, dGe, dIs, SL.isNon, dNeg, fLen, lenD, isTy, mLstrip, seqOf, tru, tyOf, Option.map_some, String.reduceEq, usNil, usSeq, usSet, usExpr, usRet, usRetN, usIf, usBrk, usCnt, usAug, usAsg, usDPut, usRaise, usSub, uVar, uC, uBin, uChain, uUn, uTru, uTb, uAnd, uOr, uNot, uAndV, uOrV, uNotV, uIte, uNil, uCons, uTup, uLst, uNoPart, uPart, uSl, vSl, uFn, gP, uIsi, uBM, uBM0, gM, gAppend, gPop, uCall, uA0, uA1, gId, gApp, isSeq, isRng, isRng2, uDGet, bodyE, startE, ugName, List.map_cons, List.map_nil, List.length_cons, List.length_nil, List.cons_append, List.nil_append, List.getElem?_cons_zero, List.getElem?_cons_succ, List.set_cons_zero, List.set_cons_succ, List.replicate, Nat.add_one_sub_one, Nat.sub_self, Nat.reduceSub, Nat.reduceAdd, Option.some.injEq, exists_eq_left', exists_eq_left, exists_and_left, true_and, and_true, D.bl.injEq, D.int.injEq, D.str.injEq, D.tup.injEq, D.ref.injEq, Ob.lst.injEq, List.cons.injEq, fTup, if_true, if_false, ite_true, ite_false, Bool.false_eq_true, Bool.true_eq_false, reduceIte, Ob.ins.injEq, Ob.dic.injEq, usFor, uMeth, uProp, uLenI, uMake, uCMeth, uLc, vSeq, uA2, uA3, gNon, sup_same, sup_sup, dIx, dNot, dIsNot, Bool.not_true, Bool.not_false, usTryAs, hpr2.d, hls]
    refine ⟨nd_write, d, a, b, ls, e, t, .int k, rfl, hdk, ex, he, .inr ⟨k, k0, rfl⟩, by omega, fun he2 => ?_, fun he2 => ?_⟩
    · refine ⟨true, ks.exT, fun _ x dd => ?_, fun z => by cases z⟩
      simp only [dAdd, dAddI, dSub, dEq, dNe, dLt, dLe, dGt, dGe, dIs, SL.isNon, dNeg, fLen, lenD, isTy, mLstrip, seqOf, tru, tyOf, Option.map_some, String.reduceEq, usNil, usSeq, usSet, usExpr, usRet, usRetN, usIf, usBrk, usCnt, usAug, usAsg, usDPut, usRaise, usSub, uVar, uC, uBin, uChain, uUn, uTru, uTb, uAnd, uOr, uNot, uAndV, uOrV, uNotV, uIte, uNil, uCons, uTup, uLst, uNoPart, uPart, uSl, vSl, uFn, gP, uIsi, uBM, uBM0, gM, gAppend, gPop, uCall, uA0, uA1, gId, gApp, isSeq, isRng, isRng2, uDGet, bodyE, startE, ugName, List.map_cons, List.map_nil, List.length_cons, List.length_nil, List.cons_append, List.nil_append, List.getElem?_cons_zero, List.getElem?_cons_succ, List.set_cons_zero, List.set_cons_succ, List.replicate, Nat.add_one_sub_one, Nat.sub_self, Nat.reduceSub, Nat.reduceAdd, Option.some.injEq, exists_eq_left', exists_eq_left, exists_and_left, true_and, and_true, D.bl.injEq, D.int.injEq, D.str.injEq, D.tup.injEq, D.ref.injEq, Ob.lst.injEq, List.cons.injEq, fTup, if_true, if_false, ite_true, ite_false, Bool.false_eq_true, Bool.true_eq_false, reduceIte, Ob.ins.injEq, Ob.dic.injEq, usFor, uMeth, uProp, uLenI, uMake, uCMeth, uLc, vSeq, uA2, uA3, gNon, sup_same, sup_sup, dIx, dNot, dIsNot, Bool.not_true, Bool.not_false, uCallH, uExF, asD, exists_eq_left', true_and]
      simp only [hpr2.p, atIp, Option.some.injEq, exists_eq_left']
      refine ⟨ls, e, by rw [ex], he, by rw [← ex]; exact hx8, ?_⟩
      have e1 : (e == []) = false := by rw [beq_eq_false_iff_ne]; exact he2
      simp only [dAdd, dAddI, dSub, dEq, dNe, dLt, dLe, dGt, dGe, dIs, SL.isNon, dNeg, fLen, lenD, isTy, mLstrip, seqOf, tru, tyOf, Option.map_some, String.reduceEq, usNil, usSeq, usSet, usExpr, usRet, usRetN, usIf, usBrk, usCnt, usAug, usAsg, usDPut, usRaise, usSub, uVar, uC, uBin, uChain, uUn, uTru, uTb, uAnd, uOr, uNot, uAndV, uOrV, uNotV, uIte, uNil, uCons, uTup, uLst, uNoPart, uPart, uSl, vSl, uFn, gP, uIsi, uBM, uBM0, gM, gAppend, gPop, uCall, uA0, uA1, gId, gApp, isSeq, isRng, isRng2, uDGet, bodyE, startE, ugName, List.map_cons, List.map_nil, List.length_cons, List.length_nil, List.cons_append, List.nil_append, List.getElem?_cons_zero, List.getElem?_cons_succ, List.set_cons_zero, List.set_cons_succ, List.replicate, Nat.add_one_sub_one, Nat.sub_self, Nat.reduceSub, Nat.reduceAdd, Option.some.injEq, exists_eq_left', exists_eq_left, exists_and_left, true_and, and_true, D.bl.injEq, D.int.injEq, D.str.injEq, D.tup.injEq, D.ref.injEq, Ob.lst.injEq, List.cons.injEq, fTup, if_true, if_false, ite_true, ite_false, Bool.false_eq_true, Bool.true_eq_false, reduceIte, Ob.ins.injEq, Ob.dic.injEq, usFor, uMeth, uProp, uLenI, uMake, uCMeth, uLc, vSeq, uA2, uA3, gNon, sup_same, sup_sup, dIx, dNot, dIsNot, Bool.not_true, Bool.not_false, e1, c_em, Bool.not_false]
      refine ⟨_, _, rfl, .str t, by simp [List.lookup], ls_of (v := .str t) (m := 0) (by decide) trivial fin2⟩
    · simp only [tryD]
      rw [show cut (t ++ [10]) none (some k) = fsg (t ++ [10]) (.int k) from cut_to k0]
      exact w1 he2 _ rfl
end K82

set_option Elab.async false
set_option linter.all false
set_option maxRecDepth 100000
set_option maxHeartbeats 4000000
namespace K82
open PySem PySem.Spec L2 SL NumText
variable {K : PySem.W.Frag} {c : Cs}
theorem repl_len {x : List Nat} : (sRepl x [10] []).length ≤ x.length := by
  have e : sRepl x [10] [] = x.filter (· != 10) := by
    unfold sRepl
    have := PyProof.Rows.replace_strikes (tx x) 10
    rw [tx_cps] at this
    exact this
  rw [e]; exact List.length_filter_le ..
theorem hn_zero {t : List Nat} : hn ([48, 32] ++ t ++ [10]) = 0 := by
  have := hn_line (p := [48]) (h := t) (R := []) (by decide)
  rw [show [48, 32] ++ t ++ [10] = ([48] ++ 32 :: t) ++ 10 :: [] by simp, this, if_pos (by decide)]
  rfl
theorem hn_nil : hn [] = -1 := hn_nolf (by decide)
theorem newOk {t : List Nat} (h : t.length ≤ 500) : PrOk 900000000 1000 ([48, 32] ++ t ++ [10]) [] := ⟨.inl (by rw [hn_zero]; decide), ⟨by rw [hn_zero]; decide, by simp only [List.length_append, List.length_cons, List.length_nil]; omega⟩, ⟨by rw [hn_nil]; decide, by decide⟩⟩
theorem number_of {S : SS} {f cl : Addr} {Q : QN} {X : QX} (h : Flw S f cl) (k : ∀ n S', 0 ≤ n → n ≤ 900000000 → Flw S' f cl → (∀ b, b ≠ f → S' b = S b) → Q (.int n) S') : sp__law_number [.ref f] S Q X := ⟨f, cl, rfl, h, k⟩
def NewQ (c : Cs) (S0 : SS) (f cl : Addr) (Q : QN) : Prop := ∀ d p S' a b, Flw S' f cl → Pr c S' d p 900000000 1000 a b → KeepX S0 f S' → S0 d = none → S0 p = none → Q (.tup [.ref d, .ref p]) S'
def sp__law_new (c : Cs) : FS := fun ds S Q X => ∃ f cl, ds = [.ref f] ∧ Flw S f cl ∧ NewQ c S f cl Q
structure Nw (S0 S : SS) (f cl q : Addr) (x y : List Nat) : Prop where
  fl : Flw S f cl
  kx : KeepX S0 f S
  q0 : S0 q = none
  q : S q = some (.lst [.str x, .str y])
  x : PlOk x
  y : PlOk y
theorem KeepX.none {S0 S : SS} {f b : Addr} (h : KeepX S0 f S) (n : S b = none) (hb : b ≠ f) : S0 b = none := by
  cases e : S0 b with
  | none => rfl
  | some o => rw [h b o hb e] at n; cases n
theorem Nw.new {S0 S : SS} {f cl q p : Addr} {x y : List Nat} {o : Ob} (h : Nw S0 S f cl q x y) (hp : S p = none) : Nw S0 (SL.sup S p o) f cl q x y ∧ q ≠ p ∧ p ≠ f ∧ S0 p = none := by
  obtain ⟨h1, h2, h3, h4, h5, h6⟩ := h
  have hq : q ≠ p := fun z => by rw [z, hp] at h4; cases h4
  obtain ⟨n1, n2⟩ := h1.fr hp
  exact ⟨⟨h1.new hp, h2.new hp, h3, by rw [sup_ne hq]; exact h4, h5, h6⟩, hq, n1, h2.none hp n1⟩
theorem Nw.fl' {S0 S S' : SS} {f cl q : Addr} {x y : List Nat} (h : Nw S0 S f cl q x y) (hf : Flw S' f cl) (hb : ∀ b, b ≠ f → S' b = S b) : Nw S0 S' f cl q x y := by
  obtain ⟨h1, h2, h3, h4, h5, h6⟩ := h
  have hq : q ≠ f := fun z => by
    obtain ⟨a, g, t, e⟩ := h1.row
    rw [z, e] at h4; cases h4
  exact ⟨hf, h2.then hb, h3, by rw [hb q hq]; exact h4, h5, h6⟩
def nw6  : US := (usSeq (usIf (uTru (uIsi ["list"] (uVar 5))) (usSeq (usSub (uVar 5) (uC (.int 0)) (uC (.str (cs "7 changed\n")))) (usExpr (uBM "list" gAppend (uVar 5) (uCons (uC (.str (cs ""))) uNil)))) usNil) (usRet (uTup (uCons (uVar 6) (uCons (uVar 3) uNil)))))
def nw5 (sp__law_present : FS) (sp__law_same : FS) : US := (usSeq (usIf (uOr (uTb (uBin dLt (uCall (sp__law_present) gId (uA1 1 (uCons (uVar 3) uNil))) (uC (.int 0)))) (uNot (uTru (uCall (sp__law_same) gId (uA1 2 (uCons (uFn (gP fTup) (uCons (uVar 5) uNil)) (uCons (uFn (gP fTup) (uCons (uVar 3) uNil)) uNil))))))) (usRet (uC .non)) usNil) nw6)
def nw4 (K : PySem.W.Frag) (c : Cs) (sp_Disk___init__ : FS) (sp_Disk_of_places : FS) (sp__law_present : FS) (sp__law_same : FS) : US := (usSeq (usTryAs K (.ref c.BadBook) 7 (usSet 6 (uCMeth c.Disk (fun ds S Q X => ds.length = ps_Disk_of_places.length ∧ sp_Disk_of_places ds S Q X) (uC (.ref c.Disk)) (uCons (uVar 5) uNil))) (fun a cls d => (usSeq (usIf (uOr (uTb (uBin dGe (uCallH 1 (sp__law_present) (uCons (uVar 3) uNil)) (uC (.int 0)))) (uNot (uTru (uCallH 2 (sp__law_same) (uCons (uExF a c.BadBook cls d "texts" (uVar 7)) (uCons (uFn (gP fTup) (uCons (uVar 3) uNil)) uNil)))))) (usRet (uC .non)) usNil) (usRet (uTup (uCons (uMakeH 1 c.Disk (sp_Disk___init__) (uCons (uRepl (uBin dIx (uVar 3) (uC (.int 0))) (cs "\n") (cs "")) uNil)) (uCons (uLst (uCons (uBin dAdd (uBin dAdd (uC (.str (cs "0 "))) (uRepl (uBin dIx (uVar 3) (uC (.int 0))) (cs "\n") (cs ""))) (uC (.str (cs "\n")))) (uCons (uC (.str (cs ""))) uNil))) uNil))))))) (nw5 sp__law_present sp__law_same))
def nw3 (K : PySem.W.Frag) (c : Cs) (sp__law_take : FS) (sp_Disk___init__ : FS) (sp_Disk_of_places : FS) (sp__law_present : FS) (sp__law_same : FS) : US := (usSeq (usIf (uTb (uBin dEq (uCall (sp__law_take) gId (uA1 2 (uCons (uVar 0) (uCons (uC (.int 2)) uNil)))) (uC (.int 0)))) (usSet 5 (uFn gLst (uCons (uVar 3) uNil))) usNil) (nw4 K c sp_Disk___init__ sp_Disk_of_places sp__law_present sp__law_same))
def nw2 (K : PySem.W.Frag) (c : Cs) (sp__law_take : FS) (sp_Disk___init__ : FS) (sp_Disk_of_places : FS) (sp__law_present : FS) (sp__law_same : FS) : US := (usSeq (usSet 5 (uFn (gP fTup) (uCons (uVar 3) uNil))) (nw3 K c sp__law_take sp_Disk___init__ sp_Disk_of_places sp__law_present sp__law_same))
def nw1 (K : PySem.W.Frag) (c : Cs) (sp__law_take : FS) (sp_Disk___init__ : FS) (sp__law_number : FS) (sp__law_place : FS) (sp_Disk_of_places : FS) (sp__law_present : FS) (sp__law_same : FS) : US := (usSeq (usIf (uTb (uBin dGt (uCall (sp__law_take) gId (uA1 2 (uCons (uVar 0) (uCons (uC (.int 3)) uNil)))) (uC (.int 0)))) (usSeq (usSet 4 (uFn (gP fMin) (uCons (uC (.int 900000000)) (uCons (uFn (gP fMax) (uCons (uC (.int 0)) (uCons (uBin dAdd (uVar 2) (uBin dIx (uTup (uCons (uC (.int 1)) (uCons (uUn dNeg (uC (.int 1))) (uCons (uC (.int 10)) uNil)))) (uCall (sp__law_take) gId (uA1 2 (uCons (uVar 0) (uCons (uC (.int 3)) uNil)))))) uNil))) uNil)))) (usSub (uVar 3) (uC (.int 1)) (uCall (sp__law_place) gId (uA1 2 (uCons (uVar 0) (uCons (uBin dIx (uTup (uCons (uVar 4) (uCons (uCall (sp__law_number) gId (uA1 1 (uCons (uVar 0) uNil))) uNil))) (uCall (sp__law_take) gId (uA1 2 (uCons (uVar 0) (uCons (uC (.int 2)) uNil))))) uNil)))))) usNil) (nw2 K c sp__law_take sp_Disk___init__ sp_Disk_of_places sp__law_present sp__law_same))
def nw0 (K : PySem.W.Frag) (c : Cs) (sp__law_take : FS) (sp_Disk___init__ : FS) (sp__law_number : FS) (sp__law_place : FS) (sp_Disk_of_places : FS) (sp__law_present : FS) (sp__law_same : FS) : US := (usSeq (usSet 2 (uCall (sp__law_number) gId (uA1 1 (uCons (uVar 0) uNil)))) (usSeq (usSet 3 (uLst (uCons (uCall (sp__law_place) gId (uA1 2 (uCons (uVar 0) (uCons (uVar 2) uNil)))) (uCons (uCall (sp__law_place) gId (uA1 2 (uCons (uVar 0) (uCons (uVar 2) uNil)))) uNil)))) (nw1 K c sp__law_take sp_Disk___init__ sp__law_number sp__law_place sp_Disk_of_places sp__law_present sp__law_same)))
theorem nw_eq {K : PySem.W.Frag} {c : Cs} {sp__law_take : FS} {sp__law_text : FS} {sp_Disk___init__ : FS} {sp__law_number : FS} {sp__law_place : FS} {sp_Disk_of_places : FS} {sp__law_present : FS} {sp__law_same : FS} : u__law_new K c sp__law_take sp__law_text sp_Disk___init__ sp__law_number sp__law_place sp_Disk_of_places sp__law_present sp__law_same = (usSeq (usIf (uTb (uBin dEq (uCall (sp__law_take) gId (uA1 2 (uCons (uVar 0) (uCons (uC (.int 4)) uNil)))) (uC (.int 0)))) (usSeq (usSet 1 (uCall (sp__law_text) gId (uA1 1 (uCons (uVar 0) uNil)))) (usRet (uTup (uCons (uMake c.Disk (sp_Disk___init__) gId (uA1 1 (uCons (uVar 1) uNil))) (uCons (uLst (uCons (uBin dAdd (uBin dAdd (uC (.str (cs "0 "))) (uVar 1)) (uC (.str (cs "\n")))) (uCons (uC (.str (cs ""))) uNil))) uNil))))) usNil) (nw0 K c sp__law_take sp_Disk___init__ sp__law_number sp__law_place sp_Disk_of_places sp__law_present sp__law_same)) := rfl

abbrev nenv (f q : Addr) (e1 e2 e4 v e6 e7 : Option D) : En := [some (.ref f), e1, e2, some (.ref q), e4, v, e6, e7]
def HdOk (S0 S : SS) (q : Addr) (v : D) (x y : List Nat) : Prop := v = .tup [.str x, .str y] ∨ ∃ h, v = .ref h ∧ S h = some (.lst [.str x, .str y]) ∧ S0 h = none ∧ h ≠ q
theorem HdOk.seq {S0 S : SS} {q : Addr} {v : D} {x y : List Nat} (h : HdOk S0 S q v x y) : seqOf S v = some [.str x, .str y] := by
  rcases h with rfl | ⟨h, rfl, e, _⟩
  · rfl
  · simp only [seqOf, e]
theorem nw6_of {S0 S : SS} {f cl q d : Addr} {x y : List Nat} {v : D} {e1 e2 e4 e7 : Option D} {Q : QN} {X : QX} (h : Nw S0 S f cl q x y) (hv : HdOk S0 S q v x y) (hd : S d = some (.ins c.Disk (dsk x y))) (hd0 : S0 d = none) (ok : 0 ≤ hn x ∨ 0 ≤ hn y) (q' : NewQ c S0 f cl Q) :
    nw6 (bodyE Q X) (nenv f q e1 e2 e4 (some v) (some (.ref d)) e7) S := by
  have pok : PrOk 900000000 1000 x y := ⟨ok, ⟨h.x.1, by have := h.x.2; omega⟩, ⟨h.y.1, by have := h.y.2; omega⟩⟩
  unfold nw6
  rcases hv with rfl | ⟨hh, rfl, eh, h0, hq⟩
  · have j : ["list"].any (isT "tuple") = false := by decide
    simp only [dAdd, dAddI, dSub, dEq, dNe, dLt, dLe, dGt, dGe, dIs, SL.isNon, dNeg, fLen, lenD, isTy, mLstrip, seqOf, tru, tyOf, Option.map_some, String.reduceEq, usNil, usSeq, usSet, usExpr, usRet, usRetN, usIf, usBrk, usCnt, usAug, usAsg, usDPut, usRaise, usSub, uVar, uC, uBin, uChain, uUn, uTru, uTb, uAnd, uOr, uNot, uAndV, uOrV, uNotV, uIte, uNil, uCons, uTup, uLst, uNoPart, uPart, uSl, vSl, uFn, gP, uIsi, uBM, uBM0, gM, gAppend, gPop, uCall, uA0, uA1, gId, gApp, isSeq, isRng, isRng2, uDGet, bodyE, startE, ugName, List.map_cons, List.map_nil, List.length_cons, List.length_nil, List.cons_append, List.nil_append, List.getElem?_cons_zero, List.getElem?_cons_succ, List.set_cons_zero, List.set_cons_succ, List.replicate, Nat.add_one_sub_one, Nat.sub_self, Nat.reduceSub, Nat.reduceAdd, Option.some.injEq, exists_eq_left', exists_eq_left, exists_and_left, true_and, and_true, D.bl.injEq, D.int.injEq, D.str.injEq, D.tup.injEq, D.ref.injEq, Ob.lst.injEq, List.cons.injEq, fTup, if_true, if_false, ite_true, ite_false, Bool.false_eq_true, Bool.true_eq_false, reduceIte, Ob.ins.injEq, Ob.dic.injEq, usFor, uMeth, uProp, uLenI, uMake, uCMeth, uLc, vSeq, uA2, uA3, gNon, sup_same, sup_sup, dIx, dNot, dIsNot, Bool.not_true, Bool.not_false, j]
    exact ⟨z2, S, Le.refl _, q' d q S x y h.fl ⟨hd, h.q, pok⟩ h.kx hd0 h.q0⟩
  · have j : ["list"].any (isT "list") = true := by decide
    have ix : ixN 2 0 = some 0 := rfl
    simp only [dAdd, dAddI, dSub, dEq, dNe, dLt, dLe, dGt, dGe, dIs, SL.isNon, dNeg, fLen, lenD, isTy, mLstrip, seqOf, tru, tyOf, Option.map_some, String.reduceEq, usNil, usSeq, usSet, usExpr, usRet, usRetN, usIf, usBrk, usCnt, usAug, usAsg, usDPut, usRaise, usSub, uVar, uC, uBin, uChain, uUn, uTru, uTb, uAnd, uOr, uNot, uAndV, uOrV, uNotV, uIte, uNil, uCons, uTup, uLst, uNoPart, uPart, uSl, vSl, uFn, gP, uIsi, uBM, uBM0, gM, gAppend, gPop, uCall, uA0, uA1, gId, gApp, isSeq, isRng, isRng2, uDGet, bodyE, startE, ugName, List.map_cons, List.map_nil, List.length_cons, List.length_nil, List.cons_append, List.nil_append, List.getElem?_cons_zero, List.getElem?_cons_succ, List.set_cons_zero, List.set_cons_succ, List.replicate, Nat.add_one_sub_one, Nat.sub_self, Nat.reduceSub, Nat.reduceAdd, Option.some.injEq, exists_eq_left', exists_eq_left, exists_and_left, true_and, and_true, D.bl.injEq, D.int.injEq, D.str.injEq, D.tup.injEq, D.ref.injEq, Ob.lst.injEq, List.cons.injEq, fTup, if_true, if_false, ite_true, ite_false, Bool.false_eq_true, Bool.true_eq_false, reduceIte, Ob.ins.injEq, Ob.dic.injEq, usFor, uMeth, uProp, uLenI, uMake, uCMeth, uLc, vSeq, uA2, uA3, gNon, sup_same, sup_sup, dIx, dNot, dIsNot, Bool.not_true, Bool.not_false, eh, j, vSet, ix]
    have hhf : hh ≠ f := fun z => by
      obtain ⟨a, g, t, e⟩ := h.fl.row
      rw [z, e] at eh; cases eh
    have hhc : cl ≠ hh := fun z => by
      obtain ⟨xs, e, e0, _⟩ := h.fl.cells
      rw [z, eh] at e
      cases xs with
      | nil => exact e0 rfl
      | cons y ys => simp at e
    have hhd : d ≠ hh := fun z => by rw [z, eh] at hd; cases hd
    exact ⟨z3, z2, _, Le.refl _, q' d q _ x y (h.fl.put hhf hhc) ⟨by rw [sup_ne hhd]; exact hd, by rw [sup_ne hq.symm]; exact h.q, pok⟩ (fun b o hb e => by
      rw [sup_ne (fun z => by rw [z, h0] at e; cases e)]; exact h.kx b o hb e) hd0 h.q0⟩
theorem nw5_of {S0 S : SS} {f cl q d : Addr} {x y : List Nat} {v : D} {e1 e2 e4 e7 : Option D} {Q : QN} {X : QX} (h : Nw S0 S f cl q x y) (hv : HdOk S0 S q v x y) (hd : S d = some (.ins c.Disk (dsk x y))) (hd0 : S0 d = none) (ok : 0 ≤ hn x ∨ 0 ≤ hn y) (q' : NewQ c S0 f cl Q) :
    nw5 sp__law_present (sp_ls 6) (bodyE Q X) (nenv f q e1 e2 e4 (some v) (some (.ref d)) e7) S := by
  have lx := h.x.2
  have ly := h.y.2
  have eP : EzW 1 (D.tup [D.str x, D.str y]) := ⟨by simp, fun z hz => by simp at hz; rcases hz with rfl | rfl <;> trivial⟩
  have np : decide (pre x y < 0) = false := by unfold pre pat; rw [if_neg (by omega)]; split <;> decide
  unfold nw5
  simp only [dAdd, dAddI, dSub, dEq, dNe, dLt, dLe, dGt, dGe, dIs, SL.isNon, dNeg, fLen, lenD, isTy, mLstrip, seqOf, tru, tyOf, Option.map_some, String.reduceEq, usNil, usSeq, usSet, usExpr, usRet, usRetN, usIf, usBrk, usCnt, usAug, usAsg, usDPut, usRaise, usSub, uVar, uC, uBin, uChain, uUn, uTru, uTb, uAnd, uOr, uNot, uAndV, uOrV, uNotV, uIte, uNil, uCons, uTup, uLst, uNoPart, uPart, uSl, vSl, uFn, gP, uIsi, uBM, uBM0, gM, gAppend, gPop, uCall, uA0, uA1, gId, gApp, isSeq, isRng, isRng2, uDGet, bodyE, startE, ugName, List.map_cons, List.map_nil, List.length_cons, List.length_nil, List.cons_append, List.nil_append, List.getElem?_cons_zero, List.getElem?_cons_succ, List.set_cons_zero, List.set_cons_succ, List.replicate, Nat.add_one_sub_one, Nat.sub_self, Nat.reduceSub, Nat.reduceAdd, Option.some.injEq, exists_eq_left', exists_eq_left, exists_and_left, true_and, and_true, D.bl.injEq, D.int.injEq, D.str.injEq, D.tup.injEq, D.ref.injEq, Ob.lst.injEq, List.cons.injEq, fTup, if_true, if_false, ite_true, ite_false, Bool.false_eq_true, Bool.true_eq_false, reduceIte, Ob.ins.injEq, Ob.dic.injEq, usFor, uMeth, uProp, uLenI, uMake, uCMeth, uLc, vSeq, uA2, uA3, gNon, sup_same, sup_sup, dIx, dNot, dIsNot, Bool.not_true, Bool.not_false]
  refine ⟨q, x, y, rfl, h.q, by omega, by omega, ?_⟩
  simp only [dAdd, dAddI, dSub, dEq, dNe, dLt, dLe, dGt, dGe, dIs, SL.isNon, dNeg, fLen, lenD, isTy, mLstrip, seqOf, tru, tyOf, Option.map_some, String.reduceEq, usNil, usSeq, usSet, usExpr, usRet, usRetN, usIf, usBrk, usCnt, usAug, usAsg, usDPut, usRaise, usSub, uVar, uC, uBin, uChain, uUn, uTru, uTb, uAnd, uOr, uNot, uAndV, uOrV, uNotV, uIte, uNil, uCons, uTup, uLst, uNoPart, uPart, uSl, vSl, uFn, gP, uIsi, uBM, uBM0, gM, gAppend, gPop, uCall, uA0, uA1, gId, gApp, isSeq, isRng, isRng2, uDGet, bodyE, startE, ugName, List.map_cons, List.map_nil, List.length_cons, List.length_nil, List.cons_append, List.nil_append, List.getElem?_cons_zero, List.getElem?_cons_succ, List.set_cons_zero, List.set_cons_succ, List.replicate, Nat.add_one_sub_one, Nat.sub_self, Nat.reduceSub, Nat.reduceAdd, Option.some.injEq, exists_eq_left', exists_eq_left, exists_and_left, true_and, and_true, D.bl.injEq, D.int.injEq, D.str.injEq, D.tup.injEq, D.ref.injEq, Ob.lst.injEq, List.cons.injEq, fTup, if_true, if_false, ite_true, ite_false, Bool.false_eq_true, Bool.true_eq_false, reduceIte, Ob.ins.injEq, Ob.dic.injEq, usFor, uMeth, uProp, uLenI, uMake, uCMeth, uLc, vSeq, uA2, uA3, gNon, sup_same, sup_sup, dIx, dNot, dIsNot, Bool.not_true, Bool.not_false, np, h.q]
  have hs := hv.seq
  simp only [seqOf] at hs
  simp only [hs, Option.map_some, Option.some.injEq, exists_eq_left']
  refine ls_of (m := 1) (by decide) eP ?_
  simp only [dAdd, dAddI, dSub, dEq, dNe, dLt, dLe, dGt, dGe, dIs, SL.isNon, dNeg, fLen, lenD, isTy, mLstrip, seqOf, tru, tyOf, Option.map_some, String.reduceEq, usNil, usSeq, usSet, usExpr, usRet, usRetN, usIf, usBrk, usCnt, usAug, usAsg, usDPut, usRaise, usSub, uVar, uC, uBin, uChain, uUn, uTru, uTb, uAnd, uOr, uNot, uAndV, uOrV, uNotV, uIte, uNil, uCons, uTup, uLst, uNoPart, uPart, uSl, vSl, uFn, gP, uIsi, uBM, uBM0, gM, gAppend, gPop, uCall, uA0, uA1, gId, gApp, isSeq, isRng, isRng2, uDGet, bodyE, startE, ugName, List.map_cons, List.map_nil, List.length_cons, List.length_nil, List.cons_append, List.nil_append, List.getElem?_cons_zero, List.getElem?_cons_succ, List.set_cons_zero, List.set_cons_succ, List.replicate, Nat.add_one_sub_one, Nat.sub_self, Nat.reduceSub, Nat.reduceAdd, Option.some.injEq, exists_eq_left', exists_eq_left, exists_and_left, true_and, and_true, D.bl.injEq, D.int.injEq, D.str.injEq, D.tup.injEq, D.ref.injEq, Ob.lst.injEq, List.cons.injEq, fTup, if_true, if_false, ite_true, ite_false, Bool.false_eq_true, Bool.true_eq_false, reduceIte, Ob.ins.injEq, Ob.dic.injEq, usFor, uMeth, uProp, uLenI, uMake, uCMeth, uLc, vSeq, uA2, uA3, gNon, sup_same, sup_sup, dIx, dNot, dIsNot, Bool.not_true, Bool.not_false]
  exact nw6_of h hv hd hd0 ok q'
theorem nw4_of (ks : Ks K c) {S0 S : SS} {f cl q : Addr} {x y : List Nat} {v : D} {e1 e2 e4 : Option D} {Q : QN} {X : QX} (h : Nw S0 S f cl q x y) (hv : HdOk S0 S q v x y) (q' : NewQ c S0 f cl Q) :
    nw4 K c (sp_Disk___init__ c) (sp_Disk_of_places c) sp__law_present (sp_ls 6) (bodyE Q X) (nenv f q e1 e2 e4 (some v) none none) S := by
  have lx := h.x.2
  have ly := h.y.2
  unfold nw4
  simp only [dAdd, dAddI, dSub, dEq, dNe, dLt, dLe, dGt, dGe, dIs, SL.isNon, dNeg, fLen, lenD, isTy, mLstrip, seqOf, tru, tyOf, Option.map_some, String.reduceEq, usNil, usSeq, usSet, usExpr, usRet, usRetN, usIf, usBrk, usCnt, usAug, usAsg, usDPut, usRaise, usSub, uVar, uC, uBin, uChain, uUn, uTru, uTb, uAnd, uOr, uNot, uAndV, uOrV, uNotV, uIte, uNil, uCons, uTup, uLst, uNoPart, uPart, uSl, vSl, uFn, gP, uIsi, uBM, uBM0, gM, gAppend, gPop, uCall, uA0, uA1, gId, gApp, isSeq, isRng, isRng2, uDGet, bodyE, startE, ugName, List.map_cons, List.map_nil, List.length_cons, List.length_nil, List.cons_append, List.nil_append, List.getElem?_cons_zero, List.getElem?_cons_succ, List.set_cons_zero, List.set_cons_succ, List.replicate, Nat.add_one_sub_one, Nat.sub_self, Nat.reduceSub, Nat.reduceAdd, Option.some.injEq, exists_eq_left', exists_eq_left, exists_and_left, true_and, and_true, D.bl.injEq, D.int.injEq, D.str.injEq, D.tup.injEq, D.ref.injEq, Ob.lst.injEq, List.cons.injEq, fTup, if_true, if_false, ite_true, ite_false, Bool.false_eq_true, Bool.true_eq_false, reduceIte, Ob.ins.injEq, Ob.dic.injEq, usFor, uMeth, uProp, uLenI, uMake, uCMeth, uLc, vSeq, uA2, uA3, gNon, sup_same, sup_sup, dIx, dNot, dIsNot, Bool.not_true, Bool.not_false, usTryAs]
  refine ⟨v, x, y, rfl, hv.seq, by omega, by omega, fun ok p hp => ?_, fun n1 n2 => ?_⟩
  · obtain ⟨h2, nq, nf, p0⟩ := h.new (o := .ins c.Disk (dsk x y)) hp
    simp only [tryD]
    refine nw5_of h2 ?_ sup_same p0 ok q'
    rcases hv with rfl | ⟨hh, rfl, eh, h0, hq⟩
    · exact .inl rfl
    · exact .inr ⟨hh, rfl, by rw [sup_ne (fun z => by rw [z, hp] at eh; cases eh)]; exact eh, h0, hq⟩
  · refine ⟨true, ks.exB, fun _ a dd => ?_, fun z => by cases z⟩
    have npre : pre x y = -1 := by unfold pre; rw [if_pos ⟨n1, n2⟩]
    simp only [dAdd, dAddI, dSub, dEq, dNe, dLt, dLe, dGt, dGe, dIs, SL.isNon, dNeg, fLen, lenD, isTy, mLstrip, seqOf, tru, tyOf, Option.map_some, String.reduceEq, usNil, usSeq, usSet, usExpr, usRet, usRetN, usIf, usBrk, usCnt, usAug, usAsg, usDPut, usRaise, usSub, uVar, uC, uBin, uChain, uUn, uTru, uTb, uAnd, uOr, uNot, uAndV, uOrV, uNotV, uIte, uNil, uCons, uTup, uLst, uNoPart, uPart, uSl, vSl, uFn, gP, uIsi, uBM, uBM0, gM, gAppend, gPop, uCall, uA0, uA1, gId, gApp, isSeq, isRng, isRng2, uDGet, bodyE, startE, ugName, List.map_cons, List.map_nil, List.length_cons, List.length_nil, List.cons_append, List.nil_append, List.getElem?_cons_zero, List.getElem?_cons_succ, List.set_cons_zero, List.set_cons_succ, List.replicate, Nat.add_one_sub_one, Nat.sub_self, Nat.reduceSub, Nat.reduceAdd, Option.some.injEq, exists_eq_left', exists_eq_left, exists_and_left, true_and, and_true, D.bl.injEq, D.int.injEq, D.str.injEq, D.tup.injEq, D.ref.injEq, Ob.lst.injEq, List.cons.injEq, fTup, if_true, if_false, ite_true, ite_false, Bool.false_eq_true, Bool.true_eq_false, reduceIte, Ob.ins.injEq, Ob.dic.injEq, usFor, uMeth, uProp, uLenI, uMake, uCMeth, uLc, vSeq, uA2, uA3, gNon, sup_same, sup_sup, dIx, dNot, dIsNot, Bool.not_true, Bool.not_false, uCallH, uExF, asD, exists_eq_left', true_and]
    refine ⟨q, x, y, rfl, h.q, by omega, by omega, ?_⟩
    have n0 : decide ((0 : Int) ≤ -1) = false := by decide
    have eP : EzW 1 (D.tup [D.str x, D.str y]) := ⟨by simp, fun z hz => by simp at hz; rcases hz with rfl | rfl <;> trivial⟩
    simp only [dAdd, dAddI, dSub, dEq, dNe, dLt, dLe, dGt, dGe, dIs, SL.isNon, dNeg, fLen, lenD, isTy, mLstrip, seqOf, tru, tyOf, Option.map_some, String.reduceEq, usNil, usSeq, usSet, usExpr, usRet, usRetN, usIf, usBrk, usCnt, usAug, usAsg, usDPut, usRaise, usSub, uVar, uC, uBin, uChain, uUn, uTru, uTb, uAnd, uOr, uNot, uAndV, uOrV, uNotV, uIte, uNil, uCons, uTup, uLst, uNoPart, uPart, uSl, vSl, uFn, gP, uIsi, uBM, uBM0, gM, gAppend, gPop, uCall, uA0, uA1, gId, gApp, isSeq, isRng, isRng2, uDGet, bodyE, startE, ugName, List.map_cons, List.map_nil, List.length_cons, List.length_nil, List.cons_append, List.nil_append, List.getElem?_cons_zero, List.getElem?_cons_succ, List.set_cons_zero, List.set_cons_succ, List.replicate, Nat.add_one_sub_one, Nat.sub_self, Nat.reduceSub, Nat.reduceAdd, Option.some.injEq, exists_eq_left', exists_eq_left, exists_and_left, true_and, and_true, D.bl.injEq, D.int.injEq, D.str.injEq, D.tup.injEq, D.ref.injEq, Ob.lst.injEq, List.cons.injEq, fTup, if_true, if_false, ite_true, ite_false, Bool.false_eq_true, Bool.true_eq_false, reduceIte, Ob.ins.injEq, Ob.dic.injEq, usFor, uMeth, uProp, uLenI, uMake, uCMeth, uLc, vSeq, uA2, uA3, gNon, sup_same, sup_sup, dIx, dNot, dIsNot, Bool.not_true, Bool.not_false, npre, n0]
    refine ⟨_, _, rfl, .tup [.str x, .str y], by simp [List.lookup], ?_⟩
    simp only [dAdd, dAddI, dSub, dEq, dNe, dLt, dLe, dGt, dGe, dIs, SL.isNon, dNeg, fLen, lenD, isTy, mLstrip, seqOf, tru, tyOf, Option.map_some, String.reduceEq, usNil, usSeq, usSet, usExpr, usRet, usRetN, usIf, usBrk, usCnt, usAug, usAsg, usDPut, usRaise, usSub, uVar, uC, uBin, uChain, uUn, uTru, uTb, uAnd, uOr, uNot, uAndV, uOrV, uNotV, uIte, uNil, uCons, uTup, uLst, uNoPart, uPart, uSl, vSl, uFn, gP, uIsi, uBM, uBM0, gM, gAppend, gPop, uCall, uA0, uA1, gId, gApp, isSeq, isRng, isRng2, uDGet, bodyE, startE, ugName, List.map_cons, List.map_nil, List.length_cons, List.length_nil, List.cons_append, List.nil_append, List.getElem?_cons_zero, List.getElem?_cons_succ, List.set_cons_zero, List.set_cons_succ, List.replicate, Nat.add_one_sub_one, Nat.sub_self, Nat.reduceSub, Nat.reduceAdd, Option.some.injEq, exists_eq_left', exists_eq_left, exists_and_left, true_and, and_true, D.bl.injEq, D.int.injEq, D.str.injEq, D.tup.injEq, D.ref.injEq, Ob.lst.injEq, List.cons.injEq, fTup, if_true, if_false, ite_true, ite_false, Bool.false_eq_true, Bool.true_eq_false, reduceIte, Ob.ins.injEq, Ob.dic.injEq, usFor, uMeth, uProp, uLenI, uMake, uCMeth, uLc, vSeq, uA2, uA3, gNon, sup_same, sup_sup, dIx, dNot, dIsNot, Bool.not_true, Bool.not_false, h.q]
    refine ls_of (m := 1) (by decide) eP ?_
    have hrl := repl_len (x := x)
    simp (disch := (try simp only [List.length_append, List.length_cons, List.length_nil]); omega) only [dAdd, dAddI, dSub, dEq, dNe, dLt, dLe, dGt, dGe, dIs, SL.isNon, dNeg, fLen, lenD, isTy, mLstrip, seqOf, tru, tyOf, Option.map_some, String.reduceEq, usNil, usSeq, usSet, usExpr, usRet, usRetN, usIf, usBrk, usCnt, usAug, usAsg, usDPut, usRaise, usSub, uVar, uC, uBin, uChain, uUn, uTru, uTb, uAnd, uOr, uNot, uAndV, uOrV, uNotV, uIte, uNil, uCons, uTup, uLst, uNoPart, uPart, uSl, vSl, uFn, gP, uIsi, uBM, uBM0, gM, gAppend, gPop, uCall, uA0, uA1, gId, gApp, isSeq, isRng, isRng2, uDGet, bodyE, startE, ugName, List.map_cons, List.map_nil, List.length_cons, List.length_nil, List.cons_append, List.nil_append, List.getElem?_cons_zero, List.getElem?_cons_succ, List.set_cons_zero, List.set_cons_succ, List.replicate, Nat.add_one_sub_one, Nat.sub_self, Nat.reduceSub, Nat.reduceAdd, Option.some.injEq, exists_eq_left', exists_eq_left, exists_and_left, true_and, and_true, D.bl.injEq, D.int.injEq, D.str.injEq, D.tup.injEq, D.ref.injEq, Ob.lst.injEq, List.cons.injEq, fTup, if_true, if_false, ite_true, ite_false, Bool.false_eq_true, Bool.true_eq_false, reduceIte, Ob.ins.injEq, Ob.dic.injEq, usFor, uMeth, uProp, uLenI, uMake, uCMeth, uLc, vSeq, uA2, uA3, gNon, sup_same, sup_sup, dIx, dNot, dIsNot, Bool.not_true, Bool.not_false, uMakeH, uRepl, h.q, atI0, c_lf, c_em, c_zs, szT, List.length_nil, Nat.mul_zero, Nat.add_zero]
    refine ⟨by omega, fun p hp => ⟨p, _, rfl, sup_same, by omega, rfl, ?_⟩⟩
    rw [sup_sup]
    obtain ⟨h2, nq, nf, p0⟩ := h.new (o := .ins c.Disk (dsk ([48, 32] ++ sRepl x [10] [] ++ [10]) [])) hp
    have h2q := h2.q
    simp only [List.cons_append, List.nil_append] at h2q
    simp (disch := (try simp only [List.length_append, List.length_cons, List.length_nil]); omega) only [dAdd, dAddI, dSub, dEq, dNe, dLt, dLe, dGt, dGe, dIs, SL.isNon, dNeg, fLen, lenD, isTy, mLstrip, seqOf, tru, tyOf, Option.map_some, String.reduceEq, usNil, usSeq, usSet, usExpr, usRet, usRetN, usIf, usBrk, usCnt, usAug, usAsg, usDPut, usRaise, usSub, uVar, uC, uBin, uChain, uUn, uTru, uTb, uAnd, uOr, uNot, uAndV, uOrV, uNotV, uIte, uNil, uCons, uTup, uLst, uNoPart, uPart, uSl, vSl, uFn, gP, uIsi, uBM, uBM0, gM, gAppend, gPop, uCall, uA0, uA1, gId, gApp, isSeq, isRng, isRng2, uDGet, bodyE, startE, ugName, List.map_cons, List.map_nil, List.length_cons, List.length_nil, List.cons_append, List.nil_append, List.getElem?_cons_zero, List.getElem?_cons_succ, List.set_cons_zero, List.set_cons_succ, List.replicate, Nat.add_one_sub_one, Nat.sub_self, Nat.reduceSub, Nat.reduceAdd, Option.some.injEq, exists_eq_left', exists_eq_left, exists_and_left, true_and, and_true, D.bl.injEq, D.int.injEq, D.str.injEq, D.tup.injEq, D.ref.injEq, Ob.lst.injEq, List.cons.injEq, fTup, if_true, if_false, ite_true, ite_false, Bool.false_eq_true, Bool.true_eq_false, reduceIte, Ob.ins.injEq, Ob.dic.injEq, usFor, uMeth, uProp, uLenI, uMake, uCMeth, uLc, vSeq, uA2, uA3, gNon, sup_same, sup_sup, dIx, dNot, dIsNot, Bool.not_true, Bool.not_false, h2q, atI0, szT, exists_eq_left', true_and]
    refine ⟨by omega, fun p2 hp2 => ?_⟩
    obtain ⟨h3, nq2, nf2, p20⟩ := h2.new (o := .lst [.str ([48, 32] ++ sRepl x [10] [] ++ [10]), .str []]) hp2
    have hpp : p ≠ p2 := fun z => by rw [← z, sup_same] at hp2; cases hp2
    exact ⟨_, Le.refl _, q' p p2 _ _ _ h3.fl ⟨by rw [sup_ne hpp, sup_same], sup_same, newOk (t := sRepl x [10] []) (by omega)⟩ h3.kx p0 p20⟩
theorem nw2_of (ks : Ks K c) {S0 S : SS} {f cl q : Addr} {x y : List Nat} {e1 e2 e4 : Option D} {Q : QN} {X : QX} (h : Nw S0 S f cl q x y) (q' : NewQ c S0 f cl Q) :
    nw2 K c sp__law_take (sp_Disk___init__ c) (sp_Disk_of_places c) sp__law_present (sp_ls 6) (bodyE Q X) (nenv f q e1 e2 e4 none none none) S := by
  unfold nw2
  simp only [dAdd, dAddI, dSub, dEq, dNe, dLt, dLe, dGt, dGe, dIs, SL.isNon, dNeg, fLen, lenD, isTy, mLstrip, seqOf, tru, tyOf, Option.map_some, String.reduceEq, usNil, usSeq, usSet, usExpr, usRet, usRetN, usIf, usBrk, usCnt, usAug, usAsg, usDPut, usRaise, usSub, uVar, uC, uBin, uChain, uUn, uTru, uTb, uAnd, uOr, uNot, uAndV, uOrV, uNotV, uIte, uNil, uCons, uTup, uLst, uNoPart, uPart, uSl, vSl, uFn, gP, uIsi, uBM, uBM0, gM, gAppend, gPop, uCall, uA0, uA1, gId, gApp, isSeq, isRng, isRng2, uDGet, bodyE, startE, ugName, List.map_cons, List.map_nil, List.length_cons, List.length_nil, List.cons_append, List.nil_append, List.getElem?_cons_zero, List.getElem?_cons_succ, List.set_cons_zero, List.set_cons_succ, List.replicate, Nat.add_one_sub_one, Nat.sub_self, Nat.reduceSub, Nat.reduceAdd, Option.some.injEq, exists_eq_left', exists_eq_left, exists_and_left, true_and, and_true, D.bl.injEq, D.int.injEq, D.str.injEq, D.tup.injEq, D.ref.injEq, Ob.lst.injEq, List.cons.injEq, fTup, if_true, if_false, ite_true, ite_false, Bool.false_eq_true, Bool.true_eq_false, reduceIte, Ob.ins.injEq, Ob.dic.injEq, usFor, uMeth, uProp, uLenI, uMake, uCMeth, uLc, vSeq, uA2, uA3, gNon, sup_same, sup_sup, dIx, dNot, dIsNot, Bool.not_true, Bool.not_false, h.q]
  unfold nw3
  simp only [dAdd, dAddI, dSub, dEq, dNe, dLt, dLe, dGt, dGe, dIs, SL.isNon, dNeg, fLen, lenD, isTy, mLstrip, seqOf, tru, tyOf, Option.map_some, String.reduceEq, usNil, usSeq, usSet, usExpr, usRet, usRetN, usIf, usBrk, usCnt, usAug, usAsg, usDPut, usRaise, usSub, uVar, uC, uBin, uChain, uUn, uTru, uTb, uAnd, uOr, uNot, uAndV, uOrV, uNotV, uIte, uNil, uCons, uTup, uLst, uNoPart, uPart, uSl, vSl, uFn, gP, uIsi, uBM, uBM0, gM, gAppend, gPop, uCall, uA0, uA1, gId, gApp, isSeq, isRng, isRng2, uDGet, bodyE, startE, ugName, List.map_cons, List.map_nil, List.length_cons, List.length_nil, List.cons_append, List.nil_append, List.getElem?_cons_zero, List.getElem?_cons_succ, List.set_cons_zero, List.set_cons_succ, List.replicate, Nat.add_one_sub_one, Nat.sub_self, Nat.reduceSub, Nat.reduceAdd, Option.some.injEq, exists_eq_left', exists_eq_left, exists_and_left, true_and, and_true, D.bl.injEq, D.int.injEq, D.str.injEq, D.tup.injEq, D.ref.injEq, Ob.lst.injEq, List.cons.injEq, fTup, if_true, if_false, ite_true, ite_false, Bool.false_eq_true, Bool.true_eq_false, reduceIte, Ob.ins.injEq, Ob.dic.injEq, usFor, uMeth, uProp, uLenI, uMake, uCMeth, uLc, vSeq, uA2, uA3, gNon, sup_same, sup_sup, dIx, dNot, dIsNot, Bool.not_true, Bool.not_false]
  refine take_of h.fl (by decide) (by decide) fun r S1 r0 r1 hf1 hb1 => ?_
  have h1 := h.fl' hf1 hb1
  simp only [dAdd, dAddI, dSub, dEq, dNe, dLt, dLe, dGt, dGe, dIs, SL.isNon, dNeg, fLen, lenD, isTy, mLstrip, seqOf, tru, tyOf, Option.map_some, String.reduceEq, usNil, usSeq, usSet, usExpr, usRet, usRetN, usIf, usBrk, usCnt, usAug, usAsg, usDPut, usRaise, usSub, uVar, uC, uBin, uChain, uUn, uTru, uTb, uAnd, uOr, uNot, uAndV, uOrV, uNotV, uIte, uNil, uCons, uTup, uLst, uNoPart, uPart, uSl, vSl, uFn, gP, uIsi, uBM, uBM0, gM, gAppend, gPop, uCall, uA0, uA1, gId, gApp, isSeq, isRng, isRng2, uDGet, bodyE, startE, ugName, List.map_cons, List.map_nil, List.length_cons, List.length_nil, List.cons_append, List.nil_append, List.getElem?_cons_zero, List.getElem?_cons_succ, List.set_cons_zero, List.set_cons_succ, List.replicate, Nat.add_one_sub_one, Nat.sub_self, Nat.reduceSub, Nat.reduceAdd, Option.some.injEq, exists_eq_left', exists_eq_left, exists_and_left, true_and, and_true, D.bl.injEq, D.int.injEq, D.str.injEq, D.tup.injEq, D.ref.injEq, Ob.lst.injEq, List.cons.injEq, fTup, if_true, if_false, ite_true, ite_false, Bool.false_eq_true, Bool.true_eq_false, reduceIte, Ob.ins.injEq, Ob.dic.injEq, usFor, uMeth, uProp, uLenI, uMake, uCMeth, uLc, vSeq, uA2, uA3, gNon, sup_same, sup_sup, dIx, dNot, dIsNot, Bool.not_true, Bool.not_false]
  by_cases hr : (r == 0) = true
  · simp only [dAdd, dAddI, dSub, dEq, dNe, dLt, dLe, dGt, dGe, dIs, SL.isNon, dNeg, fLen, lenD, isTy, mLstrip, seqOf, tru, tyOf, Option.map_some, String.reduceEq, usNil, usSeq, usSet, usExpr, usRet, usRetN, usIf, usBrk, usCnt, usAug, usAsg, usDPut, usRaise, usSub, uVar, uC, uBin, uChain, uUn, uTru, uTb, uAnd, uOr, uNot, uAndV, uOrV, uNotV, uIte, uNil, uCons, uTup, uLst, uNoPart, uPart, uSl, vSl, uFn, gP, uIsi, uBM, uBM0, gM, gAppend, gPop, uCall, uA0, uA1, gId, gApp, isSeq, isRng, isRng2, uDGet, bodyE, startE, ugName, List.map_cons, List.map_nil, List.length_cons, List.length_nil, List.cons_append, List.nil_append, List.getElem?_cons_zero, List.getElem?_cons_succ, List.set_cons_zero, List.set_cons_succ, List.replicate, Nat.add_one_sub_one, Nat.sub_self, Nat.reduceSub, Nat.reduceAdd, Option.some.injEq, exists_eq_left', exists_eq_left, exists_and_left, true_and, and_true, D.bl.injEq, D.int.injEq, D.str.injEq, D.tup.injEq, D.ref.injEq, Ob.lst.injEq, List.cons.injEq, fTup, if_true, if_false, ite_true, ite_false, Bool.false_eq_true, Bool.true_eq_false, reduceIte, Ob.ins.injEq, Ob.dic.injEq, usFor, uMeth, uProp, uLenI, uMake, uCMeth, uLc, vSeq, uA2, uA3, gNon, sup_same, sup_sup, dIx, dNot, dIsNot, Bool.not_true, Bool.not_false, hr, SL.gLst, h1.q]
    intro p hp
    obtain ⟨h2, nq, nf, p0⟩ := h1.new (o := .lst [.str x, .str y]) hp
    exact nw4_of ks h2 (.inr ⟨p, rfl, sup_same, p0, nq.symm⟩) q'
  · simp only [dAdd, dAddI, dSub, dEq, dNe, dLt, dLe, dGt, dGe, dIs, SL.isNon, dNeg, fLen, lenD, isTy, mLstrip, seqOf, tru, tyOf, Option.map_some, String.reduceEq, usNil, usSeq, usSet, usExpr, usRet, usRetN, usIf, usBrk, usCnt, usAug, usAsg, usDPut, usRaise, usSub, uVar, uC, uBin, uChain, uUn, uTru, uTb, uAnd, uOr, uNot, uAndV, uOrV, uNotV, uIte, uNil, uCons, uTup, uLst, uNoPart, uPart, uSl, vSl, uFn, gP, uIsi, uBM, uBM0, gM, gAppend, gPop, uCall, uA0, uA1, gId, gApp, isSeq, isRng, isRng2, uDGet, bodyE, startE, ugName, List.map_cons, List.map_nil, List.length_cons, List.length_nil, List.cons_append, List.nil_append, List.getElem?_cons_zero, List.getElem?_cons_succ, List.set_cons_zero, List.set_cons_succ, List.replicate, Nat.add_one_sub_one, Nat.sub_self, Nat.reduceSub, Nat.reduceAdd, Option.some.injEq, exists_eq_left', exists_eq_left, exists_and_left, true_and, and_true, D.bl.injEq, D.int.injEq, D.str.injEq, D.tup.injEq, D.ref.injEq, Ob.lst.injEq, List.cons.injEq, fTup, if_true, if_false, ite_true, ite_false, Bool.false_eq_true, Bool.true_eq_false, reduceIte, Ob.ins.injEq, Ob.dic.injEq, usFor, uMeth, uProp, uLenI, uMake, uCMeth, uLc, vSeq, uA2, uA3, gNon, sup_same, sup_sup, dIx, dNot, dIsNot, Bool.not_true, Bool.not_false, hr]
    exact nw4_of ks h1 (.inl rfl) q'
theorem near_ok (S : SS) (k : Int) : ∃ z : Int, fMax S [.int 0, .int k] = some (.int z) ∧ ∃ nr : Int, fMin S [.int 900000000, .int z] = some (.int nr) ∧ 0 ≤ nr ∧ nr ≤ 900000000 := by
  simp only [fMax, fMin]
  refine ⟨_, rfl, _, rfl, ?_, ?_⟩ <;> split <;> split <;> omega
theorem nw0_of (ks : Ks K c) {S0 S : SS} {f cl : Addr} {e1 : Option D} {Q : QN} {X : QX} (h : Flw S f cl) (kx : KeepX S0 f S) (q' : NewQ c S0 f cl Q) :
    nw0 K c sp__law_take (sp_Disk___init__ c) sp__law_number sp__law_place (sp_Disk_of_places c) sp__law_present (sp_ls 6) (bodyE Q X) [some (.ref f), e1, none, none, none, none, none, none] S := by
  unfold nw0
  simp only [dAdd, dAddI, dSub, dEq, dNe, dLt, dLe, dGt, dGe, dIs, SL.isNon, dNeg, fLen, lenD, isTy, mLstrip, seqOf, tru, tyOf, Option.map_some, String.reduceEq, usNil, usSeq, usSet, usExpr, usRet, usRetN, usIf, usBrk, usCnt, usAug, usAsg, usDPut, usRaise, usSub, uVar, uC, uBin, uChain, uUn, uTru, uTb, uAnd, uOr, uNot, uAndV, uOrV, uNotV, uIte, uNil, uCons, uTup, uLst, uNoPart, uPart, uSl, vSl, uFn, gP, uIsi, uBM, uBM0, gM, gAppend, gPop, uCall, uA0, uA1, gId, gApp, isSeq, isRng, isRng2, uDGet, bodyE, startE, ugName, List.map_cons, List.map_nil, List.length_cons, List.length_nil, List.cons_append, List.nil_append, List.getElem?_cons_zero, List.getElem?_cons_succ, List.set_cons_zero, List.set_cons_succ, List.replicate, Nat.add_one_sub_one, Nat.sub_self, Nat.reduceSub, Nat.reduceAdd, Option.some.injEq, exists_eq_left', exists_eq_left, exists_and_left, true_and, and_true, D.bl.injEq, D.int.injEq, D.str.injEq, D.tup.injEq, D.ref.injEq, Ob.lst.injEq, List.cons.injEq, fTup, if_true, if_false, ite_true, ite_false, Bool.false_eq_true, Bool.true_eq_false, reduceIte, Ob.ins.injEq, Ob.dic.injEq, usFor, uMeth, uProp, uLenI, uMake, uCMeth, uLc, vSeq, uA2, uA3, gNon, sup_same, sup_sup, dIx, dNot, dIsNot, Bool.not_true, Bool.not_false]
  refine number_of h fun n S1 n0 n1 hf1 hb1 => ?_
  refine place_of hf1 n0 n1 fun x S2 hx hf2 hb2 => ?_
  refine place_of hf2 n0 n1 fun y S3 hy hf3 hb3 => ?_
  refine ⟨z2, fun q hq => ?_⟩
  have kx3 : KeepX S0 f S3 := ((kx.then hb1).then hb2).then hb3
  obtain ⟨n2, n3⟩ := hf3.fr hq
  have h4 : Nw S0 (SL.sup S3 q (.lst [.str x, .str y])) f cl q x y := ⟨hf3.new hq, kx3.new hq, kx3.none hq n2, sup_same, hx, hy⟩
  generalize SL.sup S3 q (.lst [.str x, .str y]) = S4 at *
  unfold nw1
  simp only [dAdd, dAddI, dSub, dEq, dNe, dLt, dLe, dGt, dGe, dIs, SL.isNon, dNeg, fLen, lenD, isTy, mLstrip, seqOf, tru, tyOf, Option.map_some, String.reduceEq, usNil, usSeq, usSet, usExpr, usRet, usRetN, usIf, usBrk, usCnt, usAug, usAsg, usDPut, usRaise, usSub, uVar, uC, uBin, uChain, uUn, uTru, uTb, uAnd, uOr, uNot, uAndV, uOrV, uNotV, uIte, uNil, uCons, uTup, uLst, uNoPart, uPart, uSl, vSl, uFn, gP, uIsi, uBM, uBM0, gM, gAppend, gPop, uCall, uA0, uA1, gId, gApp, isSeq, isRng, isRng2, uDGet, bodyE, startE, ugName, List.map_cons, List.map_nil, List.length_cons, List.length_nil, List.cons_append, List.nil_append, List.getElem?_cons_zero, List.getElem?_cons_succ, List.set_cons_zero, List.set_cons_succ, List.replicate, Nat.add_one_sub_one, Nat.sub_self, Nat.reduceSub, Nat.reduceAdd, Option.some.injEq, exists_eq_left', exists_eq_left, exists_and_left, true_and, and_true, D.bl.injEq, D.int.injEq, D.str.injEq, D.tup.injEq, D.ref.injEq, Ob.lst.injEq, List.cons.injEq, fTup, if_true, if_false, ite_true, ite_false, Bool.false_eq_true, Bool.true_eq_false, reduceIte, Ob.ins.injEq, Ob.dic.injEq, usFor, uMeth, uProp, uLenI, uMake, uCMeth, uLc, vSeq, uA2, uA3, gNon, sup_same, sup_sup, dIx, dNot, dIsNot, Bool.not_true, Bool.not_false]
  refine take_of h4.fl (by decide) (by decide) fun r S5 r0 r1 hf5 hb5 => ?_
  have h5 := h4.fl' hf5 hb5
  simp only [dAdd, dAddI, dSub, dEq, dNe, dLt, dLe, dGt, dGe, dIs, SL.isNon, dNeg, fLen, lenD, isTy, mLstrip, seqOf, tru, tyOf, Option.map_some, String.reduceEq, usNil, usSeq, usSet, usExpr, usRet, usRetN, usIf, usBrk, usCnt, usAug, usAsg, usDPut, usRaise, usSub, uVar, uC, uBin, uChain, uUn, uTru, uTb, uAnd, uOr, uNot, uAndV, uOrV, uNotV, uIte, uNil, uCons, uTup, uLst, uNoPart, uPart, uSl, vSl, uFn, gP, uIsi, uBM, uBM0, gM, gAppend, gPop, uCall, uA0, uA1, gId, gApp, isSeq, isRng, isRng2, uDGet, bodyE, startE, ugName, List.map_cons, List.map_nil, List.length_cons, List.length_nil, List.cons_append, List.nil_append, List.getElem?_cons_zero, List.getElem?_cons_succ, List.set_cons_zero, List.set_cons_succ, List.replicate, Nat.add_one_sub_one, Nat.sub_self, Nat.reduceSub, Nat.reduceAdd, Option.some.injEq, exists_eq_left', exists_eq_left, exists_and_left, true_and, and_true, D.bl.injEq, D.int.injEq, D.str.injEq, D.tup.injEq, D.ref.injEq, Ob.lst.injEq, List.cons.injEq, fTup, if_true, if_false, ite_true, ite_false, Bool.false_eq_true, Bool.true_eq_false, reduceIte, Ob.ins.injEq, Ob.dic.injEq, usFor, uMeth, uProp, uLenI, uMake, uCMeth, uLc, vSeq, uA2, uA3, gNon, sup_same, sup_sup, dIx, dNot, dIsNot, Bool.not_true, Bool.not_false]
  by_cases hr : (0 : Int) < r
  · simp only [dAdd, dAddI, dSub, dEq, dNe, dLt, dLe, dGt, dGe, dIs, SL.isNon, dNeg, fLen, lenD, isTy, mLstrip, seqOf, tru, tyOf, Option.map_some, String.reduceEq, usNil, usSeq, usSet, usExpr, usRet, usRetN, usIf, usBrk, usCnt, usAug, usAsg, usDPut, usRaise, usSub, uVar, uC, uBin, uChain, uUn, uTru, uTb, uAnd, uOr, uNot, uAndV, uOrV, uNotV, uIte, uNil, uCons, uTup, uLst, uNoPart, uPart, uSl, vSl, uFn, gP, uIsi, uBM, uBM0, gM, gAppend, gPop, uCall, uA0, uA1, gId, gApp, isSeq, isRng, isRng2, uDGet, bodyE, startE, ugName, List.map_cons, List.map_nil, List.length_cons, List.length_nil, List.cons_append, List.nil_append, List.getElem?_cons_zero, List.getElem?_cons_succ, List.set_cons_zero, List.set_cons_succ, List.replicate, Nat.add_one_sub_one, Nat.sub_self, Nat.reduceSub, Nat.reduceAdd, Option.some.injEq, exists_eq_left', exists_eq_left, exists_and_left, true_and, and_true, D.bl.injEq, D.int.injEq, D.str.injEq, D.tup.injEq, D.ref.injEq, Ob.lst.injEq, List.cons.injEq, fTup, if_true, if_false, ite_true, ite_false, Bool.false_eq_true, Bool.true_eq_false, reduceIte, Ob.ins.injEq, Ob.dic.injEq, usFor, uMeth, uProp, uLenI, uMake, uCMeth, uLc, vSeq, uA2, uA3, gNon, sup_same, sup_sup, dIx, dNot, dIsNot, Bool.not_true, Bool.not_false, decide_eq_true hr]
    refine ⟨z3, take_of h5.fl (by decide) (by decide) fun r2 S6 r20 r21 hf6 hb6 => ?_⟩
    have h6 := h5.fl' hf6 hb6
    obtain ⟨d, ed, hd⟩ := ix_tup (S := S6) (xs := [.int 1, .int (-1), .int 10]) r20 (by simpa using r21)
    simp only [dIx] at ed
    obtain ⟨m, rfl, m0, m1⟩ : ∃ m : Int, d = .int m ∧ -1 ≤ m ∧ m ≤ 10 := by
      simp only [List.mem_cons, List.not_mem_nil, or_false] at hd
      rcases hd with z | z | z <;> exact ⟨_, z, by decide, by decide⟩
    obtain ⟨w, ew, nr, er, w0, w1⟩ := near_ok S6 (n + m)
    simp only [dAdd, dAddI, dSub, dEq, dNe, dLt, dLe, dGt, dGe, dIs, SL.isNon, dNeg, fLen, lenD, isTy, mLstrip, seqOf, tru, tyOf, Option.map_some, String.reduceEq, usNil, usSeq, usSet, usExpr, usRet, usRetN, usIf, usBrk, usCnt, usAug, usAsg, usDPut, usRaise, usSub, uVar, uC, uBin, uChain, uUn, uTru, uTb, uAnd, uOr, uNot, uAndV, uOrV, uNotV, uIte, uNil, uCons, uTup, uLst, uNoPart, uPart, uSl, vSl, uFn, gP, uIsi, uBM, uBM0, gM, gAppend, gPop, uCall, uA0, uA1, gId, gApp, isSeq, isRng, isRng2, uDGet, bodyE, startE, ugName, List.map_cons, List.map_nil, List.length_cons, List.length_nil, List.cons_append, List.nil_append, List.getElem?_cons_zero, List.getElem?_cons_succ, List.set_cons_zero, List.set_cons_succ, List.replicate, Nat.add_one_sub_one, Nat.sub_self, Nat.reduceSub, Nat.reduceAdd, Option.some.injEq, exists_eq_left', exists_eq_left, exists_and_left, true_and, and_true, D.bl.injEq, D.int.injEq, D.str.injEq, D.tup.injEq, D.ref.injEq, Ob.lst.injEq, List.cons.injEq, fTup, if_true, if_false, ite_true, ite_false, Bool.false_eq_true, Bool.true_eq_false, reduceIte, Ob.ins.injEq, Ob.dic.injEq, usFor, uMeth, uProp, uLenI, uMake, uCMeth, uLc, vSeq, uA2, uA3, gNon, sup_same, sup_sup, dIx, dNot, dIsNot, Bool.not_true, Bool.not_false, ed, ew, er]
    refine number_of h6.fl fun n7 S7 n70 n71 hf7 hb7 => ?_
    have h7 := h6.fl' hf7 hb7
    refine ⟨z2, take_of h7.fl (by decide) (by decide) fun r3 S8 r30 r31 hf8 hb8 => ?_⟩
    have h8 := h7.fl' hf8 hb8
    obtain ⟨d2, ed2, hd2⟩ := ix_tup (S := S8) (xs := [.int nr, .int n7]) r30 (by simpa using r31)
    simp only [dIx] at ed2
    obtain ⟨m2, rfl, m20, m21⟩ : ∃ m : Int, d2 = .int m ∧ 0 ≤ m ∧ m ≤ 900000000 := by
      simp only [List.mem_cons, List.not_mem_nil, or_false] at hd2
      rcases hd2 with z | z
      · exact ⟨_, z, w0, w1⟩
      · exact ⟨_, z, n70, n71⟩
    simp only [dAdd, dAddI, dSub, dEq, dNe, dLt, dLe, dGt, dGe, dIs, SL.isNon, dNeg, fLen, lenD, isTy, mLstrip, seqOf, tru, tyOf, Option.map_some, String.reduceEq, usNil, usSeq, usSet, usExpr, usRet, usRetN, usIf, usBrk, usCnt, usAug, usAsg, usDPut, usRaise, usSub, uVar, uC, uBin, uChain, uUn, uTru, uTb, uAnd, uOr, uNot, uAndV, uOrV, uNotV, uIte, uNil, uCons, uTup, uLst, uNoPart, uPart, uSl, vSl, uFn, gP, uIsi, uBM, uBM0, gM, gAppend, gPop, uCall, uA0, uA1, gId, gApp, isSeq, isRng, isRng2, uDGet, bodyE, startE, ugName, List.map_cons, List.map_nil, List.length_cons, List.length_nil, List.cons_append, List.nil_append, List.getElem?_cons_zero, List.getElem?_cons_succ, List.set_cons_zero, List.set_cons_succ, List.replicate, Nat.add_one_sub_one, Nat.sub_self, Nat.reduceSub, Nat.reduceAdd, Option.some.injEq, exists_eq_left', exists_eq_left, exists_and_left, true_and, and_true, D.bl.injEq, D.int.injEq, D.str.injEq, D.tup.injEq, D.ref.injEq, Ob.lst.injEq, List.cons.injEq, fTup, if_true, if_false, ite_true, ite_false, Bool.false_eq_true, Bool.true_eq_false, reduceIte, Ob.ins.injEq, Ob.dic.injEq, usFor, uMeth, uProp, uLenI, uMake, uCMeth, uLc, vSeq, uA2, uA3, gNon, sup_same, sup_sup, dIx, dNot, dIsNot, Bool.not_true, Bool.not_false, ed2]
    refine place_of h8.fl m20 m21 fun y2 S9 hy2 hf9 hb9 => ?_
    have h9 := h8.fl' hf9 hb9
    have ix : ixN 2 1 = some 1 := rfl
    simp only [dAdd, dAddI, dSub, dEq, dNe, dLt, dLe, dGt, dGe, dIs, SL.isNon, dNeg, fLen, lenD, isTy, mLstrip, seqOf, tru, tyOf, Option.map_some, String.reduceEq, usNil, usSeq, usSet, usExpr, usRet, usRetN, usIf, usBrk, usCnt, usAug, usAsg, usDPut, usRaise, usSub, uVar, uC, uBin, uChain, uUn, uTru, uTb, uAnd, uOr, uNot, uAndV, uOrV, uNotV, uIte, uNil, uCons, uTup, uLst, uNoPart, uPart, uSl, vSl, uFn, gP, uIsi, uBM, uBM0, gM, gAppend, gPop, uCall, uA0, uA1, gId, gApp, isSeq, isRng, isRng2, uDGet, bodyE, startE, ugName, List.map_cons, List.map_nil, List.length_cons, List.length_nil, List.cons_append, List.nil_append, List.getElem?_cons_zero, List.getElem?_cons_succ, List.set_cons_zero, List.set_cons_succ, List.replicate, Nat.add_one_sub_one, Nat.sub_self, Nat.reduceSub, Nat.reduceAdd, Option.some.injEq, exists_eq_left', exists_eq_left, exists_and_left, true_and, and_true, D.bl.injEq, D.int.injEq, D.str.injEq, D.tup.injEq, D.ref.injEq, Ob.lst.injEq, List.cons.injEq, fTup, if_true, if_false, ite_true, ite_false, Bool.false_eq_true, Bool.true_eq_false, reduceIte, Ob.ins.injEq, Ob.dic.injEq, usFor, uMeth, uProp, uLenI, uMake, uCMeth, uLc, vSeq, uA2, uA3, gNon, sup_same, sup_sup, dIx, dNot, dIsNot, Bool.not_true, Bool.not_false, vSet, h9.q, ix]
    obtain ⟨c1, c2, c3, c4, c5, c6⟩ := h9
    have hqf : q ≠ f := fun z => by
      obtain ⟨a, g, t, e⟩ := c1.row
      rw [z, e] at c4; cases c4
    have hqc : cl ≠ q := fun z => by
      obtain ⟨xs, e, e0, _⟩ := c1.cells
      rw [z, c4] at e
      cases xs with
      | nil => exact e0 rfl
      | cons y ys => simp at e
    exact nw2_of ks (y := y2) ⟨c1.put hqf hqc, fun b o hb e => by rw [sup_ne (fun z => by rw [z, c3] at e; cases e)]; exact c2 b o hb e, c3, sup_same, c5, hy2⟩ q'
  · simp only [dAdd, dAddI, dSub, dEq, dNe, dLt, dLe, dGt, dGe, dIs, SL.isNon, dNeg, fLen, lenD, isTy, mLstrip, seqOf, tru, tyOf, Option.map_some, String.reduceEq, usNil, usSeq, usSet, usExpr, usRet, usRetN, usIf, usBrk, usCnt, usAug, usAsg, usDPut, usRaise, usSub, uVar, uC, uBin, uChain, uUn, uTru, uTb, uAnd, uOr, uNot, uAndV, uOrV, uNotV, uIte, uNil, uCons, uTup, uLst, uNoPart, uPart, uSl, vSl, uFn, gP, uIsi, uBM, uBM0, gM, gAppend, gPop, uCall, uA0, uA1, gId, gApp, isSeq, isRng, isRng2, uDGet, bodyE, startE, ugName, List.map_cons, List.map_nil, List.length_cons, List.length_nil, List.cons_append, List.nil_append, List.getElem?_cons_zero, List.getElem?_cons_succ, List.set_cons_zero, List.set_cons_succ, List.replicate, Nat.add_one_sub_one, Nat.sub_self, Nat.reduceSub, Nat.reduceAdd, Option.some.injEq, exists_eq_left', exists_eq_left, exists_and_left, true_and, and_true, D.bl.injEq, D.int.injEq, D.str.injEq, D.tup.injEq, D.ref.injEq, Ob.lst.injEq, List.cons.injEq, fTup, if_true, if_false, ite_true, ite_false, Bool.false_eq_true, Bool.true_eq_false, reduceIte, Ob.ins.injEq, Ob.dic.injEq, usFor, uMeth, uProp, uLenI, uMake, uCMeth, uLc, vSeq, uA2, uA3, gNon, sup_same, sup_sup, dIx, dNot, dIsNot, Bool.not_true, Bool.not_false, decide_eq_false hr]
    exact nw2_of ks h5 q'
theorem ok_law_new (ks : Ks K c) {ds : List D} {S : SS} {Q : QN} {X : QX} (h : sp__law_new c ds S Q X) : u__law_new K c sp__law_take sp__law_text (sp_Disk___init__ c) sp__law_number sp__law_place (sp_Disk_of_places c) sp__law_present (sp_ls 6) (bodyE Q X) (startE N__law_new ds) S := by
  obtain ⟨f, cl, rfl, hf, q'⟩ := h
  rw [nw_eq]
  simp only [dAdd, dAddI, dSub, dEq, dNe, dLt, dLe, dGt, dGe, dIs, SL.isNon, dNeg, fLen, lenD, isTy, mLstrip, seqOf, tru, tyOf, Option.map_some, String.reduceEq, usNil, usSeq, usSet, usExpr, usRet, usRetN, usIf, usBrk, usCnt, usAug, usAsg, usDPut, usRaise, usSub, uVar, uC, uBin, uChain, uUn, uTru, uTb, uAnd, uOr, uNot, uAndV, uOrV, uNotV, uIte, uNil, uCons, uTup, uLst, uNoPart, uPart, uSl, vSl, uFn, gP, uIsi, uBM, uBM0, gM, gAppend, gPop, uCall, uA0, uA1, gId, gApp, isSeq, isRng, isRng2, uDGet, bodyE, startE, ugName, List.map_cons, List.map_nil, List.length_cons, List.length_nil, List.cons_append, List.nil_append, List.getElem?_cons_zero, List.getElem?_cons_succ, List.set_cons_zero, List.set_cons_succ, List.replicate, Nat.add_one_sub_one, Nat.sub_self, Nat.reduceSub, Nat.reduceAdd, Option.some.injEq, exists_eq_left', exists_eq_left, exists_and_left, true_and, and_true, D.bl.injEq, D.int.injEq, D.str.injEq, D.tup.injEq, D.ref.injEq, Ob.lst.injEq, List.cons.injEq, fTup, if_true, if_false, ite_true, ite_false, Bool.false_eq_true, Bool.true_eq_false, reduceIte, Ob.ins.injEq, Ob.dic.injEq, usFor, uMeth, uProp, uLenI, uMake, uCMeth, uLc, vSeq, uA2, uA3, gNon, sup_same, sup_sup, dIx, dNot, dIsNot, Bool.not_true, Bool.not_false]
  refine take_of hf (by decide) (by decide) fun r S1 r0 r1 hf1 hb1 => ?_
  simp only [dAdd, dAddI, dSub, dEq, dNe, dLt, dLe, dGt, dGe, dIs, SL.isNon, dNeg, fLen, lenD, isTy, mLstrip, seqOf, tru, tyOf, Option.map_some, String.reduceEq, usNil, usSeq, usSet, usExpr, usRet, usRetN, usIf, usBrk, usCnt, usAug, usAsg, usDPut, usRaise, usSub, uVar, uC, uBin, uChain, uUn, uTru, uTb, uAnd, uOr, uNot, uAndV, uOrV, uNotV, uIte, uNil, uCons, uTup, uLst, uNoPart, uPart, uSl, vSl, uFn, gP, uIsi, uBM, uBM0, gM, gAppend, gPop, uCall, uA0, uA1, gId, gApp, isSeq, isRng, isRng2, uDGet, bodyE, startE, ugName, List.map_cons, List.map_nil, List.length_cons, List.length_nil, List.cons_append, List.nil_append, List.getElem?_cons_zero, List.getElem?_cons_succ, List.set_cons_zero, List.set_cons_succ, List.replicate, Nat.add_one_sub_one, Nat.sub_self, Nat.reduceSub, Nat.reduceAdd, Option.some.injEq, exists_eq_left', exists_eq_left, exists_and_left, true_and, and_true, D.bl.injEq, D.int.injEq, D.str.injEq, D.tup.injEq, D.ref.injEq, Ob.lst.injEq, List.cons.injEq, fTup, if_true, if_false, ite_true, ite_false, Bool.false_eq_true, Bool.true_eq_false, reduceIte, Ob.ins.injEq, Ob.dic.injEq, usFor, uMeth, uProp, uLenI, uMake, uCMeth, uLc, vSeq, uA2, uA3, gNon, sup_same, sup_sup, dIx, dNot, dIsNot, Bool.not_true, Bool.not_false]
  by_cases hr : (r == 0) = true
  · simp only [dAdd, dAddI, dSub, dEq, dNe, dLt, dLe, dGt, dGe, dIs, SL.isNon, dNeg, fLen, lenD, isTy, mLstrip, seqOf, tru, tyOf, Option.map_some, String.reduceEq, usNil, usSeq, usSet, usExpr, usRet, usRetN, usIf, usBrk, usCnt, usAug, usAsg, usDPut, usRaise, usSub, uVar, uC, uBin, uChain, uUn, uTru, uTb, uAnd, uOr, uNot, uAndV, uOrV, uNotV, uIte, uNil, uCons, uTup, uLst, uNoPart, uPart, uSl, vSl, uFn, gP, uIsi, uBM, uBM0, gM, gAppend, gPop, uCall, uA0, uA1, gId, gApp, isSeq, isRng, isRng2, uDGet, bodyE, startE, ugName, List.map_cons, List.map_nil, List.length_cons, List.length_nil, List.cons_append, List.nil_append, List.getElem?_cons_zero, List.getElem?_cons_succ, List.set_cons_zero, List.set_cons_succ, List.replicate, Nat.add_one_sub_one, Nat.sub_self, Nat.reduceSub, Nat.reduceAdd, Option.some.injEq, exists_eq_left', exists_eq_left, exists_and_left, true_and, and_true, D.bl.injEq, D.int.injEq, D.str.injEq, D.tup.injEq, D.ref.injEq, Ob.lst.injEq, List.cons.injEq, fTup, if_true, if_false, ite_true, ite_false, Bool.false_eq_true, Bool.true_eq_false, reduceIte, Ob.ins.injEq, Ob.dic.injEq, usFor, uMeth, uProp, uLenI, uMake, uCMeth, uLc, vSeq, uA2, uA3, gNon, sup_same, sup_sup, dIx, dNot, dIsNot, Bool.not_true, Bool.not_false, hr]
    refine text_of hf1 fun t S2 ht hf2 hb2 => ?_
    have ht1 := ht.1
    have kx2 : KeepX S f S2 := (KeepX.eq hb1).then hb2
    simp (disch := (try simp only [List.length_append, List.length_cons, List.length_nil]); omega) only [dAdd, dAddI, dSub, dEq, dNe, dLt, dLe, dGt, dGe, dIs, SL.isNon, dNeg, fLen, lenD, isTy, mLstrip, seqOf, tru, tyOf, Option.map_some, String.reduceEq, usNil, usSeq, usSet, usExpr, usRet, usRetN, usIf, usBrk, usCnt, usAug, usAsg, usDPut, usRaise, usSub, uVar, uC, uBin, uChain, uUn, uTru, uTb, uAnd, uOr, uNot, uAndV, uOrV, uNotV, uIte, uNil, uCons, uTup, uLst, uNoPart, uPart, uSl, vSl, uFn, gP, uIsi, uBM, uBM0, gM, gAppend, gPop, uCall, uA0, uA1, gId, gApp, isSeq, isRng, isRng2, uDGet, bodyE, startE, ugName, List.map_cons, List.map_nil, List.length_cons, List.length_nil, List.cons_append, List.nil_append, List.getElem?_cons_zero, List.getElem?_cons_succ, List.set_cons_zero, List.set_cons_succ, List.replicate, Nat.add_one_sub_one, Nat.sub_self, Nat.reduceSub, Nat.reduceAdd, Option.some.injEq, exists_eq_left', exists_eq_left, exists_and_left, true_and, and_true, D.bl.injEq, D.int.injEq, D.str.injEq, D.tup.injEq, D.ref.injEq, Ob.lst.injEq, List.cons.injEq, fTup, if_true, if_false, ite_true, ite_false, Bool.false_eq_true, Bool.true_eq_false, reduceIte, Ob.ins.injEq, Ob.dic.injEq, usFor, uMeth, uProp, uLenI, uMake, uCMeth, uLc, vSeq, uA2, uA3, gNon, sup_same, sup_sup, dIx, dNot, dIsNot, Bool.not_true, Bool.not_false, c_zs, c_lf, c_em, szT]
    refine fun p hp => ⟨p, _, rfl, sup_same, by omega, rfl, ?_⟩
    rw [sup_sup]
    obtain ⟨g1, g2⟩ := hf2.fr hp
    have hf3 := hf2.new (o := .ins c.Disk (dsk ([48, 32] ++ t ++ [10]) [])) hp
    have kx3 := kx2.new (o := .ins c.Disk (dsk ([48, 32] ++ t ++ [10]) [])) hp
    simp (disch := (try simp only [List.length_append, List.length_cons, List.length_nil]); omega) only [dAdd, dAddI, dSub, dEq, dNe, dLt, dLe, dGt, dGe, dIs, SL.isNon, dNeg, fLen, lenD, isTy, mLstrip, seqOf, tru, tyOf, Option.map_some, String.reduceEq, usNil, usSeq, usSet, usExpr, usRet, usRetN, usIf, usBrk, usCnt, usAug, usAsg, usDPut, usRaise, usSub, uVar, uC, uBin, uChain, uUn, uTru, uTb, uAnd, uOr, uNot, uAndV, uOrV, uNotV, uIte, uNil, uCons, uTup, uLst, uNoPart, uPart, uSl, vSl, uFn, gP, uIsi, uBM, uBM0, gM, gAppend, gPop, uCall, uA0, uA1, gId, gApp, isSeq, isRng, isRng2, uDGet, bodyE, startE, ugName, List.map_cons, List.map_nil, List.length_cons, List.length_nil, List.cons_append, List.nil_append, List.getElem?_cons_zero, List.getElem?_cons_succ, List.set_cons_zero, List.set_cons_succ, List.replicate, Nat.add_one_sub_one, Nat.sub_self, Nat.reduceSub, Nat.reduceAdd, Option.some.injEq, exists_eq_left', exists_eq_left, exists_and_left, true_and, and_true, D.bl.injEq, D.int.injEq, D.str.injEq, D.tup.injEq, D.ref.injEq, Ob.lst.injEq, List.cons.injEq, fTup, if_true, if_false, ite_true, ite_false, Bool.false_eq_true, Bool.true_eq_false, reduceIte, Ob.ins.injEq, Ob.dic.injEq, usFor, uMeth, uProp, uLenI, uMake, uCMeth, uLc, vSeq, uA2, uA3, gNon, sup_same, sup_sup, dIx, dNot, dIsNot, Bool.not_true, Bool.not_false, szT]
    intro p2 hp2
    obtain ⟨g3, g4⟩ := hf3.fr hp2
    have hpp : p ≠ p2 := fun z => by rw [← z, sup_same] at hp2; cases hp2
    exact ⟨_, Le.refl _, q' p p2 _ _ _ (hf3.new hp2) ⟨by rw [sup_ne hpp, sup_same], sup_same, newOk (by omega)⟩ (kx3.new hp2) (kx2.none hp g1) (kx3.none hp2 g3)⟩
  · simp only [dAdd, dAddI, dSub, dEq, dNe, dLt, dLe, dGt, dGe, dIs, SL.isNon, dNeg, fLen, lenD, isTy, mLstrip, seqOf, tru, tyOf, Option.map_some, String.reduceEq, usNil, usSeq, usSet, usExpr, usRet, usRetN, usIf, usBrk, usCnt, usAug, usAsg, usDPut, usRaise, usSub, uVar, uC, uBin, uChain, uUn, uTru, uTb, uAnd, uOr, uNot, uAndV, uOrV, uNotV, uIte, uNil, uCons, uTup, uLst, uNoPart, uPart, uSl, vSl, uFn, gP, uIsi, uBM, uBM0, gM, gAppend, gPop, uCall, uA0, uA1, gId, gApp, isSeq, isRng, isRng2, uDGet, bodyE, startE, ugName, List.map_cons, List.map_nil, List.length_cons, List.length_nil, List.cons_append, List.nil_append, List.getElem?_cons_zero, List.getElem?_cons_succ, List.set_cons_zero, List.set_cons_succ, List.replicate, Nat.add_one_sub_one, Nat.sub_self, Nat.reduceSub, Nat.reduceAdd, Option.some.injEq, exists_eq_left', exists_eq_left, exists_and_left, true_and, and_true, D.bl.injEq, D.int.injEq, D.str.injEq, D.tup.injEq, D.ref.injEq, Ob.lst.injEq, List.cons.injEq, fTup, if_true, if_false, ite_true, ite_false, Bool.false_eq_true, Bool.true_eq_false, reduceIte, Ob.ins.injEq, Ob.dic.injEq, usFor, uMeth, uProp, uLenI, uMake, uCMeth, uLc, vSeq, uA2, uA3, gNon, sup_same, sup_sup, dIx, dNot, dIsNot, Bool.not_true, Bool.not_false, hr]
    exact nw0_of ks hf1 (KeepX.eq hb1) q'
end K82

set_option Elab.async false
set_option linter.all false
set_option maxRecDepth 100000
set_option maxHeartbeats 4000000
namespace K82
open PySem PySem.Spec L2 SL NumText
variable {K : PySem.W.Frag} {c : Cs}
def lwB0 (sp__law_write : FS) (sp__law_mend : FS) (sp__law_close : FS) : US := (usSeq (usIf (uAnd (uTb (uBin dLt (uVar 6) (uC (.int 3)))) (uNot (uTru (uCall (sp__law_write) gId (uA1 3 (uCons (uVar 1) (uCons (uBin dIx (uVar 5) (uC (.int 0))) (uCons (uBin dIx (uVar 5) (uC (.int 1))) uNil)))))))) (usRet (uC (.bl false))) usNil) (usSeq (usIf (uAnd (uTb (uBin dEq (uVar 6) (uC (.int 3)))) (uNot (uTru (uCall (sp__law_mend) gId (uA1 2 (uCons (uBin dIx (uVar 5) (uC (.int 0))) (uCons (uBin dIx (uVar 5) (uC (.int 1))) uNil))))))) (usRet (uC (.bl false))) usNil) (usIf (uAnd (uTb (uBin dGt (uVar 6) (uC (.int 3)))) (uNot (uTru (uCall (sp__law_close) gId (uA1 3 (uCons (uVar 1) (uCons (uBin dIx (uVar 5) (uC (.int 0))) (uCons (uBin dIx (uVar 5) (uC (.int 1))) uNil)))))))) (usRet (uC (.bl false))) usNil)))
def lwB (sp__law_take : FS) (sp__law_is : FS) (sp__law_write : FS) (sp__law_mend : FS) (sp__law_close : FS) : US := (usSeq (usIf (uOr (uNot (uTru (uCall (sp__law_is) gId (uA1 2 (uCons (uBin dIx (uVar 2) (uC (.int 0))) (uCons (uBin dIx (uVar 2) (uC (.int 1))) uNil)))))) (uNot (uTru (uCall (sp__law_is) gId (uA1 2 (uCons (uBin dIx (uVar 3) (uC (.int 0))) (uCons (uBin dIx (uVar 3) (uC (.int 1))) uNil))))))) (usRet (uC (.bl false))) usNil) (usSeq (usSet 5 (uBin dIx (uTup (uCons (uVar 2) (uCons (uVar 3) uNil))) (uCall (sp__law_take) gId (uA1 2 (uCons (uVar 1) (uCons (uC (.int 2)) uNil)))))) (usSeq (usSet 6 (uCall (sp__law_take) gId (uA1 2 (uCons (uVar 1) (uCons (uC (.int 6)) uNil))))) (lwB0 sp__law_write sp__law_mend sp__law_close))))
def lwE (sp__law_is : FS) : US := (usRet (uAndV (uCall (sp__law_is) gId (uA1 2 (uCons (uBin dIx (uVar 2) (uC (.int 0))) (uCons (uBin dIx (uVar 2) (uC (.int 1))) uNil)))) (uCall (sp__law_is) gId (uA1 2 (uCons (uBin dIx (uVar 3) (uC (.int 0))) (uCons (uBin dIx (uVar 3) (uC (.int 1))) uNil))))))
def lwF (sp__law_take : FS) (sp__law_is : FS) (sp__law_write : FS) (sp__law_mend : FS) (sp__law_close : FS) : US := (usSeq (usFor (isRng (uBin dAdd (uC (.int 1)) (uCall (sp__law_take) gId (uA1 2 (uCons (uVar 1) (uCons (uC (.int 24)) uNil)))))) (ugName 4) (lwB sp__law_take sp__law_is sp__law_write sp__law_mend sp__law_close)) (lwE sp__law_is))
theorem lw_eq {K : PySem.W.Frag} {c : Cs} {sp__law_flow : FS} {sp__law_new : FS} {sp__law_take : FS} {sp__law_is : FS} {sp__law_write : FS} {sp__law_mend : FS} {sp__law_close : FS} : u_law K c sp__law_flow sp__law_new sp__law_take sp__law_is sp__law_write sp__law_mend sp__law_close = (usSeq (usSet 1 (uCall (sp__law_flow) gId (uA1 1 (uCons (uVar 0) uNil)))) (usTry K (.ref c.ShopError) (usSeq (usSet 2 (uCall (sp__law_new) gId (uA1 1 (uCons (uVar 1) uNil)))) (usSeq (usSet 3 (uCall (sp__law_new) gId (uA1 1 (uCons (uVar 1) uNil)))) (usSeq (usIf (uOr (uTb (uBin dIs (uVar 2) (uC .non))) (uTb (uBin dIs (uVar 3) (uC .non)))) (usRet (uC (.bl false))) usNil) (lwF sp__law_take sp__law_is sp__law_write sp__law_mend sp__law_close)))) (fun a cls d => (usRet (uC (.bl false)))))) := rfl

theorem Pr.up {S : SS} {d p : Addr} {M M' : Int} {L L' : Nat} {a b : List Nat} (h : Pr c S d p M L a b) (h1 : M ≤ M') (h2 : L ≤ L') : Pr c S d p M' L' a b := ⟨h.d, h.p, h.ok.ok, h.ok.l.up h1 h2, h.ok.r.up h1 h2⟩
theorem Pr.nn {S : SS} {d p d2 p2 : Addr} {M M2 : Int} {L L2 : Nat} {a b a2 b2 : List Nat} (h : Pr c S d p M L a b) (h2 : Pr c S d2 p2 M2 L2 a2 b2) : d ≠ p2 := fun z => by
  have := h.d
  rw [z, h2.p] at this; cases this
def MM (k : Nat) : Int := 900000000 + k
def LL (k : Nat) : Nat := 1000 + 100 * k
structure Two (c : Cs) (S : SS) (f cl d1 p1 d2 p2 : Addr) (k : Nat) : Prop where
  fl : Flw S f cl
  o : ∃ a b, Pr c S d1 p1 (MM k) (LL k) a b
  t : ∃ a b, Pr c S d2 p2 (MM k) (LL k) a b
  nd : d1 ≠ d2
  np : p1 ≠ p2
def sp_law : FS := fun ds S Q X => ∃ sd, ∃ ns : List Int, ds = [sd] ∧ Scr S sd ns ∧ ∀ S', Q (.bl true) S'
theorem deed_of {S : SS} {f cl d p : Addr} {k : Nat} {r : Int} {e0 e2 e3 e4 : Option D} {a b : List Nat} {Z : EndsS} (hf : Flw S f cl) (hp : Pr c S d p (MM k) (LL k) a b) (hk : k ≤ 30) (r0 : 0 ≤ r)
    (q : ∀ a' b' S', Flw S' f cl → Pr c S' d p (MM (k + 1)) (LL (k + 1)) a' b' → (∀ x, x ≠ f → x ≠ d → x ≠ p → S' x = S x) → Z.nx [e0, some (.ref f), e2, e3, e4, some (.tup [.ref d, .ref p]), some (.int r)] S') :
    lwB0 (sp__law_write c) (sp__law_mend c) (sp__law_close c) Z [e0, some (.ref f), e2, e3, e4, some (.tup [.ref d, .ref p]), some (.int r)] S := by
  have hL : LL k ≤ 50000 := by unfold LL; omega
  have hM : MM k < 999999990 := by unfold MM; omega
  have hM1 : MM (k + 1) = MM k + 1 := by unfold MM; omega
  have hL1 : LL (k + 1) = LL k + 100 := by unfold LL; omega
  obtain ⟨hdp, hdf, hpf, hdc, hpc⟩ := hp.ne hf
  rw [hM1, hL1] at q
  unfold lwB0
  by_cases h1 : r < 3
  · have h2 : (r == 3) = false := by rw [beq_eq_false_iff_ne]; omega
    have h3 : ¬ 3 < r := by omega
    simp only [dAdd, dAddI, dSub, dEq, dNe, dLt, dLe, dGt, dGe, dIs, SL.isNon, dNeg, fLen, lenD, isTy, mLstrip, seqOf, tru, tyOf, Option.map_some, String.reduceEq, usNil, usSeq, usSet, usExpr, usRet, usRetN, usIf, usBrk, usCnt, usAug, usAsg, usDPut, usRaise, usSub, uVar, uC, uBin, uChain, uUn, uTru, uTb, uAnd, uOr, uNot, uAndV, uOrV, uNotV, uIte, uNil, uCons, uTup, uLst, uNoPart, uPart, uSl, vSl, uFn, gP, uIsi, uBM, uBM0, gM, gAppend, gPop, uCall, uA0, uA1, gId, gApp, isSeq, isRng, isRng2, uDGet, bodyE, startE, ugName, List.map_cons, List.map_nil, List.length_cons, List.length_nil, List.cons_append, List.nil_append, List.getElem?_cons_zero, List.getElem?_cons_succ, List.set_cons_zero, List.set_cons_succ, List.replicate, Nat.add_one_sub_one, Nat.sub_self, Nat.reduceSub, Nat.reduceAdd, Option.some.injEq, exists_eq_left', exists_eq_left, exists_and_left, true_and, and_true, D.bl.injEq, D.int.injEq, D.str.injEq, D.tup.injEq, D.ref.injEq, Ob.lst.injEq, List.cons.injEq, fTup, if_true, if_false, ite_true, ite_false, Bool.false_eq_true, Bool.true_eq_false, reduceIte, Ob.ins.injEq, Ob.dic.injEq, usFor, uMeth, uProp, uLenI, uMake, uCMeth, uLc, vSeq, uA2, uA3, gNon, sup_same, sup_sup, dIx, dNot, dIsNot, Bool.not_true, Bool.not_false, decide_eq_true h1, h2, decide_eq_false h3, atI0, atI1]
    refine ⟨f, cl, d, p, _, _, a, b, rfl, hf, hp, hL, fun a' b' S' g1 g2 g3 => ?_⟩
    simp only [dAdd, dAddI, dSub, dEq, dNe, dLt, dLe, dGt, dGe, dIs, SL.isNon, dNeg, fLen, lenD, isTy, mLstrip, seqOf, tru, tyOf, Option.map_some, String.reduceEq, usNil, usSeq, usSet, usExpr, usRet, usRetN, usIf, usBrk, usCnt, usAug, usAsg, usDPut, usRaise, usSub, uVar, uC, uBin, uChain, uUn, uTru, uTb, uAnd, uOr, uNot, uAndV, uOrV, uNotV, uIte, uNil, uCons, uTup, uLst, uNoPart, uPart, uSl, vSl, uFn, gP, uIsi, uBM, uBM0, gM, gAppend, gPop, uCall, uA0, uA1, gId, gApp, isSeq, isRng, isRng2, uDGet, bodyE, startE, ugName, List.map_cons, List.map_nil, List.length_cons, List.length_nil, List.cons_append, List.nil_append, List.getElem?_cons_zero, List.getElem?_cons_succ, List.set_cons_zero, List.set_cons_succ, List.replicate, Nat.add_one_sub_one, Nat.sub_self, Nat.reduceSub, Nat.reduceAdd, Option.some.injEq, exists_eq_left', exists_eq_left, exists_and_left, true_and, and_true, D.bl.injEq, D.int.injEq, D.str.injEq, D.tup.injEq, D.ref.injEq, Ob.lst.injEq, List.cons.injEq, fTup, if_true, if_false, ite_true, ite_false, Bool.false_eq_true, Bool.true_eq_false, reduceIte, Ob.ins.injEq, Ob.dic.injEq, usFor, uMeth, uProp, uLenI, uMake, uCMeth, uLc, vSeq, uA2, uA3, gNon, sup_same, sup_sup, dIx, dNot, dIsNot, Bool.not_true, Bool.not_false, h2, decide_eq_false h3]
    exact q a' b' S' g1 (g2.up (M' := MM k + 1) (L' := LL k + 100) (by omega) (Nat.le_refl _)) g3
  · by_cases h2 : (r == 3) = true
    · have h3 : ¬ 3 < r := by have := beq_iff_eq.mp h2; omega
      simp only [dAdd, dAddI, dSub, dEq, dNe, dLt, dLe, dGt, dGe, dIs, SL.isNon, dNeg, fLen, lenD, isTy, mLstrip, seqOf, tru, tyOf, Option.map_some, String.reduceEq, usNil, usSeq, usSet, usExpr, usRet, usRetN, usIf, usBrk, usCnt, usAug, usAsg, usDPut, usRaise, usSub, uVar, uC, uBin, uChain, uUn, uTru, uTb, uAnd, uOr, uNot, uAndV, uOrV, uNotV, uIte, uNil, uCons, uTup, uLst, uNoPart, uPart, uSl, vSl, uFn, gP, uIsi, uBM, uBM0, gM, gAppend, gPop, uCall, uA0, uA1, gId, gApp, isSeq, isRng, isRng2, uDGet, bodyE, startE, ugName, List.map_cons, List.map_nil, List.length_cons, List.length_nil, List.cons_append, List.nil_append, List.getElem?_cons_zero, List.getElem?_cons_succ, List.set_cons_zero, List.set_cons_succ, List.replicate, Nat.add_one_sub_one, Nat.sub_self, Nat.reduceSub, Nat.reduceAdd, Option.some.injEq, exists_eq_left', exists_eq_left, exists_and_left, true_and, and_true, D.bl.injEq, D.int.injEq, D.str.injEq, D.tup.injEq, D.ref.injEq, Ob.lst.injEq, List.cons.injEq, fTup, if_true, if_false, ite_true, ite_false, Bool.false_eq_true, Bool.true_eq_false, reduceIte, Ob.ins.injEq, Ob.dic.injEq, usFor, uMeth, uProp, uLenI, uMake, uCMeth, uLc, vSeq, uA2, uA3, gNon, sup_same, sup_sup, dIx, dNot, dIsNot, Bool.not_true, Bool.not_false, decide_eq_false h1, h2, decide_eq_false h3, atI0, atI1]
      refine ⟨d, p, _, _, a, b, rfl, hp, hL, fun a' b' S' g2 g3 => ?_⟩
      simp only [dAdd, dAddI, dSub, dEq, dNe, dLt, dLe, dGt, dGe, dIs, SL.isNon, dNeg, fLen, lenD, isTy, mLstrip, seqOf, tru, tyOf, Option.map_some, String.reduceEq, usNil, usSeq, usSet, usExpr, usRet, usRetN, usIf, usBrk, usCnt, usAug, usAsg, usDPut, usRaise, usSub, uVar, uC, uBin, uChain, uUn, uTru, uTb, uAnd, uOr, uNot, uAndV, uOrV, uNotV, uIte, uNil, uCons, uTup, uLst, uNoPart, uPart, uSl, vSl, uFn, gP, uIsi, uBM, uBM0, gM, gAppend, gPop, uCall, uA0, uA1, gId, gApp, isSeq, isRng, isRng2, uDGet, bodyE, startE, ugName, List.map_cons, List.map_nil, List.length_cons, List.length_nil, List.cons_append, List.nil_append, List.getElem?_cons_zero, List.getElem?_cons_succ, List.set_cons_zero, List.set_cons_succ, List.replicate, Nat.add_one_sub_one, Nat.sub_self, Nat.reduceSub, Nat.reduceAdd, Option.some.injEq, exists_eq_left', exists_eq_left, exists_and_left, true_and, and_true, D.bl.injEq, D.int.injEq, D.str.injEq, D.tup.injEq, D.ref.injEq, Ob.lst.injEq, List.cons.injEq, fTup, if_true, if_false, ite_true, ite_false, Bool.false_eq_true, Bool.true_eq_false, reduceIte, Ob.ins.injEq, Ob.dic.injEq, usFor, uMeth, uProp, uLenI, uMake, uCMeth, uLc, vSeq, uA2, uA3, gNon, sup_same, sup_sup, dIx, dNot, dIsNot, Bool.not_true, Bool.not_false, decide_eq_false h3]
      exact q a' b' S' (hf.keep (g3 f hdf.symm hpf.symm) (g3 cl hdc.symm hpc.symm)) (g2.up (M' := MM k + 1) (L' := LL k + 100) (by omega) (by omega)) fun x _ h4 h5 => g3 x h4 h5
    · have h3 : 3 < r := by
        have hz : r ≠ 3 := fun z => h2 (beq_iff_eq.mpr z)
        omega
      simp only [dAdd, dAddI, dSub, dEq, dNe, dLt, dLe, dGt, dGe, dIs, SL.isNon, dNeg, fLen, lenD, isTy, mLstrip, seqOf, tru, tyOf, Option.map_some, String.reduceEq, usNil, usSeq, usSet, usExpr, usRet, usRetN, usIf, usBrk, usCnt, usAug, usAsg, usDPut, usRaise, usSub, uVar, uC, uBin, uChain, uUn, uTru, uTb, uAnd, uOr, uNot, uAndV, uOrV, uNotV, uIte, uNil, uCons, uTup, uLst, uNoPart, uPart, uSl, vSl, uFn, gP, uIsi, uBM, uBM0, gM, gAppend, gPop, uCall, uA0, uA1, gId, gApp, isSeq, isRng, isRng2, uDGet, bodyE, startE, ugName, List.map_cons, List.map_nil, List.length_cons, List.length_nil, List.cons_append, List.nil_append, List.getElem?_cons_zero, List.getElem?_cons_succ, List.set_cons_zero, List.set_cons_succ, List.replicate, Nat.add_one_sub_one, Nat.sub_self, Nat.reduceSub, Nat.reduceAdd, Option.some.injEq, exists_eq_left', exists_eq_left, exists_and_left, true_and, and_true, D.bl.injEq, D.int.injEq, D.str.injEq, D.tup.injEq, D.ref.injEq, Ob.lst.injEq, List.cons.injEq, fTup, if_true, if_false, ite_true, ite_false, Bool.false_eq_true, Bool.true_eq_false, reduceIte, Ob.ins.injEq, Ob.dic.injEq, usFor, uMeth, uProp, uLenI, uMake, uCMeth, uLc, vSeq, uA2, uA3, gNon, sup_same, sup_sup, dIx, dNot, dIsNot, Bool.not_true, Bool.not_false, decide_eq_false h1, h2, decide_eq_true h3, atI0, atI1]
      refine ⟨f, cl, d, p, _, _, a, b, rfl, hf, hp, hL, hM, fun a' b' S' g1 g2 g3 => ?_⟩
      simp only [dAdd, dAddI, dSub, dEq, dNe, dLt, dLe, dGt, dGe, dIs, SL.isNon, dNeg, fLen, lenD, isTy, mLstrip, seqOf, tru, tyOf, Option.map_some, String.reduceEq, usNil, usSeq, usSet, usExpr, usRet, usRetN, usIf, usBrk, usCnt, usAug, usAsg, usDPut, usRaise, usSub, uVar, uC, uBin, uChain, uUn, uTru, uTb, uAnd, uOr, uNot, uAndV, uOrV, uNotV, uIte, uNil, uCons, uTup, uLst, uNoPart, uPart, uSl, vSl, uFn, gP, uIsi, uBM, uBM0, gM, gAppend, gPop, uCall, uA0, uA1, gId, gApp, isSeq, isRng, isRng2, uDGet, bodyE, startE, ugName, List.map_cons, List.map_nil, List.length_cons, List.length_nil, List.cons_append, List.nil_append, List.getElem?_cons_zero, List.getElem?_cons_succ, List.set_cons_zero, List.set_cons_succ, List.replicate, Nat.add_one_sub_one, Nat.sub_self, Nat.reduceSub, Nat.reduceAdd, Option.some.injEq, exists_eq_left', exists_eq_left, exists_and_left, true_and, and_true, D.bl.injEq, D.int.injEq, D.str.injEq, D.tup.injEq, D.ref.injEq, Ob.lst.injEq, List.cons.injEq, fTup, if_true, if_false, ite_true, ite_false, Bool.false_eq_true, Bool.true_eq_false, reduceIte, Ob.ins.injEq, Ob.dic.injEq, usFor, uMeth, uProp, uLenI, uMake, uCMeth, uLc, vSeq, uA2, uA3, gNon, sup_same, sup_sup, dIx, dNot, dIsNot, Bool.not_true, Bool.not_false]
      exact q a' b' S' g1 g2 g3
theorem turn_of {S : SS} {f cl d1 p1 d2 p2 : Addr} {k : Nat} {e0 e4 e5 e6 : Option D} {Z : EndsS} (h : Two c S f cl d1 p1 d2 p2 k) (hk : k ≤ 30)
    (q : ∀ e5 e6 S', Two c S' f cl d1 p1 d2 p2 (k + 1) → Z.nx [e0, some (.ref f), some (.tup [.ref d1, .ref p1]), some (.tup [.ref d2, .ref p2]), e4, e5, e6] S') :
    lwB sp__law_take (sp__law_is c) (sp__law_write c) (sp__law_mend c) (sp__law_close c) Z [e0, some (.ref f), some (.tup [.ref d1, .ref p1]), some (.tup [.ref d2, .ref p2]), e4, e5, e6] S := by
  have hL : LL k ≤ 50000 := by unfold LL; omega
  have hM1 : MM k ≤ MM (k + 1) := by unfold MM; omega
  have hL1 : LL k ≤ LL (k + 1) := by unfold LL; omega
  obtain ⟨hf, ⟨a1, b1, h1⟩, ⟨a2, b2, h2⟩, nd, np⟩ := h
  unfold lwB
  simp only [dAdd, dAddI, dSub, dEq, dNe, dLt, dLe, dGt, dGe, dIs, SL.isNon, dNeg, fLen, lenD, isTy, mLstrip, seqOf, tru, tyOf, Option.map_some, String.reduceEq, usNil, usSeq, usSet, usExpr, usRet, usRetN, usIf, usBrk, usCnt, usAug, usAsg, usDPut, usRaise, usSub, uVar, uC, uBin, uChain, uUn, uTru, uTb, uAnd, uOr, uNot, uAndV, uOrV, uNotV, uIte, uNil, uCons, uTup, uLst, uNoPart, uPart, uSl, vSl, uFn, gP, uIsi, uBM, uBM0, gM, gAppend, gPop, uCall, uA0, uA1, gId, gApp, isSeq, isRng, isRng2, uDGet, bodyE, startE, ugName, List.map_cons, List.map_nil, List.length_cons, List.length_nil, List.cons_append, List.nil_append, List.getElem?_cons_zero, List.getElem?_cons_succ, List.set_cons_zero, List.set_cons_succ, List.replicate, Nat.add_one_sub_one, Nat.sub_self, Nat.reduceSub, Nat.reduceAdd, Option.some.injEq, exists_eq_left', exists_eq_left, exists_and_left, true_and, and_true, D.bl.injEq, D.int.injEq, D.str.injEq, D.tup.injEq, D.ref.injEq, Ob.lst.injEq, List.cons.injEq, fTup, if_true, if_false, ite_true, ite_false, Bool.false_eq_true, Bool.true_eq_false, reduceIte, Ob.ins.injEq, Ob.dic.injEq, usFor, uMeth, uProp, uLenI, uMake, uCMeth, uLc, vSeq, uA2, uA3, gNon, sup_same, sup_sup, dIx, dNot, dIsNot, Bool.not_true, Bool.not_false, atI0, atI1]
  refine ⟨d1, p1, _, _, a1, b1, rfl, h1, hL, ?_⟩
  simp only [dAdd, dAddI, dSub, dEq, dNe, dLt, dLe, dGt, dGe, dIs, SL.isNon, dNeg, fLen, lenD, isTy, mLstrip, seqOf, tru, tyOf, Option.map_some, String.reduceEq, usNil, usSeq, usSet, usExpr, usRet, usRetN, usIf, usBrk, usCnt, usAug, usAsg, usDPut, usRaise, usSub, uVar, uC, uBin, uChain, uUn, uTru, uTb, uAnd, uOr, uNot, uAndV, uOrV, uNotV, uIte, uNil, uCons, uTup, uLst, uNoPart, uPart, uSl, vSl, uFn, gP, uIsi, uBM, uBM0, gM, gAppend, gPop, uCall, uA0, uA1, gId, gApp, isSeq, isRng, isRng2, uDGet, bodyE, startE, ugName, List.map_cons, List.map_nil, List.length_cons, List.length_nil, List.cons_append, List.nil_append, List.getElem?_cons_zero, List.getElem?_cons_succ, List.set_cons_zero, List.set_cons_succ, List.replicate, Nat.add_one_sub_one, Nat.sub_self, Nat.reduceSub, Nat.reduceAdd, Option.some.injEq, exists_eq_left', exists_eq_left, exists_and_left, true_and, and_true, D.bl.injEq, D.int.injEq, D.str.injEq, D.tup.injEq, D.ref.injEq, Ob.lst.injEq, List.cons.injEq, fTup, if_true, if_false, ite_true, ite_false, Bool.false_eq_true, Bool.true_eq_false, reduceIte, Ob.ins.injEq, Ob.dic.injEq, usFor, uMeth, uProp, uLenI, uMake, uCMeth, uLc, vSeq, uA2, uA3, gNon, sup_same, sup_sup, dIx, dNot, dIsNot, Bool.not_true, Bool.not_false, atI0, atI1]
  refine ⟨d2, p2, _, _, a2, b2, rfl, h2, hL, ?_⟩
  simp only [dAdd, dAddI, dSub, dEq, dNe, dLt, dLe, dGt, dGe, dIs, SL.isNon, dNeg, fLen, lenD, isTy, mLstrip, seqOf, tru, tyOf, Option.map_some, String.reduceEq, usNil, usSeq, usSet, usExpr, usRet, usRetN, usIf, usBrk, usCnt, usAug, usAsg, usDPut, usRaise, usSub, uVar, uC, uBin, uChain, uUn, uTru, uTb, uAnd, uOr, uNot, uAndV, uOrV, uNotV, uIte, uNil, uCons, uTup, uLst, uNoPart, uPart, uSl, vSl, uFn, gP, uIsi, uBM, uBM0, gM, gAppend, gPop, uCall, uA0, uA1, gId, gApp, isSeq, isRng, isRng2, uDGet, bodyE, startE, ugName, List.map_cons, List.map_nil, List.length_cons, List.length_nil, List.cons_append, List.nil_append, List.getElem?_cons_zero, List.getElem?_cons_succ, List.set_cons_zero, List.set_cons_succ, List.replicate, Nat.add_one_sub_one, Nat.sub_self, Nat.reduceSub, Nat.reduceAdd, Option.some.injEq, exists_eq_left', exists_eq_left, exists_and_left, true_and, and_true, D.bl.injEq, D.int.injEq, D.str.injEq, D.tup.injEq, D.ref.injEq, Ob.lst.injEq, List.cons.injEq, fTup, if_true, if_false, ite_true, ite_false, Bool.false_eq_true, Bool.true_eq_false, reduceIte, Ob.ins.injEq, Ob.dic.injEq, usFor, uMeth, uProp, uLenI, uMake, uCMeth, uLc, vSeq, uA2, uA3, gNon, sup_same, sup_sup, dIx, dNot, dIsNot, Bool.not_true, Bool.not_false, atI0, atI1]
  refine ⟨z2, take_of hf (by decide) (by decide) fun r S1 r0 r1 hf1 hb1 => ?_⟩
  obtain ⟨m1, m2, m3, m4, m5⟩ := h1.ne hf
  obtain ⟨n1, n2, n3, n4, n5⟩ := h2.ne hf
  have h11 := h1.keep (hb1 d1 m2) (hb1 p1 m3)
  have h21 := h2.keep (hb1 d2 n2) (hb1 p2 n3)
  rcases (by omega : r = 0 ∨ r = 1) with rfl | rfl
  · simp only [dAdd, dAddI, dSub, dEq, dNe, dLt, dLe, dGt, dGe, dIs, SL.isNon, dNeg, fLen, lenD, isTy, mLstrip, seqOf, tru, tyOf, Option.map_some, String.reduceEq, usNil, usSeq, usSet, usExpr, usRet, usRetN, usIf, usBrk, usCnt, usAug, usAsg, usDPut, usRaise, usSub, uVar, uC, uBin, uChain, uUn, uTru, uTb, uAnd, uOr, uNot, uAndV, uOrV, uNotV, uIte, uNil, uCons, uTup, uLst, uNoPart, uPart, uSl, vSl, uFn, gP, uIsi, uBM, uBM0, gM, gAppend, gPop, uCall, uA0, uA1, gId, gApp, isSeq, isRng, isRng2, uDGet, bodyE, startE, ugName, List.map_cons, List.map_nil, List.length_cons, List.length_nil, List.cons_append, List.nil_append, List.getElem?_cons_zero, List.getElem?_cons_succ, List.set_cons_zero, List.set_cons_succ, List.replicate, Nat.add_one_sub_one, Nat.sub_self, Nat.reduceSub, Nat.reduceAdd, Option.some.injEq, exists_eq_left', exists_eq_left, exists_and_left, true_and, and_true, D.bl.injEq, D.int.injEq, D.str.injEq, D.tup.injEq, D.ref.injEq, Ob.lst.injEq, List.cons.injEq, fTup, if_true, if_false, ite_true, ite_false, Bool.false_eq_true, Bool.true_eq_false, reduceIte, Ob.ins.injEq, Ob.dic.injEq, usFor, uMeth, uProp, uLenI, uMake, uCMeth, uLc, vSeq, uA2, uA3, gNon, sup_same, sup_sup, dIx, dNot, dIsNot, Bool.not_true, Bool.not_false, atI0]
    refine take_of hf1 (by decide) (by decide) fun r2 S2 r20 r21 hf2 hb2 => ?_
    have h12 := h11.keep (hb2 d1 m2) (hb2 p1 m3)
    have h22 := h21.keep (hb2 d2 n2) (hb2 p2 n3)
    refine deed_of hf2 h12 hk r20 fun a' b' S' g1 g2 g3 => q _ _ S' ⟨g1, ⟨a', b', g2⟩, ⟨a2, b2, (h22.keep (g3 d2 n2 nd.symm (h22.nn h12)) (g3 p2 n3 (h12.nn h22).symm np.symm)).up hM1 hL1⟩, nd, np⟩
  · simp only [dAdd, dAddI, dSub, dEq, dNe, dLt, dLe, dGt, dGe, dIs, SL.isNon, dNeg, fLen, lenD, isTy, mLstrip, seqOf, tru, tyOf, Option.map_some, String.reduceEq, usNil, usSeq, usSet, usExpr, usRet, usRetN, usIf, usBrk, usCnt, usAug, usAsg, usDPut, usRaise, usSub, uVar, uC, uBin, uChain, uUn, uTru, uTb, uAnd, uOr, uNot, uAndV, uOrV, uNotV, uIte, uNil, uCons, uTup, uLst, uNoPart, uPart, uSl, vSl, uFn, gP, uIsi, uBM, uBM0, gM, gAppend, gPop, uCall, uA0, uA1, gId, gApp, isSeq, isRng, isRng2, uDGet, bodyE, startE, ugName, List.map_cons, List.map_nil, List.length_cons, List.length_nil, List.cons_append, List.nil_append, List.getElem?_cons_zero, List.getElem?_cons_succ, List.set_cons_zero, List.set_cons_succ, List.replicate, Nat.add_one_sub_one, Nat.sub_self, Nat.reduceSub, Nat.reduceAdd, Option.some.injEq, exists_eq_left', exists_eq_left, exists_and_left, true_and, and_true, D.bl.injEq, D.int.injEq, D.str.injEq, D.tup.injEq, D.ref.injEq, Ob.lst.injEq, List.cons.injEq, fTup, if_true, if_false, ite_true, ite_false, Bool.false_eq_true, Bool.true_eq_false, reduceIte, Ob.ins.injEq, Ob.dic.injEq, usFor, uMeth, uProp, uLenI, uMake, uCMeth, uLc, vSeq, uA2, uA3, gNon, sup_same, sup_sup, dIx, dNot, dIsNot, Bool.not_true, Bool.not_false, atI1]
    refine take_of hf1 (by decide) (by decide) fun r2 S2 r20 r21 hf2 hb2 => ?_
    have h12 := h11.keep (hb2 d1 m2) (hb2 p1 m3)
    have h22 := h21.keep (hb2 d2 n2) (hb2 p2 n3)
    refine deed_of hf2 h22 hk r20 fun a' b' S' g1 g2 g3 => q _ _ S' ⟨g1, ⟨a1, b1, (h12.keep (g3 d1 m2 nd (h12.nn h22)) (g3 p1 m3 (h22.nn h12).symm np)).up hM1 hL1⟩, ⟨a', b', g2⟩, nd, np⟩
theorem turns_of {f cl d1 p1 d2 p2 : Addr} {e0 : Option D} {Z : EndsS} : ∀ (j k : Nat) (lo : Int) (e4 e5 e6 : Option D) (S : SS), Two c S f cl d1 p1 d2 p2 k → k + j ≤ 30 →
    (∀ e4 e5 e6 S', Two c S' f cl d1 p1 d2 p2 (k + j) → Z.nx [e0, some (.ref f), some (.tup [.ref d1, .ref p1]), some (.tup [.ref d2, .ref p2]), e4, e5, e6] S') →
    forL (ugName 4) (lwB sp__law_take (sp__law_is c) (sp__law_write c) (sp__law_mend c) (sp__law_close c)) (fun _ => True) Z (irng lo j) [e0, some (.ref f), some (.tup [.ref d1, .ref p1]), some (.tup [.ref d2, .ref p2]), e4, e5, e6] S
  | 0, k, lo, e4, e5, e6, S, h, hk, q => ⟨trivial, q e4 e5 e6 S h⟩
  | j + 1, k, lo, e4, e5, e6, S, h, hk, q => by
    rw [irng_succ]
    refine ⟨trivial, ?_⟩
    simp only [dAdd, dAddI, dSub, dEq, dNe, dLt, dLe, dGt, dGe, dIs, SL.isNon, dNeg, fLen, lenD, isTy, mLstrip, seqOf, tru, tyOf, Option.map_some, String.reduceEq, usNil, usSeq, usSet, usExpr, usRet, usRetN, usIf, usBrk, usCnt, usAug, usAsg, usDPut, usRaise, usSub, uVar, uC, uBin, uChain, uUn, uTru, uTb, uAnd, uOr, uNot, uAndV, uOrV, uNotV, uIte, uNil, uCons, uTup, uLst, uNoPart, uPart, uSl, vSl, uFn, gP, uIsi, uBM, uBM0, gM, gAppend, gPop, uCall, uA0, uA1, gId, gApp, isSeq, isRng, isRng2, uDGet, bodyE, startE, ugName, List.map_cons, List.map_nil, List.length_cons, List.length_nil, List.cons_append, List.nil_append, List.getElem?_cons_zero, List.getElem?_cons_succ, List.set_cons_zero, List.set_cons_succ, List.replicate, Nat.add_one_sub_one, Nat.sub_self, Nat.reduceSub, Nat.reduceAdd, Option.some.injEq, exists_eq_left', exists_eq_left, exists_and_left, true_and, and_true, D.bl.injEq, D.int.injEq, D.str.injEq, D.tup.injEq, D.ref.injEq, Ob.lst.injEq, List.cons.injEq, fTup, if_true, if_false, ite_true, ite_false, Bool.false_eq_true, Bool.true_eq_false, reduceIte, Ob.ins.injEq, Ob.dic.injEq, usFor, uMeth, uProp, uLenI, uMake, uCMeth, uLc, vSeq, uA2, uA3, gNon, sup_same, sup_sup, dIx, dNot, dIsNot, Bool.not_true, Bool.not_false]
    refine turn_of h (by omega) fun e5 e6 S' h' => ?_
    exact turns_of j (k + 1) (lo + 1) _ _ _ S' h' (by omega) fun e4 e5 e6 S2 h2 => q e4 e5 e6 S2 (by rw [show k + (j + 1) = k + 1 + j by omega]; exact h2)
theorem end_of {S : SS} {f cl d1 p1 d2 p2 : Addr} {k : Nat} {e0 e4 e5 e6 : Option D} {Z : EndsS} (h : Two c S f cl d1 p1 d2 p2 k) (hk : k ≤ 30) (q : Z.rt (.bl true) S) :
    lwE (sp__law_is c) Z [e0, some (.ref f), some (.tup [.ref d1, .ref p1]), some (.tup [.ref d2, .ref p2]), e4, e5, e6] S := by
  have hL : LL k ≤ 50000 := by unfold LL; omega
  obtain ⟨hf, ⟨a1, b1, h1⟩, ⟨a2, b2, h2⟩, nd, np⟩ := h
  unfold lwE
  simp only [dAdd, dAddI, dSub, dEq, dNe, dLt, dLe, dGt, dGe, dIs, SL.isNon, dNeg, fLen, lenD, isTy, mLstrip, seqOf, tru, tyOf, Option.map_some, String.reduceEq, usNil, usSeq, usSet, usExpr, usRet, usRetN, usIf, usBrk, usCnt, usAug, usAsg, usDPut, usRaise, usSub, uVar, uC, uBin, uChain, uUn, uTru, uTb, uAnd, uOr, uNot, uAndV, uOrV, uNotV, uIte, uNil, uCons, uTup, uLst, uNoPart, uPart, uSl, vSl, uFn, gP, uIsi, uBM, uBM0, gM, gAppend, gPop, uCall, uA0, uA1, gId, gApp, isSeq, isRng, isRng2, uDGet, bodyE, startE, ugName, List.map_cons, List.map_nil, List.length_cons, List.length_nil, List.cons_append, List.nil_append, List.getElem?_cons_zero, List.getElem?_cons_succ, List.set_cons_zero, List.set_cons_succ, List.replicate, Nat.add_one_sub_one, Nat.sub_self, Nat.reduceSub, Nat.reduceAdd, Option.some.injEq, exists_eq_left', exists_eq_left, exists_and_left, true_and, and_true, D.bl.injEq, D.int.injEq, D.str.injEq, D.tup.injEq, D.ref.injEq, Ob.lst.injEq, List.cons.injEq, fTup, if_true, if_false, ite_true, ite_false, Bool.false_eq_true, Bool.true_eq_false, reduceIte, Ob.ins.injEq, Ob.dic.injEq, usFor, uMeth, uProp, uLenI, uMake, uCMeth, uLc, vSeq, uA2, uA3, gNon, sup_same, sup_sup, dIx, dNot, dIsNot, Bool.not_true, Bool.not_false, atI0, atI1]
  refine ⟨d1, p1, _, _, a1, b1, rfl, h1, hL, ?_⟩
  simp only [dAdd, dAddI, dSub, dEq, dNe, dLt, dLe, dGt, dGe, dIs, SL.isNon, dNeg, fLen, lenD, isTy, mLstrip, seqOf, tru, tyOf, Option.map_some, String.reduceEq, usNil, usSeq, usSet, usExpr, usRet, usRetN, usIf, usBrk, usCnt, usAug, usAsg, usDPut, usRaise, usSub, uVar, uC, uBin, uChain, uUn, uTru, uTb, uAnd, uOr, uNot, uAndV, uOrV, uNotV, uIte, uNil, uCons, uTup, uLst, uNoPart, uPart, uSl, vSl, uFn, gP, uIsi, uBM, uBM0, gM, gAppend, gPop, uCall, uA0, uA1, gId, gApp, isSeq, isRng, isRng2, uDGet, bodyE, startE, ugName, List.map_cons, List.map_nil, List.length_cons, List.length_nil, List.cons_append, List.nil_append, List.getElem?_cons_zero, List.getElem?_cons_succ, List.set_cons_zero, List.set_cons_succ, List.replicate, Nat.add_one_sub_one, Nat.sub_self, Nat.reduceSub, Nat.reduceAdd, Option.some.injEq, exists_eq_left', exists_eq_left, exists_and_left, true_and, and_true, D.bl.injEq, D.int.injEq, D.str.injEq, D.tup.injEq, D.ref.injEq, Ob.lst.injEq, List.cons.injEq, fTup, if_true, if_false, ite_true, ite_false, Bool.false_eq_true, Bool.true_eq_false, reduceIte, Ob.ins.injEq, Ob.dic.injEq, usFor, uMeth, uProp, uLenI, uMake, uCMeth, uLc, vSeq, uA2, uA3, gNon, sup_same, sup_sup, dIx, dNot, dIsNot, Bool.not_true, Bool.not_false, atI0, atI1]
  exact ⟨d2, p2, _, _, a2, b2, rfl, h2, hL, q⟩
theorem ok_law {ds : List D} {S : SS} {Q : QN} {X : QX} (h : sp_law ds S Q X) : u_law K c sp__law_flow (sp__law_new c) sp__law_take (sp__law_is c) (sp__law_write c) (sp__law_mend c) (sp__law_close c) (bodyE Q X) (startE N_law ds) S := by
  obtain ⟨sd, ns, rfl, hs, q⟩ := h
  rw [lw_eq]
  simp only [dAdd, dAddI, dSub, dEq, dNe, dLt, dLe, dGt, dGe, dIs, SL.isNon, dNeg, fLen, lenD, isTy, mLstrip, seqOf, tru, tyOf, Option.map_some, String.reduceEq, usNil, usSeq, usSet, usExpr, usRet, usRetN, usIf, usBrk, usCnt, usAug, usAsg, usDPut, usRaise, usSub, uVar, uC, uBin, uChain, uUn, uTru, uTb, uAnd, uOr, uNot, uAndV, uOrV, uNotV, uIte, uNil, uCons, uTup, uLst, uNoPart, uPart, uSl, vSl, uFn, gP, uIsi, uBM, uBM0, gM, gAppend, gPop, uCall, uA0, uA1, gId, gApp, isSeq, isRng, isRng2, uDGet, bodyE, startE, ugName, List.map_cons, List.map_nil, List.length_cons, List.length_nil, List.cons_append, List.nil_append, List.getElem?_cons_zero, List.getElem?_cons_succ, List.set_cons_zero, List.set_cons_succ, List.replicate, Nat.add_one_sub_one, Nat.sub_self, Nat.reduceSub, Nat.reduceAdd, Option.some.injEq, exists_eq_left', exists_eq_left, exists_and_left, true_and, and_true, D.bl.injEq, D.int.injEq, D.str.injEq, D.tup.injEq, D.ref.injEq, Ob.lst.injEq, List.cons.injEq, fTup, if_true, if_false, ite_true, ite_false, Bool.false_eq_true, Bool.true_eq_false, reduceIte, Ob.ins.injEq, Ob.dic.injEq, usFor, uMeth, uProp, uLenI, uMake, uCMeth, uLc, vSeq, uA2, uA3, gNon, sup_same, sup_sup, dIx, dNot, dIsNot, Bool.not_true, Bool.not_false, usTry]
  refine ⟨sd, ns, rfl, hs, fun f cl S1 _ hf => ?_⟩
  simp only [dAdd, dAddI, dSub, dEq, dNe, dLt, dLe, dGt, dGe, dIs, SL.isNon, dNeg, fLen, lenD, isTy, mLstrip, seqOf, tru, tyOf, Option.map_some, String.reduceEq, usNil, usSeq, usSet, usExpr, usRet, usRetN, usIf, usBrk, usCnt, usAug, usAsg, usDPut, usRaise, usSub, uVar, uC, uBin, uChain, uUn, uTru, uTb, uAnd, uOr, uNot, uAndV, uOrV, uNotV, uIte, uNil, uCons, uTup, uLst, uNoPart, uPart, uSl, vSl, uFn, gP, uIsi, uBM, uBM0, gM, gAppend, gPop, uCall, uA0, uA1, gId, gApp, isSeq, isRng, isRng2, uDGet, bodyE, startE, ugName, List.map_cons, List.map_nil, List.length_cons, List.length_nil, List.cons_append, List.nil_append, List.getElem?_cons_zero, List.getElem?_cons_succ, List.set_cons_zero, List.set_cons_succ, List.replicate, Nat.add_one_sub_one, Nat.sub_self, Nat.reduceSub, Nat.reduceAdd, Option.some.injEq, exists_eq_left', exists_eq_left, exists_and_left, true_and, and_true, D.bl.injEq, D.int.injEq, D.str.injEq, D.tup.injEq, D.ref.injEq, Ob.lst.injEq, List.cons.injEq, fTup, if_true, if_false, ite_true, ite_false, Bool.false_eq_true, Bool.true_eq_false, reduceIte, Ob.ins.injEq, Ob.dic.injEq, usFor, uMeth, uProp, uLenI, uMake, uCMeth, uLc, vSeq, uA2, uA3, gNon, sup_same, sup_sup, dIx, dNot, dIsNot, Bool.not_true, Bool.not_false, tryD]
  refine ⟨f, cl, rfl, hf, fun d1 p1 S2 a1 b1 hf2 h1 kx1 _ _ => ?_⟩
  simp only [dAdd, dAddI, dSub, dEq, dNe, dLt, dLe, dGt, dGe, dIs, SL.isNon, dNeg, fLen, lenD, isTy, mLstrip, seqOf, tru, tyOf, Option.map_some, String.reduceEq, usNil, usSeq, usSet, usExpr, usRet, usRetN, usIf, usBrk, usCnt, usAug, usAsg, usDPut, usRaise, usSub, uVar, uC, uBin, uChain, uUn, uTru, uTb, uAnd, uOr, uNot, uAndV, uOrV, uNotV, uIte, uNil, uCons, uTup, uLst, uNoPart, uPart, uSl, vSl, uFn, gP, uIsi, uBM, uBM0, gM, gAppend, gPop, uCall, uA0, uA1, gId, gApp, isSeq, isRng, isRng2, uDGet, bodyE, startE, ugName, List.map_cons, List.map_nil, List.length_cons, List.length_nil, List.cons_append, List.nil_append, List.getElem?_cons_zero, List.getElem?_cons_succ, List.set_cons_zero, List.set_cons_succ, List.replicate, Nat.add_one_sub_one, Nat.sub_self, Nat.reduceSub, Nat.reduceAdd, Option.some.injEq, exists_eq_left', exists_eq_left, exists_and_left, true_and, and_true, D.bl.injEq, D.int.injEq, D.str.injEq, D.tup.injEq, D.ref.injEq, Ob.lst.injEq, List.cons.injEq, fTup, if_true, if_false, ite_true, ite_false, Bool.false_eq_true, Bool.true_eq_false, reduceIte, Ob.ins.injEq, Ob.dic.injEq, usFor, uMeth, uProp, uLenI, uMake, uCMeth, uLc, vSeq, uA2, uA3, gNon, sup_same, sup_sup, dIx, dNot, dIsNot, Bool.not_true, Bool.not_false]
  refine ⟨f, cl, rfl, hf2, fun d2 p2 S3 a2 b2 hf3 h2 kx2 d20 p20 => ?_⟩
  obtain ⟨m1, m2, m3, m4, m5⟩ := h1.ne hf2
  have h13 : Pr c S3 d1 p1 900000000 1000 a1 b1 := ⟨kx2 _ _ m2 h1.d, kx2 _ _ m3 h1.p, h1.ok⟩
  have two : Two c S3 f cl d1 p1 d2 p2 0 := ⟨hf3, ⟨a1, b1, h13.up (by decide) (by decide)⟩, ⟨a2, b2, h2.up (by decide) (by decide)⟩, (fun z => by rw [← z, h1.d] at d20; cases d20), (fun z => by rw [← z, h1.p] at p20; cases p20)⟩
  simp only [dAdd, dAddI, dSub, dEq, dNe, dLt, dLe, dGt, dGe, dIs, SL.isNon, dNeg, fLen, lenD, isTy, mLstrip, seqOf, tru, tyOf, Option.map_some, String.reduceEq, usNil, usSeq, usSet, usExpr, usRet, usRetN, usIf, usBrk, usCnt, usAug, usAsg, usDPut, usRaise, usSub, uVar, uC, uBin, uChain, uUn, uTru, uTb, uAnd, uOr, uNot, uAndV, uOrV, uNotV, uIte, uNil, uCons, uTup, uLst, uNoPart, uPart, uSl, vSl, uFn, gP, uIsi, uBM, uBM0, gM, gAppend, gPop, uCall, uA0, uA1, gId, gApp, isSeq, isRng, isRng2, uDGet, bodyE, startE, ugName, List.map_cons, List.map_nil, List.length_cons, List.length_nil, List.cons_append, List.nil_append, List.getElem?_cons_zero, List.getElem?_cons_succ, List.set_cons_zero, List.set_cons_succ, List.replicate, Nat.add_one_sub_one, Nat.sub_self, Nat.reduceSub, Nat.reduceAdd, Option.some.injEq, exists_eq_left', exists_eq_left, exists_and_left, true_and, and_true, D.bl.injEq, D.int.injEq, D.str.injEq, D.tup.injEq, D.ref.injEq, Ob.lst.injEq, List.cons.injEq, fTup, if_true, if_false, ite_true, ite_false, Bool.false_eq_true, Bool.true_eq_false, reduceIte, Ob.ins.injEq, Ob.dic.injEq, usFor, uMeth, uProp, uLenI, uMake, uCMeth, uLc, vSeq, uA2, uA3, gNon, sup_same, sup_sup, dIx, dNot, dIsNot, Bool.not_true, Bool.not_false]
  unfold lwF
  simp only [dAdd, dAddI, dSub, dEq, dNe, dLt, dLe, dGt, dGe, dIs, SL.isNon, dNeg, fLen, lenD, isTy, mLstrip, seqOf, tru, tyOf, Option.map_some, String.reduceEq, usNil, usSeq, usSet, usExpr, usRet, usRetN, usIf, usBrk, usCnt, usAug, usAsg, usDPut, usRaise, usSub, uVar, uC, uBin, uChain, uUn, uTru, uTb, uAnd, uOr, uNot, uAndV, uOrV, uNotV, uIte, uNil, uCons, uTup, uLst, uNoPart, uPart, uSl, vSl, uFn, gP, uIsi, uBM, uBM0, gM, gAppend, gPop, uCall, uA0, uA1, gId, gApp, isSeq, isRng, isRng2, uDGet, bodyE, startE, ugName, List.map_cons, List.map_nil, List.length_cons, List.length_nil, List.cons_append, List.nil_append, List.getElem?_cons_zero, List.getElem?_cons_succ, List.set_cons_zero, List.set_cons_succ, List.replicate, Nat.add_one_sub_one, Nat.sub_self, Nat.reduceSub, Nat.reduceAdd, Option.some.injEq, exists_eq_left', exists_eq_left, exists_and_left, true_and, and_true, D.bl.injEq, D.int.injEq, D.str.injEq, D.tup.injEq, D.ref.injEq, Ob.lst.injEq, List.cons.injEq, fTup, if_true, if_false, ite_true, ite_false, Bool.false_eq_true, Bool.true_eq_false, reduceIte, Ob.ins.injEq, Ob.dic.injEq, usFor, uMeth, uProp, uLenI, uMake, uCMeth, uLc, vSeq, uA2, uA3, gNon, sup_same, sup_sup, dIx, dNot, dIsNot, Bool.not_true, Bool.not_false]
  refine take_of hf3 (by decide) (by decide) fun r S4 r0 r1 hf4 hb4 => ?_
  simp only [dAdd, dAddI, dSub, dEq, dNe, dLt, dLe, dGt, dGe, dIs, SL.isNon, dNeg, fLen, lenD, isTy, mLstrip, seqOf, tru, tyOf, Option.map_some, String.reduceEq, usNil, usSeq, usSet, usExpr, usRet, usRetN, usIf, usBrk, usCnt, usAug, usAsg, usDPut, usRaise, usSub, uVar, uC, uBin, uChain, uUn, uTru, uTb, uAnd, uOr, uNot, uAndV, uOrV, uNotV, uIte, uNil, uCons, uTup, uLst, uNoPart, uPart, uSl, vSl, uFn, gP, uIsi, uBM, uBM0, gM, gAppend, gPop, uCall, uA0, uA1, gId, gApp, isSeq, isRng, isRng2, uDGet, bodyE, startE, ugName, List.map_cons, List.map_nil, List.length_cons, List.length_nil, List.cons_append, List.nil_append, List.getElem?_cons_zero, List.getElem?_cons_succ, List.set_cons_zero, List.set_cons_succ, List.replicate, Nat.add_one_sub_one, Nat.sub_self, Nat.reduceSub, Nat.reduceAdd, Option.some.injEq, exists_eq_left', exists_eq_left, exists_and_left, true_and, and_true, D.bl.injEq, D.int.injEq, D.str.injEq, D.tup.injEq, D.ref.injEq, Ob.lst.injEq, List.cons.injEq, fTup, if_true, if_false, ite_true, ite_false, Bool.false_eq_true, Bool.true_eq_false, reduceIte, Ob.ins.injEq, Ob.dic.injEq, usFor, uMeth, uProp, uLenI, uMake, uCMeth, uLc, vSeq, uA2, uA3, gNon, sup_same, sup_sup, dIx, dNot, dIsNot, Bool.not_true, Bool.not_false]
  obtain ⟨n1, n2, n3, n4, n5⟩ := h2.ne hf3
  have two4 : Two c S4 f cl d1 p1 d2 p2 0 := by
    obtain ⟨_, ⟨x1, y1, g1⟩, ⟨x2, y2, g2⟩, nd, np⟩ := two
    exact ⟨hf4, ⟨x1, y1, g1.keep (hb4 _ m2) (hb4 _ m3)⟩, ⟨x2, y2, g2.keep (hb4 _ n2) (hb4 _ n3)⟩, nd, np⟩
  refine ⟨by omega, by omega, ?_⟩
  exact turns_of (1 + r).toNat 0 0 _ _ _ S4 two4 (by omega) fun e4 e5 e6 S5 h5 => end_of h5 (by omega) ⟨S5, Le.refl _, q S5⟩
end K82

set_option Elab.async false
set_option linter.all false
set_option maxRecDepth 100000
set_option maxHeartbeats 4000000
namespace K82
open PySem PySem.Spec L2 SL ClX L2H
section
variable {P : Program} {w : World} {K : PySem.W.Frag} {mg : Str → Option Value} {base h : Heap} {c : Cs}
/-- the defs -/
structure Ds (K : PySem.W.Frag) (mg : Str → Option Value) (c : Cs) : Prop where
  d_head_number : D0 K mg "head_number" s_head_number
  d_whole_lines : D0 K mg "whole_lines" s_whole_lines
  d_torn_end : D0 K mg "torn_end" s_torn_end
  d_first_signs : D0 K mg "first_signs" s_first_signs
  i_Disk___init__ : I0 K mg "Disk" c.Disk "Disk.__init__" s_Disk___init__ []
  c_Disk_of_places : C0 K c.Disk "of_places" "Disk.of_places" s_Disk_of_places
  m_Disk_places : M0 K c.Disk "places" "Disk.places" s_Disk_places []
  m_Disk_present_at : M0 K c.Disk "present_at" "Disk.present_at" s_Disk_present_at []
  m_Disk_put : M0 K c.Disk "put" "Disk.put" s_Disk_put []
  p_Disk_book : P0 K c.Disk "book" "Disk.book" s_Disk_book
  m_Disk_head : M0 K c.Disk "head" "Disk.head" s_Disk_head []
  m_Disk_records : M0 K c.Disk "records" "Disk.records" s_Disk_records []
  m_Disk_write : M0 K c.Disk "write" "Disk.write" s_Disk_write [("cut", .non)]
  m_Disk_close : M0 K c.Disk "close" "Disk.close" s_Disk_close [("cut", .non)]
  m_Disk_mend : M0 K c.Disk "mend" "Disk.mend" s_Disk_mend []
  l_Disk___len__ : L0 K c.Disk "Disk.__len__" s_Disk___len__
  d__law_flow : D0 K mg "_law_flow" s__law_flow
  d__law_take : D0 K mg "_law_take" s__law_take
  d__law_same : D0 K mg "_law_same" s__law_same
  d__law_text : D0 K mg "_law_text" s__law_text
  d__law_number : D0 K mg "_law_number" s__law_number
  d__law_place : D0 K mg "_law_place" s__law_place
  d__law_head : D0 K mg "_law_head" s__law_head
  d__law_present : D0 K mg "_law_present" s__law_present
  d__law_torn : D0 K mg "_law_torn" s__law_torn
  d__law_is : D0 K mg "_law_is" s__law_is
  d__law_new : D0 K mg "_law_new" s__law_new
  d__law_cut : D0 K mg "_law_cut" s__law_cut
  d__law_write : D0 K mg "_law_write" s__law_write
  d__law_close : D0 K mg "_law_close" s__law_close
  d__law_mend : D0 K mg "_law_mend" s__law_mend
  d_law : D0 K mg "law" s_law
theorem all_ff (B : Bs K mg c) (Dd : Ds K mg c) (x_Torn : ExF P w K mg base "Torn" c.Torn ["text"]) (x_BadBook : ExF P w K mg base "BadBook" c.BadBook ["texts"]) (hF : FldOk K c.Disk "pair") (ks : Ks K c) {fl : Addr} {fdl : FuncData} (Fl : FunD K "law" "law" (defArgs s_law) (defBody s_law) (defScope s_law) [] [] fl fdl) : FnD P w K mg base 32 fl fdl ps_law sp_law := by
  have h_head_number : FF P w K mg base "head_number" 1 ps_head_number sp_head_number 1 [] gId := ff_d0 Dd.d_head_number sc_head_number (u_head_number K c) (fun _ _ _ _ _ _ us hl => match us, hl with | [_], _ => rfl) (fun f cdv A outer s H E hr => der_head_number B  hr) (fun ds S Q X hh => ok_head_number hh)
  have h_whole_lines : FF P w K mg base "whole_lines" 1 ps_whole_lines sp_whole_lines 1 [] gId := ff_d0 Dd.d_whole_lines sc_whole_lines (u_whole_lines K c) (fun _ _ _ _ _ _ us hl => match us, hl with | [_], _ => rfl) (fun f cdv A outer s H E hr => der_whole_lines B  hr) (fun ds S Q X hh => ok_whole_lines hh)
  have h_torn_end : FF P w K mg base "torn_end" 1 ps_torn_end sp_torn_end 1 [] gId := ff_d0 Dd.d_torn_end sc_torn_end (u_torn_end K c) (fun _ _ _ _ _ _ us hl => match us, hl with | [_], _ => rfl) (fun f cdv A outer s H E hr => der_torn_end B  hr) (fun ds S Q X hh => ok_torn_end hh)
  have h_first_signs : FF P w K mg base "first_signs" 1 ps_first_signs sp_first_signs 2 [] gId := ff_d0 Dd.d_first_signs sc_first_signs (u_first_signs K c) (fun _ _ _ _ _ _ us hl => match us, hl with | [_, _], _ => rfl) (fun f cdv A outer s H E hr => der_first_signs B  hr) (fun ds S Q X hh => ok_first_signs hh)
  have k_Disk : KF P w K mg base "Disk" c.Disk 1 ps_Disk___init__ (sp_Disk___init__ c) 1 [] gId := kf_i0 Dd.i_Disk___init__ sc_Disk___init__ (u_Disk___init__ K c) (fun f fd F => shp_pl F (fun _ _ _ _ _ _ us hl => match us, hl with | [_, _], _ => rfl)) (fun f cdv A outer s H E hr => der_Disk___init__ B  hr) (fun ds S Q X hh => ok_Disk___init__ hF hh)
  have h_Disk_of_places : CF P w K mg base c.Disk "of_places" 3 ps_Disk_of_places (sp_Disk_of_places c) 1 := cf_c0 Dd.c_Disk_of_places sc_Disk_of_places (u_Disk_of_places K c sp_head_number (sp_Disk___init__ c)) rfl (fun _ _ _ _ _ _ us hl => match us, hl with | [_, _], _ => rfl) (fun f cdv A outer s H E hr => der_Disk_of_places B h_head_number x_BadBook k_Disk hr) (fun ds S Q X _ hh => ok_Disk_of_places hF hh)
  have h_Disk_places : MF P w K mg base c.Disk "places" 1 ps_Disk_places (sp_Disk_places c) 0 [] gId := mf_m0 Dd.m_Disk_places sc_Disk_places (u_Disk_places K c) (fun f fd F => shp_pl F (fun _ _ _ _ _ _ us hl => match us, hl with | [_], _ => rfl)) (fun f cdv A outer s H E hr => der_Disk_places B  hr) (fun ds S Q X hh => ok_Disk_places hF hh)
  have h_Disk_present_at : MF P w K mg base c.Disk "present_at" 2 ps_Disk_present_at (sp_Disk_present_at c) 0 [] gId := mf_m0 Dd.m_Disk_present_at sc_Disk_present_at (u_Disk_present_at K c sp_head_number) (fun f fd F => shp_pl F (fun _ _ _ _ _ _ us hl => match us, hl with | [_], _ => rfl)) (fun f cdv A outer s H E hr => der_Disk_present_at B h_head_number hr) (fun ds S Q X hh => ok_Disk_present_at hF hh)
  have h_Disk_put : MF P w K mg base c.Disk "put" 1 ps_Disk_put (sp_Disk_put c) 2 [] gId := mf_m0 Dd.m_Disk_put sc_Disk_put (u_Disk_put K c) (fun f fd F => shp_pl F (fun _ _ _ _ _ _ us hl => match us, hl with | [_, _, _], _ => rfl)) (fun f cdv A outer s H E hr => der_Disk_put B  hr) (fun ds S Q X hh => ok_Disk_put hF hh)
  have h_Disk_book : PF P w K mg base c.Disk "book" 3 ps_Disk_book (sp_Disk_book c) := pf_p0 Dd.p_Disk_book sc_Disk_book (u_Disk_book K c (sp_Disk_present_at c) sp_head_number) rfl (fun _ _ _ _ _ _ us hl => match us, hl with | [_], _ => rfl) (fun f cdv A outer s H E hr => der_Disk_book B h_Disk_present_at h_head_number hr) (fun ds S Q X hh => ok_Disk_book hF hh)
  have h_Disk_head : MF P w K mg base c.Disk "head" 3 ps_Disk_head (sp_Disk_head c) 0 [] gId := mf_m0 Dd.m_Disk_head sc_Disk_head (u_Disk_head K c (sp_Disk_present_at c) sp_whole_lines) (fun f fd F => shp_pl F (fun _ _ _ _ _ _ us hl => match us, hl with | [_], _ => rfl)) (fun f cdv A outer s H E hr => der_Disk_head B h_Disk_present_at h_whole_lines hr) (fun ds S Q X hh => ok_Disk_head hF hh)
  have h_Disk_records : MF P w K mg base c.Disk "records" 3 ps_Disk_records (sp_Disk_records c) 0 [] gId := mf_m0 Dd.m_Disk_records sc_Disk_records (u_Disk_records K c (sp_Disk_present_at c) sp_whole_lines) (fun f fd F => shp_pl F (fun _ _ _ _ _ _ us hl => match us, hl with | [_], _ => rfl)) (fun f cdv A outer s H E hr => der_Disk_records B h_Disk_present_at h_whole_lines hr) (fun ds S Q X hh => ok_Disk_records hF hh)
  have h_Disk_write_gApp : MF P w K mg base c.Disk "write" 3 ps_Disk_write (sp_Disk_write c) 1 [("cut" : Str)] gApp := mf_m0 Dd.m_Disk_write sc_Disk_write (u_Disk_write K c (sp_Disk_present_at c) sp_torn_end sp_first_signs (sp_Disk_put c)) (fun f fd F => shp_ks F 2 rfl (fun _ _ _ _ _ _ us ws h1 h2 => match us, ws, h1, h2 with | [_, _], [_], _, _ => rfl)) (fun f cdv A outer s H E hr => der_Disk_write B h_Disk_present_at h_torn_end x_Torn h_first_signs h_Disk_put hr) (fun ds S Q X hh => ok_Disk_write hF hh)
  have h_Disk_write_gNon : MF P w K mg base c.Disk "write" 3 ps_Disk_write (sp_Disk_write c) 1 [] gNon := mf_m0 Dd.m_Disk_write sc_Disk_write (u_Disk_write K c (sp_Disk_present_at c) sp_torn_end sp_first_signs (sp_Disk_put c)) (fun f fd F => shp_no F 2 rfl (fun D doc pm an cdv ct us k h => match us, h with | [_, _], _ => ⟨_, _, _, _, _, _, rfl, rfl, rfl⟩)) (fun f cdv A outer s H E hr => der_Disk_write B h_Disk_present_at h_torn_end x_Torn h_first_signs h_Disk_put hr) (fun ds S Q X hh => ok_Disk_write hF hh)
  have h_Disk_close_gApp : MF P w K mg base c.Disk "close" 5 ps_Disk_close (sp_Disk_close c) 1 [("cut" : Str)] gApp := mf_m0 Dd.m_Disk_close sc_Disk_close (u_Disk_close K c (sp_Disk_book c) sp_first_signs (sp_Disk_present_at c) (sp_Disk_put c)) (fun f fd F => shp_ks F 2 rfl (fun _ _ _ _ _ _ us ws h1 h2 => match us, ws, h1, h2 with | [_, _], [_], _, _ => rfl)) (fun f cdv A outer s H E hr => der_Disk_close B h_Disk_book h_first_signs h_Disk_present_at h_Disk_put hr) (fun ds S Q X hh => ok_Disk_close hh)
  have h_Disk_close_gNon : MF P w K mg base c.Disk "close" 5 ps_Disk_close (sp_Disk_close c) 1 [] gNon := mf_m0 Dd.m_Disk_close sc_Disk_close (u_Disk_close K c (sp_Disk_book c) sp_first_signs (sp_Disk_present_at c) (sp_Disk_put c)) (fun f fd F => shp_no F 2 rfl (fun D doc pm an cdv ct us k h => match us, h with | [_, _], _ => ⟨_, _, _, _, _, _, rfl, rfl, rfl⟩)) (fun f cdv A outer s H E hr => der_Disk_close B h_Disk_book h_first_signs h_Disk_present_at h_Disk_put hr) (fun ds S Q X hh => ok_Disk_close hh)
  have h_Disk_mend : MF P w K mg base c.Disk "mend" 3 ps_Disk_mend (sp_Disk_mend c) 0 [] gId := mf_m0 Dd.m_Disk_mend sc_Disk_mend (u_Disk_mend K c (sp_Disk_present_at c) sp_torn_end (sp_Disk_put c)) (fun f fd F => shp_pl F (fun _ _ _ _ _ _ us hl => match us, hl with | [_], _ => rfl)) (fun f cdv A outer s H E hr => der_Disk_mend B h_Disk_present_at h_torn_end h_Disk_put hr) (fun ds S Q X hh => ok_Disk_mend hF hh)
  have h_Disk___len__ : LF P w K mg base c.Disk 4 ps_Disk___len__ (sp_Disk___len__ c) := lf_l0 Dd.l_Disk___len__ sc_Disk___len__ (u_Disk___len__ K c (sp_Disk_records c)) rfl (fun _ _ _ _ _ _ us hl => match us, hl with | [_], _ => rfl) (fun f cdv A outer s H E hr => der_Disk___len__ B h_Disk_records hr) (fun ds S Q X hh => ok_Disk___len__ hh)
  have h__law_flow : FF P w K mg base "_law_flow" 1 ps__law_flow sp__law_flow 1 [] gId := ff_d0 Dd.d__law_flow sc__law_flow (u__law_flow K c) (fun _ _ _ _ _ _ us hl => match us, hl with | [_], _ => rfl) (fun f cdv A outer s H E hr => der__law_flow B  hr) (fun ds S Q X hh => ok_law_flow hh)
  have h__law_take : FF P w K mg base "_law_take" 1 ps__law_take sp__law_take 2 [] gId := ff_d0 Dd.d__law_take sc__law_take (u__law_take K c) (fun _ _ _ _ _ _ us hl => match us, hl with | [_, _], _ => rfl) (fun f cdv A outer s H E hr => der__law_take B  hr) (fun ds S Q X hh => ok_law_take hh)
  have r__law_same : ∀ n, FF P w K mg base "_law_same" (n + 24) ps__law_same (sp_ls n) 2 [] gId := fun n => by
    induction n with
    | zero => exact ff_void Dd.d__law_same (fun _ _ _ _ _ _ us hl => match us, hl with | [_, _], _ => rfl) fun ds S Q X hh => (by obtain ⟨_, m, hm, _⟩ := hh; omega)
    | succ n ih => exact ff_d0 Dd.d__law_same sc__law_same (u__law_same K c (sp_ls n)) (fun _ _ _ _ _ _ us hl => match us, hl with | [_, _], _ => rfl) (fun f cdv A outer s H E hr => der__law_same B (by omega) ih hr) (fun ds S Q X hh => ok_ls hh)
  have h__law_same : FF P w K mg base "_law_same" 30 ps__law_same (sp_ls 6) 2 [] gId := ff_up (r__law_same 6) (by decide)
  have h__law_text : FF P w K mg base "_law_text" 2 ps__law_text sp__law_text 1 [] gId := ff_d0 Dd.d__law_text sc__law_text (u__law_text K c sp__law_take) (fun _ _ _ _ _ _ us hl => match us, hl with | [_], _ => rfl) (fun f cdv A outer s H E hr => der__law_text B h__law_take hr) (fun ds S Q X hh => ok_law_text hh)
  have h__law_number : FF P w K mg base "_law_number" 2 ps__law_number sp__law_number 1 [] gId := ff_d0 Dd.d__law_number sc__law_number (u__law_number K c sp__law_take) (fun _ _ _ _ _ _ us hl => match us, hl with | [_], _ => rfl) (fun f cdv A outer s H E hr => der__law_number B h__law_take hr) (fun ds S Q X hh => ok_law_number hh)
  have h__law_head : FF P w K mg base "_law_head" 1 ps__law_head sp__law_head 1 [] gId := ff_d0 Dd.d__law_head sc__law_head (u__law_head K c) (fun _ _ _ _ _ _ us hl => match us, hl with | [_], _ => rfl) (fun f cdv A outer s H E hr => der__law_head B  hr) (fun ds S Q X hh => ok_law_head hh)
  have h__law_place : FF P w K mg base "_law_place" 3 ps__law_place sp__law_place 2 [] gId := ff_d0 Dd.d__law_place sc__law_place (u__law_place K c sp__law_text sp__law_take sp__law_head) (fun _ _ _ _ _ _ us hl => match us, hl with | [_, _], _ => rfl) (fun f cdv A outer s H E hr => der__law_place B h__law_text h__law_take h__law_head hr) (fun ds S Q X hh => ok_law_place hh)
  have h__law_present : FF P w K mg base "_law_present" 2 ps__law_present sp__law_present 1 [] gId := ff_d0 Dd.d__law_present sc__law_present (u__law_present K c sp__law_head) (fun _ _ _ _ _ _ us hl => match us, hl with | [_], _ => rfl) (fun f cdv A outer s H E hr => der__law_present B h__law_head hr) (fun ds S Q X hh => ok_law_present hh)
  have h__law_torn : FF P w K mg base "_law_torn" 1 ps__law_torn sp__law_torn 1 [] gId := ff_d0 Dd.d__law_torn sc__law_torn (u__law_torn K c) (fun _ _ _ _ _ _ us hl => match us, hl with | [_], _ => rfl) (fun f cdv A outer s H E hr => der__law_torn B  hr) (fun ds S Q X hh => ok_law_torn hh)
  have h__law_is : FF P w K mg base "_law_is" 31 ps__law_is (sp__law_is c) 2 [] gId := ff_d0 Dd.d__law_is sc__law_is (u__law_is K c sp__law_present sp__law_head (sp_Disk_places c) (sp_ls 6) (sp_Disk_book c) (sp_Disk_head c) (sp_Disk_records c) (sp_Disk___len__ c)) (fun _ _ _ _ _ _ us hl => match us, hl with | [_, _], _ => rfl) (fun f cdv A outer s H E hr => der__law_is B h__law_present h__law_head h_Disk_places h__law_same h_Disk_book h_Disk_head h_Disk_records h_Disk___len__ hr) (fun ds S Q X hh => ok_law_is hh)
  have hh__law_head : FH P w K mg base "_law_head" 1 ps__law_head sp__law_head := fh_d0 Dd.d__law_head sc__law_head (uH__law_head K c) (fun _ _ _ _ _ _ us hl => match us, hl with | [_], _ => rfl) (fun f cdv A outer s H E p hr hot => derH__law_head B hr hot) (fun ds S Q Xq h => h) (fun ds S Q hh => ok_law_headH hh)
  have hh__law_present : FH P w K mg base "_law_present" 2 ps__law_present sp__law_present := fh_d0 Dd.d__law_present sc__law_present (uH__law_present K c sp__law_head) (fun _ _ _ _ _ _ us hl => match us, hl with | [_], _ => rfl) (fun f cdv A outer s H E p hr hot => derH__law_present B hh__law_head hr hot) (fun ds S Q Xq h => h) (fun ds S Q hh => ok_law_presentH hh)
  have rh__law_same : ∀ n, FH P w K mg base "_law_same" (n + 24) ps__law_same (sp_ls n) := fun n => by
    induction n with
    | zero => exact fh_void Dd.d__law_same (fun _ _ _ _ _ _ us hl => match us, hl with | [_, _], _ => rfl) fun ds S Q X hh => (by obtain ⟨_, m, hm, _⟩ := hh; omega)
    | succ n ih => exact fh_d0 Dd.d__law_same sc__law_same (uH__law_same K c (sp_ls n)) (fun _ _ _ _ _ _ us hl => match us, hl with | [_, _], _ => rfl) (fun f cdv A outer s H E p hr hot => derH__law_same (by omega) B ih hr hot) (fun ds S Q Xq h => h) (fun ds S Q hh => ok_lsH hh)
  have hh__law_same : FH P w K mg base "_law_same" 30 ps__law_same (sp_ls 6) := fh_up (rh__law_same 6) (by decide)
  have kh_Disk : KH P w K mg base "Disk" c.Disk 1 ps_Disk___init__ (sp_Disk___init__ c) := kh_i0 Dd.i_Disk___init__ sc_Disk___init__ (uH_Disk___init__ K c) (fun _ _ _ _ _ _ us hl => match us, hl with | [_, _], _ => rfl) (fun f cdv A outer s H E p hr hot => derH_Disk___init__ B hr hot) (fun ds S Q Xq h => h) (fun ds S Q hh => ok_initH hF hh)
  have h__law_new : FF P w K mg base "_law_new" 31 ps__law_new (sp__law_new c) 1 [] gId := ff_d0 Dd.d__law_new sc__law_new (u__law_new K c sp__law_take sp__law_text (sp_Disk___init__ c) sp__law_number sp__law_place (sp_Disk_of_places c) sp__law_present (sp_ls 6)) (fun _ _ _ _ _ _ us hl => match us, hl with | [_], _ => rfl) (fun f cdv A outer s H E hr => der__law_new B h__law_take h__law_text k_Disk h__law_number h__law_place h_Disk_of_places hh__law_present hh__law_same kh_Disk h__law_present h__law_same hr) (fun ds S Q X hh => ok_law_new ks hh)
  have h__law_cut : FF P w K mg base "_law_cut" 2 ps__law_cut sp__law_cut 2 [] gId := ff_d0 Dd.d__law_cut sc__law_cut (u__law_cut K c sp__law_take) (fun _ _ _ _ _ _ us hl => match us, hl with | [_, _], _ => rfl) (fun f cdv A outer s H E hr => der__law_cut B h__law_take hr) (fun ds S Q X hh => ok_law_cut hh)
  have hh__law_torn : FH P w K mg base "_law_torn" 1 ps__law_torn sp__law_torn := fh_d0 Dd.d__law_torn sc__law_torn (uH__law_torn K c) (fun _ _ _ _ _ _ us hl => match us, hl with | [_], _ => rfl) (fun f cdv A outer s H E p hr hot => derH__law_torn B hr hot) (fun ds S Q Xq h => h) (fun ds S Q hh => ok_law_tornH hh)
  have h__law_write : FF P w K mg base "_law_write" 31 ps__law_write (sp__law_write c) 3 [] gId := ff_d0 Dd.d__law_write sc__law_write (u__law_write K c sp__law_present sp__law_text sp__law_cut (sp_Disk_write c) sp__law_torn (sp_ls 6)) (fun _ _ _ _ _ _ us hl => match us, hl with | [_, _, _], _ => rfl) (fun f cdv A outer s H E hr => der__law_write B h__law_present h__law_text h__law_cut h_Disk_write_gNon h_Disk_write_gApp hh__law_torn hh__law_same h__law_torn h__law_same hr) (fun ds S Q X hh => ok_law_write ks hh)
  have h__law_close : FF P w K mg base "_law_close" 31 ps__law_close (sp__law_close c) 3 [] gId := ff_d0 Dd.d__law_close sc__law_close (u__law_close K c sp__law_present sp__law_text sp__law_head sp__law_cut (sp_Disk_close c) (sp_ls 6)) (fun _ _ _ _ _ _ us hl => match us, hl with | [_, _, _], _ => rfl) (fun f cdv A outer s H E hr => der__law_close B h__law_present h__law_text h__law_head h__law_cut h_Disk_close_gNon h_Disk_close_gApp h__law_same hr) (fun ds S Q X hh => ok_law_close hh)
  have h__law_mend : FF P w K mg base "_law_mend" 31 ps__law_mend (sp__law_mend c) 2 [] gId := ff_d0 Dd.d__law_mend sc__law_mend (u__law_mend K c sp__law_present sp__law_torn (sp_Disk_mend c) (sp_ls 6)) (fun _ _ _ _ _ _ us hl => match us, hl with | [_, _], _ => rfl) (fun f cdv A outer s H E hr => der__law_mend B h__law_present h__law_torn h_Disk_mend h__law_same hr) (fun ds S Q X hh => ok_law_mend hh)
  exact fn_d Fl sc_law (u_law K c sp__law_flow (sp__law_new c) sp__law_take (sp__law_is c) (sp__law_write c) (sp__law_mend c) (sp__law_close c)) (fun cdv A outer s H E hr => der_law B h__law_flow h__law_new h__law_take h__law_is h__law_write h__law_mend h__law_close hr) (fun ds S Q X _ hh => ok_law hh)
end
abbrev s_iTorn : Stmt := inClass (top 2) 0
theorem sc_iTorn : FnScope ["self", "text"] ["self", "text"] (defScope s_iTorn) := ⟨rfl, rfl, rfl, by decide +kernel, rfl, by decide +kernel, by decide +kernel⟩
abbrev s_iBadBook : Stmt := inClass (top 3) 0
theorem sc_iBadBook : FnScope ["self", "texts"] ["self", "texts"] (defScope s_iBadBook) := ⟨rfl, rfl, rfl, by decide +kernel, rfl, by decide +kernel, by decide +kernel⟩
theorem all_mk {P : Program} {w : World} {K : PySem.W.Frag} {h : Heap} {mg : Str → Option Value} {fa : Addr} (X : K.In h) (G : h.Ns mainGlobals mg) (hfa : mg "law" = some (.ref fa))
    {CShopError : Addr}
    {CTorn : Addr}
    {CBadBook : Addr}
    {CDisk : Addr}
    {f0 : Addr} {od0 an0 : Option Addr} {sl0 : Array (Option Value)} {oc0 dc0 pm0 cd0 ct0 : Value} {kV0 : Value}
    {f1 : Addr} {od1 an1 : Option Addr} {sl1 : Array (Option Value)} {oc1 dc1 pm1 cd1 ct1 : Value} {kV1 : Value}
    {f2 : Addr} {od2 an2 : Option Addr} {sl2 : Array (Option Value)} {oc2 dc2 pm2 cd2 ct2 : Value} {kV2 : Value}
    {f3 : Addr} {od3 an3 : Option Addr} {sl3 : Array (Option Value)} {oc3 dc3 pm3 cd3 ct3 : Value} {kV3 : Value}
    {f4 : Addr} {od4 an4 : Option Addr} {sl4 : Array (Option Value)} {oc4 dc4 pm4 cd4 ct4 : Value} {kV4 : Value}
    {f5 : Addr} {od5 an5 : Option Addr} {sl5 : Array (Option Value)} {oc5 dc5 pm5 cd5 ct5 : Value} {kV5 : Value}
    {pp5 : Addr} {rs5 : List Value} {mcDisk : Value}
    {f6 : Addr} {od6 an6 : Option Addr} {sl6 : Array (Option Value)} {oc6 dc6 pm6 cd6 ct6 : Value} {kV6 : Value}
    {f7 : Addr} {od7 an7 : Option Addr} {sl7 : Array (Option Value)} {oc7 dc7 pm7 cd7 ct7 : Value} {kV7 : Value}
    {f8 : Addr} {od8 an8 : Option Addr} {sl8 : Array (Option Value)} {oc8 dc8 pm8 cd8 ct8 : Value} {kV8 : Value}
    {f9 : Addr} {od9 an9 : Option Addr} {sl9 : Array (Option Value)} {oc9 dc9 pm9 cd9 ct9 : Value} {kV9 : Value}
    {pp9 : Addr} {rs9 : List Value}
    {f10 : Addr} {od10 an10 : Option Addr} {sl10 : Array (Option Value)} {oc10 dc10 pm10 cd10 ct10 : Value} {kV10 : Value}
    {f11 : Addr} {od11 an11 : Option Addr} {sl11 : Array (Option Value)} {oc11 dc11 pm11 cd11 ct11 : Value} {kV11 : Value}
    {f12 : Addr} {od12 an12 : Option Addr} {sl12 : Array (Option Value)} {oc12 dc12 pm12 cd12 ct12 : Value}
    {kD12 : Addr}
    {f13 : Addr} {od13 an13 : Option Addr} {sl13 : Array (Option Value)} {oc13 dc13 pm13 cd13 ct13 : Value}
    {kD13 : Addr}
    {f14 : Addr} {od14 an14 : Option Addr} {sl14 : Array (Option Value)} {oc14 dc14 pm14 cd14 ct14 : Value} {kV14 : Value}
    {f15 : Addr} {od15 an15 : Option Addr} {sl15 : Array (Option Value)} {oc15 dc15 pm15 cd15 ct15 : Value} {kV15 : Value}
    {f16 : Addr} {od16 an16 : Option Addr} {sl16 : Array (Option Value)} {oc16 dc16 pm16 cd16 ct16 : Value} {kV16 : Value}
    {f17 : Addr} {od17 an17 : Option Addr} {sl17 : Array (Option Value)} {oc17 dc17 pm17 cd17 ct17 : Value} {kV17 : Value}
    {f18 : Addr} {od18 an18 : Option Addr} {sl18 : Array (Option Value)} {oc18 dc18 pm18 cd18 ct18 : Value} {kV18 : Value}
    {f19 : Addr} {od19 an19 : Option Addr} {sl19 : Array (Option Value)} {oc19 dc19 pm19 cd19 ct19 : Value} {kV19 : Value}
    {f20 : Addr} {od20 an20 : Option Addr} {sl20 : Array (Option Value)} {oc20 dc20 pm20 cd20 ct20 : Value} {kV20 : Value}
    {f21 : Addr} {od21 an21 : Option Addr} {sl21 : Array (Option Value)} {oc21 dc21 pm21 cd21 ct21 : Value} {kV21 : Value}
    {f22 : Addr} {od22 an22 : Option Addr} {sl22 : Array (Option Value)} {oc22 dc22 pm22 cd22 ct22 : Value} {kV22 : Value}
    {f23 : Addr} {od23 an23 : Option Addr} {sl23 : Array (Option Value)} {oc23 dc23 pm23 cd23 ct23 : Value} {kV23 : Value}
    {f24 : Addr} {od24 an24 : Option Addr} {sl24 : Array (Option Value)} {oc24 dc24 pm24 cd24 ct24 : Value} {kV24 : Value}
    {f25 : Addr} {od25 an25 : Option Addr} {sl25 : Array (Option Value)} {oc25 dc25 pm25 cd25 ct25 : Value} {kV25 : Value}
    {f26 : Addr} {od26 an26 : Option Addr} {sl26 : Array (Option Value)} {oc26 dc26 pm26 cd26 ct26 : Value} {kV26 : Value}
    {f27 : Addr} {od27 an27 : Option Addr} {sl27 : Array (Option Value)} {oc27 dc27 pm27 cd27 ct27 : Value} {kV27 : Value}
    {f28 : Addr} {od28 an28 : Option Addr} {sl28 : Array (Option Value)} {oc28 dc28 pm28 cd28 ct28 : Value} {kV28 : Value}
    {f29 : Addr} {od29 an29 : Option Addr} {sl29 : Array (Option Value)} {oc29 dc29 pm29 cd29 ct29 : Value} {kV29 : Value}
    {f30 : Addr} {od30 an30 : Option Addr} {sl30 : Array (Option Value)} {oc30 dc30 pm30 cd30 ct30 : Value} {kV30 : Value}
    {f31 : Addr} {od31 an31 : Option Addr} {sl31 : Array (Option Value)} {oc31 dc31 pm31 cd31 ct31 : Value} {kV31 : Value}
    {nmTorn qTorn : Str} {NTorn : Addr} {bsTorn bmTorn : List Value} {snTorn : List Str} {subTorn : List Value} {abTorn : Bool} {colTorn : Option Bool} {ddTorn : Option Addr} {m0Torn m1Torn m2Torn m3Torn m5Torn : Option Value}
    {iTorn : Addr} {odiTorn aniTorn : Option Addr} {sliTorn : Array (Option Value)} {ociTorn kViTorn dciTorn pmiTorn cdiTorn ctiTorn : Value}
    {nmBadBook qBadBook : Str} {NBadBook : Addr} {bsBadBook bmBadBook : List Value} {snBadBook : List Str} {subBadBook : List Value} {abBadBook : Bool} {colBadBook : Option Bool} {ddBadBook : Option Addr} {m0BadBook m1BadBook m2BadBook m3BadBook m5BadBook : Option Value}
    {iBadBook : Addr} {odiBadBook aniBadBook : Option Addr} {sliBadBook : Array (Option Value)} {ociBadBook kViBadBook dciBadBook pmiBadBook cdiBadBook ctiBadBook : Value}
    {tkFIGURES : Tok}
    {tkMOST_FIGURES : Tok}
    (aCShopError : PySem.W.nsIn K mainGlobals "ShopError" = some (some (.ref CShopError)))
    (aCTorn : PySem.W.nsIn K mainGlobals "Torn" = some (some (.ref CTorn)))
    (aCBadBook : PySem.W.nsIn K mainGlobals "BadBook" = some (some (.ref CBadBook)))
    (aCDisk : PySem.W.nsIn K mainGlobals "Disk" = some (some (.ref CDisk)))
    (a0 : PySem.W.nsIn K mainGlobals "head_number" = some (some (.ref f0)))
    (l0 : K.lookup f0 = some ⟨oc0, od0, .func (PySem.W.fnOf "head_number" "head_number" (defArgs s_head_number) (defBody s_head_number) (defScope s_head_number) .none kV0 dc0 pm0 an0 cd0 ct0), sl0⟩)
    (c0 : PySem.W.codeIn K cd0 "head_number" = true)
    (k0 : PySem.W.keepIn K (.ref f0) = true)
    (a1 : PySem.W.nsIn K mainGlobals "whole_lines" = some (some (.ref f1)))
    (l1 : K.lookup f1 = some ⟨oc1, od1, .func (PySem.W.fnOf "whole_lines" "whole_lines" (defArgs s_whole_lines) (defBody s_whole_lines) (defScope s_whole_lines) .none kV1 dc1 pm1 an1 cd1 ct1), sl1⟩)
    (c1 : PySem.W.codeIn K cd1 "whole_lines" = true)
    (k1 : PySem.W.keepIn K (.ref f1) = true)
    (a2 : PySem.W.nsIn K mainGlobals "torn_end" = some (some (.ref f2)))
    (l2 : K.lookup f2 = some ⟨oc2, od2, .func (PySem.W.fnOf "torn_end" "torn_end" (defArgs s_torn_end) (defBody s_torn_end) (defScope s_torn_end) .none kV2 dc2 pm2 an2 cd2 ct2), sl2⟩)
    (c2 : PySem.W.codeIn K cd2 "torn_end" = true)
    (k2 : PySem.W.keepIn K (.ref f2) = true)
    (a3 : PySem.W.nsIn K mainGlobals "first_signs" = some (some (.ref f3)))
    (l3 : K.lookup f3 = some ⟨oc3, od3, .func (PySem.W.fnOf "first_signs" "first_signs" (defArgs s_first_signs) (defBody s_first_signs) (defScope s_first_signs) .none kV3 dc3 pm3 an3 cd3 ct3), sl3⟩)
    (c3 : PySem.W.codeIn K cd3 "first_signs" = true)
    (k3 : PySem.W.keepIn K (.ref f3) = true)
    (mkDisk : PySem.W.makesIn K CDisk = true)
    (a4 : PySem.W.findIn K (.ref CDisk) "__init__" = some (some (.ref f4)))
    (i4 : PySem.W.isFn K (.ref f4) = true)
    (kCDisk : PySem.W.keepIn K (.ref CDisk) = true)
    (l4 : K.lookup f4 = some ⟨oc4, od4, .func (PySem.W.fnOf "__init__" "Disk.__init__" (defArgs s_Disk___init__) (defBody s_Disk___init__) (defScope s_Disk___init__) .none kV4 dc4 pm4 an4 cd4 ct4), sl4⟩)
    (c4 : PySem.W.codeIn K cd4 "Disk.__init__" = true)
    (k4 : PySem.W.keepIn K (.ref f4) = true)
    (tmDisk : PySem.W.typeIn K (.ref CDisk) = some mcDisk)
    (rdDisk : PySem.W.readsIn K CDisk mcDisk = true)
    (gtDisk : PySem.W.specialIn K (.ref CDisk) "__getattribute__" = some (some (.builtin "type.__getattribute__")))
    (a5 : PySem.W.findCls K (.ref CDisk) mcDisk "of_places" = some (.get (.builtin "classmethod.__get__") (.ref pp5) .none (.ref CDisk)))
    (r5 : PySem.W.recIn K pp5 "classmethod" = some (.ref f5 :: rs5))
    (i5 : PySem.W.fnIn K f5 = true)
    (l5 : K.lookup f5 = some ⟨oc5, od5, .func (PySem.W.fnOf "of_places" "Disk.of_places" (defArgs s_Disk_of_places) (defBody s_Disk_of_places) (defScope s_Disk_of_places) .none kV5 dc5 pm5 an5 cd5 ct5), sl5⟩)
    (c5 : PySem.W.codeIn K cd5 "Disk.of_places" = true)
    (k5 : PySem.W.keepIn K (.ref f5) = true)
    (pgDisk : PySem.W.plainGet K CDisk Str.empty = true)
    (hdDisk : PySem.W.hasDictIn K CDisk = true)
    (poDisk : PySem.W.plainOver K CDisk = true)
    (saDisk : PySem.W.findIn K (.ref CDisk) "__setattr__" = some (some (.builtin "object.__setattr__")))
    (a6 : PySem.W.findIn K (.ref CDisk) "places" = some (some (.ref f6)))
    (i6 : PySem.W.isFn K (.ref f6) = true)
    (l6 : K.lookup f6 = some ⟨oc6, od6, .func (PySem.W.fnOf "places" "Disk.places" (defArgs s_Disk_places) (defBody s_Disk_places) (defScope s_Disk_places) .none kV6 dc6 pm6 an6 cd6 ct6), sl6⟩)
    (c6 : PySem.W.codeIn K cd6 "Disk.places" = true)
    (k6 : PySem.W.keepIn K (.ref f6) = true)
    (a7 : PySem.W.findIn K (.ref CDisk) "present_at" = some (some (.ref f7)))
    (i7 : PySem.W.isFn K (.ref f7) = true)
    (l7 : K.lookup f7 = some ⟨oc7, od7, .func (PySem.W.fnOf "present_at" "Disk.present_at" (defArgs s_Disk_present_at) (defBody s_Disk_present_at) (defScope s_Disk_present_at) .none kV7 dc7 pm7 an7 cd7 ct7), sl7⟩)
    (c7 : PySem.W.codeIn K cd7 "Disk.present_at" = true)
    (k7 : PySem.W.keepIn K (.ref f7) = true)
    (a8 : PySem.W.findIn K (.ref CDisk) "put" = some (some (.ref f8)))
    (i8 : PySem.W.isFn K (.ref f8) = true)
    (l8 : K.lookup f8 = some ⟨oc8, od8, .func (PySem.W.fnOf "put" "Disk.put" (defArgs s_Disk_put) (defBody s_Disk_put) (defScope s_Disk_put) .none kV8 dc8 pm8 an8 cd8 ct8), sl8⟩)
    (c8 : PySem.W.codeIn K cd8 "Disk.put" = true)
    (k8 : PySem.W.keepIn K (.ref f8) = true)
    (a9 : PySem.W.findIn K (.ref CDisk) "book" = some (some (.ref pp9)))
    (g9 : PySem.W.specialIn K (.ref pp9) "__get__" = some (some (.builtin "property.__get__")))
    (t9 : PySem.W.takesIn K (.ref pp9) = some true)
    (r9 : PySem.W.recIn K pp9 "property" = some (.ref f9 :: rs9))
    (l9 : K.lookup f9 = some ⟨oc9, od9, .func (PySem.W.fnOf "book" "Disk.book" (defArgs s_Disk_book) (defBody s_Disk_book) (defScope s_Disk_book) .none kV9 dc9 pm9 an9 cd9 ct9), sl9⟩)
    (c9 : PySem.W.codeIn K cd9 "Disk.book" = true)
    (k9 : PySem.W.keepIn K (.ref f9) = true)
    (a10 : PySem.W.findIn K (.ref CDisk) "head" = some (some (.ref f10)))
    (i10 : PySem.W.isFn K (.ref f10) = true)
    (l10 : K.lookup f10 = some ⟨oc10, od10, .func (PySem.W.fnOf "head" "Disk.head" (defArgs s_Disk_head) (defBody s_Disk_head) (defScope s_Disk_head) .none kV10 dc10 pm10 an10 cd10 ct10), sl10⟩)
    (c10 : PySem.W.codeIn K cd10 "Disk.head" = true)
    (k10 : PySem.W.keepIn K (.ref f10) = true)
    (a11 : PySem.W.findIn K (.ref CDisk) "records" = some (some (.ref f11)))
    (i11 : PySem.W.isFn K (.ref f11) = true)
    (l11 : K.lookup f11 = some ⟨oc11, od11, .func (PySem.W.fnOf "records" "Disk.records" (defArgs s_Disk_records) (defBody s_Disk_records) (defScope s_Disk_records) .none kV11 dc11 pm11 an11 cd11 ct11), sl11⟩)
    (c11 : PySem.W.codeIn K cd11 "Disk.records" = true)
    (k11 : PySem.W.keepIn K (.ref f11) = true)
    (a12 : PySem.W.findIn K (.ref CDisk) "write" = some (some (.ref f12)))
    (i12 : PySem.W.isFn K (.ref f12) = true)
    (l12 : K.lookup f12 = some ⟨oc12, od12, .func (PySem.W.fnOf "write" "Disk.write" (defArgs s_Disk_write) (defBody s_Disk_write) (defScope s_Disk_write) .none (.ref kD12) dc12 pm12 an12 cd12 ct12), sl12⟩)
    (c12 : PySem.W.codeIn K cd12 "Disk.write" = true)
    (k12 : PySem.W.keepIn K (.ref f12) = true)
    (n12_0 : PySem.W.nsIn K kD12 "cut" = some (some .none))
    (a13 : PySem.W.findIn K (.ref CDisk) "close" = some (some (.ref f13)))
    (i13 : PySem.W.isFn K (.ref f13) = true)
    (l13 : K.lookup f13 = some ⟨oc13, od13, .func (PySem.W.fnOf "close" "Disk.close" (defArgs s_Disk_close) (defBody s_Disk_close) (defScope s_Disk_close) .none (.ref kD13) dc13 pm13 an13 cd13 ct13), sl13⟩)
    (c13 : PySem.W.codeIn K cd13 "Disk.close" = true)
    (k13 : PySem.W.keepIn K (.ref f13) = true)
    (n13_0 : PySem.W.nsIn K kD13 "cut" = some (some .none))
    (a14 : PySem.W.findIn K (.ref CDisk) "mend" = some (some (.ref f14)))
    (i14 : PySem.W.isFn K (.ref f14) = true)
    (l14 : K.lookup f14 = some ⟨oc14, od14, .func (PySem.W.fnOf "mend" "Disk.mend" (defArgs s_Disk_mend) (defBody s_Disk_mend) (defScope s_Disk_mend) .none kV14 dc14 pm14 an14 cd14 ct14), sl14⟩)
    (c14 : PySem.W.codeIn K cd14 "Disk.mend" = true)
    (k14 : PySem.W.keepIn K (.ref f14) = true)
    (a15 : PySem.W.findIn K (.ref CDisk) "__len__" = some (some (.ref f15)))
    (y15 : PySem.W.typeIn K (.ref f15) = some (.type "function"))
    (l15 : K.lookup f15 = some ⟨oc15, od15, .func (PySem.W.fnOf "__len__" "Disk.__len__" (defArgs s_Disk___len__) (defBody s_Disk___len__) (defScope s_Disk___len__) .none kV15 dc15 pm15 an15 cd15 ct15), sl15⟩)
    (c15 : PySem.W.codeIn K cd15 "Disk.__len__" = true)
    (k15 : PySem.W.keepIn K (.ref f15) = true)
    (a16 : PySem.W.nsIn K mainGlobals "_law_flow" = some (some (.ref f16)))
    (l16 : K.lookup f16 = some ⟨oc16, od16, .func (PySem.W.fnOf "_law_flow" "_law_flow" (defArgs s__law_flow) (defBody s__law_flow) (defScope s__law_flow) .none kV16 dc16 pm16 an16 cd16 ct16), sl16⟩)
    (c16 : PySem.W.codeIn K cd16 "_law_flow" = true)
    (k16 : PySem.W.keepIn K (.ref f16) = true)
    (a17 : PySem.W.nsIn K mainGlobals "_law_take" = some (some (.ref f17)))
    (l17 : K.lookup f17 = some ⟨oc17, od17, .func (PySem.W.fnOf "_law_take" "_law_take" (defArgs s__law_take) (defBody s__law_take) (defScope s__law_take) .none kV17 dc17 pm17 an17 cd17 ct17), sl17⟩)
    (c17 : PySem.W.codeIn K cd17 "_law_take" = true)
    (k17 : PySem.W.keepIn K (.ref f17) = true)
    (a18 : PySem.W.nsIn K mainGlobals "_law_same" = some (some (.ref f18)))
    (l18 : K.lookup f18 = some ⟨oc18, od18, .func (PySem.W.fnOf "_law_same" "_law_same" (defArgs s__law_same) (defBody s__law_same) (defScope s__law_same) .none kV18 dc18 pm18 an18 cd18 ct18), sl18⟩)
    (c18 : PySem.W.codeIn K cd18 "_law_same" = true)
    (k18 : PySem.W.keepIn K (.ref f18) = true)
    (a19 : PySem.W.nsIn K mainGlobals "_law_text" = some (some (.ref f19)))
    (l19 : K.lookup f19 = some ⟨oc19, od19, .func (PySem.W.fnOf "_law_text" "_law_text" (defArgs s__law_text) (defBody s__law_text) (defScope s__law_text) .none kV19 dc19 pm19 an19 cd19 ct19), sl19⟩)
    (c19 : PySem.W.codeIn K cd19 "_law_text" = true)
    (k19 : PySem.W.keepIn K (.ref f19) = true)
    (a20 : PySem.W.nsIn K mainGlobals "_law_number" = some (some (.ref f20)))
    (l20 : K.lookup f20 = some ⟨oc20, od20, .func (PySem.W.fnOf "_law_number" "_law_number" (defArgs s__law_number) (defBody s__law_number) (defScope s__law_number) .none kV20 dc20 pm20 an20 cd20 ct20), sl20⟩)
    (c20 : PySem.W.codeIn K cd20 "_law_number" = true)
    (k20 : PySem.W.keepIn K (.ref f20) = true)
    (a21 : PySem.W.nsIn K mainGlobals "_law_place" = some (some (.ref f21)))
    (l21 : K.lookup f21 = some ⟨oc21, od21, .func (PySem.W.fnOf "_law_place" "_law_place" (defArgs s__law_place) (defBody s__law_place) (defScope s__law_place) .none kV21 dc21 pm21 an21 cd21 ct21), sl21⟩)
    (c21 : PySem.W.codeIn K cd21 "_law_place" = true)
    (k21 : PySem.W.keepIn K (.ref f21) = true)
    (a22 : PySem.W.nsIn K mainGlobals "_law_head" = some (some (.ref f22)))
    (l22 : K.lookup f22 = some ⟨oc22, od22, .func (PySem.W.fnOf "_law_head" "_law_head" (defArgs s__law_head) (defBody s__law_head) (defScope s__law_head) .none kV22 dc22 pm22 an22 cd22 ct22), sl22⟩)
    (c22 : PySem.W.codeIn K cd22 "_law_head" = true)
    (k22 : PySem.W.keepIn K (.ref f22) = true)
    (a23 : PySem.W.nsIn K mainGlobals "_law_present" = some (some (.ref f23)))
    (l23 : K.lookup f23 = some ⟨oc23, od23, .func (PySem.W.fnOf "_law_present" "_law_present" (defArgs s__law_present) (defBody s__law_present) (defScope s__law_present) .none kV23 dc23 pm23 an23 cd23 ct23), sl23⟩)
    (c23 : PySem.W.codeIn K cd23 "_law_present" = true)
    (k23 : PySem.W.keepIn K (.ref f23) = true)
    (a24 : PySem.W.nsIn K mainGlobals "_law_torn" = some (some (.ref f24)))
    (l24 : K.lookup f24 = some ⟨oc24, od24, .func (PySem.W.fnOf "_law_torn" "_law_torn" (defArgs s__law_torn) (defBody s__law_torn) (defScope s__law_torn) .none kV24 dc24 pm24 an24 cd24 ct24), sl24⟩)
    (c24 : PySem.W.codeIn K cd24 "_law_torn" = true)
    (k24 : PySem.W.keepIn K (.ref f24) = true)
    (a25 : PySem.W.nsIn K mainGlobals "_law_is" = some (some (.ref f25)))
    (l25 : K.lookup f25 = some ⟨oc25, od25, .func (PySem.W.fnOf "_law_is" "_law_is" (defArgs s__law_is) (defBody s__law_is) (defScope s__law_is) .none kV25 dc25 pm25 an25 cd25 ct25), sl25⟩)
    (c25 : PySem.W.codeIn K cd25 "_law_is" = true)
    (k25 : PySem.W.keepIn K (.ref f25) = true)
    (a26 : PySem.W.nsIn K mainGlobals "_law_new" = some (some (.ref f26)))
    (l26 : K.lookup f26 = some ⟨oc26, od26, .func (PySem.W.fnOf "_law_new" "_law_new" (defArgs s__law_new) (defBody s__law_new) (defScope s__law_new) .none kV26 dc26 pm26 an26 cd26 ct26), sl26⟩)
    (c26 : PySem.W.codeIn K cd26 "_law_new" = true)
    (k26 : PySem.W.keepIn K (.ref f26) = true)
    (a27 : PySem.W.nsIn K mainGlobals "_law_cut" = some (some (.ref f27)))
    (l27 : K.lookup f27 = some ⟨oc27, od27, .func (PySem.W.fnOf "_law_cut" "_law_cut" (defArgs s__law_cut) (defBody s__law_cut) (defScope s__law_cut) .none kV27 dc27 pm27 an27 cd27 ct27), sl27⟩)
    (c27 : PySem.W.codeIn K cd27 "_law_cut" = true)
    (k27 : PySem.W.keepIn K (.ref f27) = true)
    (a28 : PySem.W.nsIn K mainGlobals "_law_write" = some (some (.ref f28)))
    (l28 : K.lookup f28 = some ⟨oc28, od28, .func (PySem.W.fnOf "_law_write" "_law_write" (defArgs s__law_write) (defBody s__law_write) (defScope s__law_write) .none kV28 dc28 pm28 an28 cd28 ct28), sl28⟩)
    (c28 : PySem.W.codeIn K cd28 "_law_write" = true)
    (k28 : PySem.W.keepIn K (.ref f28) = true)
    (a29 : PySem.W.nsIn K mainGlobals "_law_close" = some (some (.ref f29)))
    (l29 : K.lookup f29 = some ⟨oc29, od29, .func (PySem.W.fnOf "_law_close" "_law_close" (defArgs s__law_close) (defBody s__law_close) (defScope s__law_close) .none kV29 dc29 pm29 an29 cd29 ct29), sl29⟩)
    (c29 : PySem.W.codeIn K cd29 "_law_close" = true)
    (k29 : PySem.W.keepIn K (.ref f29) = true)
    (a30 : PySem.W.nsIn K mainGlobals "_law_mend" = some (some (.ref f30)))
    (l30 : K.lookup f30 = some ⟨oc30, od30, .func (PySem.W.fnOf "_law_mend" "_law_mend" (defArgs s__law_mend) (defBody s__law_mend) (defScope s__law_mend) .none kV30 dc30 pm30 an30 cd30 ct30), sl30⟩)
    (c30 : PySem.W.codeIn K cd30 "_law_mend" = true)
    (k30 : PySem.W.keepIn K (.ref f30) = true)
    (a31 : PySem.W.nsIn K mainGlobals "law" = some (some (.ref f31)))
    (l31 : K.lookup f31 = some ⟨oc31, od31, .func (PySem.W.fnOf "law" "law" (defArgs s_law) (defBody s_law) (defScope s_law) .none kV31 dc31 pm31 an31 cd31 ct31), sl31⟩)
    (c31 : PySem.W.codeIn K cd31 "law" = true)
    (k31 : PySem.W.keepIn K (.ref f31) = true)
    (noDiskpair : PySem.W.findIn K (.ref CDisk) "pair" = some none)
    (xLTorn : K.lookup CTorn = some (excClassObj nmTorn qTorn CTorn NTorn bsTorn bmTorn true snTorn subTorn abTorn colTorn ddTorn m0Torn m1Torn m2Torn m3Torn m5Torn "ValueError.__new__"))
    (vETorn : PySem.HandSPX.refsVE bmTorn = true)
    (sxTorn : PySem.W.findIn K (.ref CTorn) "__setattr__" = some (some (.builtin "object.__setattr__")))
    (eCTorn : PySem.W.subIn K (.ref CTorn) (.type "BaseException") = some true)
    (tCTorn : PySem.W.typeIn K (.ref CTorn) = some (.type "type"))
    (kxTorn : PySem.W.keepIn K (.ref CTorn) = true)
    (nxTorntext : PySem.W.findIn K (.ref CTorn) "text" = some none)
    (iiTorn : PySem.W.findIn K (.ref CTorn) "__init__" = some (some (.ref iTorn)))
    (tiTorn : PySem.W.typeIn K (.ref iTorn) = some (.type "function"))
    (liTorn : K.lookup iTorn = some ⟨ociTorn, odiTorn, .func (PySem.W.fnOf "__init__" "Torn.__init__" (defArgs s_iTorn) (defBody s_iTorn) (defScope s_iTorn) .none kViTorn dciTorn pmiTorn aniTorn cdiTorn ctiTorn), sliTorn⟩)
    (ciTorn : PySem.W.codeIn K cdiTorn "Torn.__init__" = true)
    (kiTorn : PySem.W.keepIn K (.ref iTorn) = true)
    (xLBadBook : K.lookup CBadBook = some (excClassObj nmBadBook qBadBook CBadBook NBadBook bsBadBook bmBadBook true snBadBook subBadBook abBadBook colBadBook ddBadBook m0BadBook m1BadBook m2BadBook m3BadBook m5BadBook "ValueError.__new__"))
    (vEBadBook : PySem.HandSPX.refsVE bmBadBook = true)
    (sxBadBook : PySem.W.findIn K (.ref CBadBook) "__setattr__" = some (some (.builtin "object.__setattr__")))
    (eCBadBook : PySem.W.subIn K (.ref CBadBook) (.type "BaseException") = some true)
    (tCBadBook : PySem.W.typeIn K (.ref CBadBook) = some (.type "type"))
    (kxBadBook : PySem.W.keepIn K (.ref CBadBook) = true)
    (nxBadBooktexts : PySem.W.findIn K (.ref CBadBook) "texts" = some none)
    (iiBadBook : PySem.W.findIn K (.ref CBadBook) "__init__" = some (some (.ref iBadBook)))
    (tiBadBook : PySem.W.typeIn K (.ref iBadBook) = some (.type "function"))
    (liBadBook : K.lookup iBadBook = some ⟨ociBadBook, odiBadBook, .func (PySem.W.fnOf "__init__" "BadBook.__init__" (defArgs s_iBadBook) (defBody s_iBadBook) (defScope s_iBadBook) .none kViBadBook dciBadBook pmiBadBook aniBadBook cdiBadBook ctiBadBook), sliBadBook⟩)
    (ciBadBook : PySem.W.codeIn K cdiBadBook "BadBook.__init__" = true)
    (kiBadBook : PySem.W.keepIn K (.ref iBadBook) = true)
    (gaBadBook : PySem.W.findIn K (.ref CBadBook) "__getattribute__" = some (some (.builtin "BaseException.__getattribute__")))
    (ggBadBook : PySem.W.findIn K (.ref CBadBook) "__getattr__" = some none)
    (hxBadBook : PySem.W.hasDictIn K CBadBook = true)
    (hclBadBook : PySem.W.findIn K (.ref CBadBook) "__class__" = some (some (.builtin "object.__class__")))
    (hgd : PySem.W.specialIn K (.builtin "object.__class__") "__get__" = some (some (.builtin "getset_descriptor.__get__")))
    (htk : PySem.W.takesIn K (.builtin "object.__class__") = some true)
    (hmoBadBook : PySem.W.mroIn K CBadBook (.type "object") = some true)
    (gaTorn : PySem.W.findIn K (.ref CTorn) "__getattribute__" = some (some (.builtin "BaseException.__getattribute__")))
    (ggTorn : PySem.W.findIn K (.ref CTorn) "__getattr__" = some none)
    (hxTorn : PySem.W.hasDictIn K CTorn = true)
    (hclTorn : PySem.W.findIn K (.ref CTorn) "__class__" = some (some (.builtin "object.__class__")))
    (hmoTorn : PySem.W.mroIn K CTorn (.type "object") = some true)
    (sTorn_Torn : PySem.W.subIn K (.ref CTorn) (.ref CTorn) = some true)
    (sBadBook_BadBook : PySem.W.subIn K (.ref CBadBook) (.ref CBadBook) = some true)
    (z_abs : PySem.W.nsIn K mainGlobals "abs" = some none)
    (z_bool : PySem.W.nsIn K mainGlobals "bool" = some none)
    (z_int : PySem.W.nsIn K mainGlobals "int" = some none)
    (z_isinstance : PySem.W.nsIn K mainGlobals "isinstance" = some none)
    (z_len : PySem.W.nsIn K mainGlobals "len" = some none)
    (z_list : PySem.W.nsIn K mainGlobals "list" = some none)
    (z_max : PySem.W.nsIn K mainGlobals "max" = some none)
    (z_min : PySem.W.nsIn K mainGlobals "min" = some none)
    (z_range : PySem.W.nsIn K mainGlobals "range" = some none)
    (z_str : PySem.W.nsIn K mainGlobals "str" = some none)
    (z_tuple : PySem.W.nsIn K mainGlobals "tuple" = some none)
    (v_FIGURES : PySem.W.nsIn K mainGlobals "FIGURES" = some (some (.str (Str.ofString "0123456789") tkFIGURES)))
    (v_MOST_FIGURES : PySem.W.nsIn K mainGlobals "MOST_FIGURES" = some (some (.int 9 tkMOST_FIGURES))) :
    ∃ fd : FuncData, (∀ (s : Shared) (v : Value), BindsTo s fd ⟨[v], []⟩ [("script", v)]) ∧ ∀ base : Heap, K.In base → base.Ns mainGlobals mg → FnOk P w K mg base (L2N.CX P w) 32 fa fd ["script"] (lsp K 1 sp_law) := by
  let c : Cs := ⟨CShopError, CTorn, CBadBook, CDisk⟩
  have Dd : Ds K mg c := ⟨d0_mk X G a0 l0 c0 k0,
    d0_mk X G a1 l1 c1 k1,
    d0_mk X G a2 l2 c2 k2,
    d0_mk X G a3 l3 c3 k3,
    ⟨f4, PySem.W.mg_of X G aCDisk, ⟨mkDisk, a4, i4, kCDisk⟩, (at0_mk l4 c4 k4 (.inl rfl))⟩,
    ⟨mcDisk, pp5, f5, ⟨rdDisk, gtDisk⟩, ⟨a5, ⟨_, r5⟩, i5⟩, (at0_mk l5 c5 k5 (.inl rfl))⟩,
    ⟨f6, ⟨pgDisk, hdDisk, poDisk, saDisk⟩, ⟨a6, i6, k6⟩, (at0_mk l6 c6 k6 (.inl rfl))⟩,
    ⟨f7, ⟨pgDisk, hdDisk, poDisk, saDisk⟩, ⟨a7, i7, k7⟩, (at0_mk l7 c7 k7 (.inl rfl))⟩,
    ⟨f8, ⟨pgDisk, hdDisk, poDisk, saDisk⟩, ⟨a8, i8, k8⟩, (at0_mk l8 c8 k8 (.inl rfl))⟩,
    ⟨pp9, f9, ⟨pgDisk, hdDisk, poDisk, saDisk⟩, ⟨a9, g9, t9, ⟨_, r9⟩⟩, (at0_mk l9 c9 k9 (.inl rfl))⟩,
    ⟨f10, ⟨pgDisk, hdDisk, poDisk, saDisk⟩, ⟨a10, i10, k10⟩, (at0_mk l10 c10 k10 (.inl rfl))⟩,
    ⟨f11, ⟨pgDisk, hdDisk, poDisk, saDisk⟩, ⟨a11, i11, k11⟩, (at0_mk l11 c11 k11 (.inl rfl))⟩,
    ⟨f12, ⟨pgDisk, hdDisk, poDisk, saDisk⟩, ⟨a12, i12, k12⟩, (at0_mk l12 c12 k12 (.inr ⟨kD12, rfl, fun q hq => by simp at hq; subst hq; exact ⟨.none, n12_0, rfl⟩⟩))⟩,
    ⟨f13, ⟨pgDisk, hdDisk, poDisk, saDisk⟩, ⟨a13, i13, k13⟩, (at0_mk l13 c13 k13 (.inr ⟨kD13, rfl, fun q hq => by simp at hq; subst hq; exact ⟨.none, n13_0, rfl⟩⟩))⟩,
    ⟨f14, ⟨pgDisk, hdDisk, poDisk, saDisk⟩, ⟨a14, i14, k14⟩, (at0_mk l14 c14 k14 (.inl rfl))⟩,
    ⟨f15, a15, y15, (at0_mk l15 c15 k15 (.inl rfl))⟩,
    d0_mk X G a16 l16 c16 k16,
    d0_mk X G a17 l17 c17 k17,
    d0_mk X G a18 l18 c18 k18,
    d0_mk X G a19 l19 c19 k19,
    d0_mk X G a20 l20 c20 k20,
    d0_mk X G a21 l21 c21 k21,
    d0_mk X G a22 l22 c22 k22,
    d0_mk X G a23 l23 c23 k23,
    d0_mk X G a24 l24 c24 k24,
    d0_mk X G a25 l25 c25 k25,
    d0_mk X G a26 l26 c26 k26,
    d0_mk X G a27 l27 c27 k27,
    d0_mk X G a28 l28 c28 k28,
    d0_mk X G a29 l29 c29 k29,
    d0_mk X G a30 l30 c30 k30,
    d0_mk X G a31 l31 c31 k31⟩
  have TTorn : OexC K CTorn := ⟨⟨nmTorn, qTorn, NTorn, bsTorn, bmTorn, snTorn, subTorn, abTorn, colTorn, ddTorn, m0Torn, m1Torn, m2Torn, m3Torn, m5Torn, xLTorn, vETorn⟩, sxTorn, eCTorn, tCTorn, kxTorn⟩
  have TBadBook : OexC K CBadBook := ⟨⟨nmBadBook, qBadBook, NBadBook, bsBadBook, bmBadBook, snBadBook, subBadBook, abBadBook, colBadBook, ddBadBook, m0BadBook, m1BadBook, m2BadBook, m3BadBook, m5BadBook, xLBadBook, vEBadBook⟩, sxBadBook, eCBadBook, tCBadBook, kxBadBook⟩
  have B : Bs K mg c := ⟨PySem.W.mg_none_of X G z_abs,
    PySem.W.mg_none_of X G z_bool,
    PySem.W.mg_none_of X G z_int,
    PySem.W.mg_none_of X G z_isinstance,
    PySem.W.mg_none_of X G z_len,
    PySem.W.mg_none_of X G z_list,
    PySem.W.mg_none_of X G z_max,
    PySem.W.mg_none_of X G z_min,
    PySem.W.mg_none_of X G z_range,
    PySem.W.mg_none_of X G z_str,
    PySem.W.mg_none_of X G z_tuple,
    ⟨.str (Str.ofString "0123456789"), _, PySem.W.mg_of X G v_FIGURES, ⟨_, rfl⟩, fun _ => rep_str.mpr (by rw [tx_cs])⟩,
    ⟨.int 9, _, PySem.W.mg_of X G v_MOST_FIGURES, ⟨_, rfl⟩, fun _ => rep_int.mpr rfl⟩,
    PySem.W.mg_of X G aCShopError,
    PySem.W.mg_of X G aCTorn,
    PySem.W.mg_of X G aCBadBook,
    PySem.W.mg_of X G aCDisk,
    ⟨gaBadBook, ggBadBook, nxBadBooktexts, eCBadBook, hxBadBook⟩,
    ⟨gaTorn, ggTorn, nxTorntext, eCTorn, hxTorn⟩⟩
  have hF : FldOk K c.Disk "pair" := ⟨⟨pgDisk, hdDisk, poDisk, saDisk⟩, noDiskpair⟩
  have ks : Ks K c := ⟨PySem.W.exm_ref eCTorn hxTorn tCTorn sTorn_Torn, PySem.W.exm_ref eCBadBook hxBadBook tCBadBook sBadBook_BadBook⟩
  have FiTorn : FunD K "__init__" "Torn.__init__" (defArgs s_iTorn) (defBody s_iTorn) (defScope s_iTorn) [] [] iTorn _ := ⟨⟨_, _, .none, _, _, _, _, _, _, _, rfl, liTorn, ciTorn, .inl ⟨rfl, rfl⟩, .inl rfl⟩, kiTorn⟩
  have FiBadBook : FunD K "__init__" "BadBook.__init__" (defArgs s_iBadBook) (defBody s_iBadBook) (defScope s_iBadBook) [] [] iBadBook _ := ⟨⟨_, _, .none, _, _, _, _, _, _, _, rfl, liBadBook, ciBadBook, .inl ⟨rfl, rfl⟩, .inl rfl⟩, kiBadBook⟩
  obtain ⟨f, fd, hm, F⟩ := Dd.d_law
  have e := hm.symm.trans hfa
  cases e
  refine ⟨fd, fun s v => F.bindsA (ps := ["script"]) (fun _ _ _ _ _ _ us hl => match us, hl with | [_], _ => rfl) s [v] rfl, fun base _ _ => ?_⟩
  have xTorn : ExF P w K mg base "Torn" c.Torn ["text"] := ⟨TTorn, B.c_Torn, _, _, _, iiTorn, tiTorn, ini1 FiTorn rfl sc_iTorn TTorn nxTorntext (fun cdv A outer s H E => ps_ost (pv 0) (pv 1)), FiTorn.bindsN (fun _ _ _ _ _ _ us hl => match us, hl with | [_, _], _ => rfl)⟩
  have xBadBook : ExF P w K mg base "BadBook" c.BadBook ["texts"] := ⟨TBadBook, B.c_BadBook, _, _, _, iiBadBook, tiBadBook, ini1 FiBadBook rfl sc_iBadBook TBadBook nxBadBooktexts (fun cdv A outer s H E => ps_ost (pv 0) (pv 1)), FiBadBook.bindsN (fun _ _ _ _ _ _ us hl => match us, hl with | [_, _], _ => rfl)⟩
  exact all_ff B Dd xTorn xBadBook hF ks F
theorem walk {l : PySem.W.OpenLaw} {q : Program} {loose : List Str} {XP : (Str → Option Value) → Heap → Prop} {YP : World → Heap → Prop} {d : DefRec} {K : Params → PySem.W.Frag} (hn : l.most = some 63) (hdf : d.params.defaults = [])
    (hY : ∀ (w : World) (h : Heap), YP w h → (K w.params).In h)
    (F : ∀ (w : World) (mg : Str → Option Value) (fa : Addr) (h : Heap), (K w.params).In h → h.Ns mainGlobals mg → mg d.name = some (.ref fa) →
      ∃ fd : FuncData, (∀ (s : Shared) (u : Value), BindsTo s fd ⟨[u], []⟩ [("script", u)]) ∧ ∀ base : Heap, (K w.params).In base → base.Ns mainGlobals mg → FnOk l.prog w (K w.params) mg base (L2N.CX l.prog w) 32 fa fd ["script"] (lsp (K w.params) 1 sp_law)) :
    PySem.W.WalkO q loose XP YP l.row.toRowW d [] (fun f vs => PySem.call f vs) :=
  L2.walk_of (n := 63) (k := 32) (x := "script") (CX := fun w => L2N.CX l.prog w) (sp := fun w => lsp (K w.params) 1 sp_law) hn (by decide) hdf ⟨rfl, by decide, by decide⟩ hY F (fun w H a ns hl _ hS => lsp_law hS fun sd S hs => ⟨sd, ns, rfl, hs, fun _ => rfl⟩) fun w H s e s' z => cx_no z
end K82

set_option Elab.async false
open PySem PySem.W PyProof.Rows
set_option maxRecDepth 100000 in
set_option maxHeartbeats 0 in
theorem PySem.Challenge.cw_oncecoin_k82_disks_side_by_side_holds : PySem.Challenge.rw_oncecoin_k82_disks_side_by_side.Holds := by
  w_on; o_law; k_head; (case hw => w_witness2)
  k_fill
  refine K82.walk (l := PySem.Challenge.rw_oncecoin_k82_disks_side_by_side) rfl rfl (fun w h Y => PySem.W.kIn_of Y) ?F
  case F =>
    intro w mg fa h KX G hmg
    refine' K82.all_mk KX G hmg ?aCShopError ?aCTorn ?aCBadBook ?aCDisk ?a0 ?l0 ?c0 ?k0 ?a1 ?l1 ?c1 ?k1 ?a2 ?l2 ?c2 ?k2 ?a3 ?l3 ?c3 ?k3 ?mkDisk ?a4 ?i4 ?kCDisk ?l4 ?c4 ?k4 ?tmDisk ?rdDisk ?gtDisk ?a5 ?r5 ?i5 ?l5 ?c5 ?k5 ?pgDisk ?hdDisk ?poDisk ?saDisk ?a6 ?i6 ?l6 ?c6 ?k6 ?a7 ?i7 ?l7 ?c7 ?k7 ?a8 ?i8 ?l8 ?c8 ?k8 ?a9 ?g9 ?t9 ?r9 ?l9 ?c9 ?k9 ?a10 ?i10 ?l10 ?c10 ?k10 ?a11 ?i11 ?l11 ?c11 ?k11 ?a12 ?i12 ?l12 ?c12 ?k12 ?n12_0 ?a13 ?i13 ?l13 ?c13 ?k13 ?n13_0 ?a14 ?i14 ?l14 ?c14 ?k14 ?a15 ?y15 ?l15 ?c15 ?k15 ?a16 ?l16 ?c16 ?k16 ?a17 ?l17 ?c17 ?k17 ?a18 ?l18 ?c18 ?k18 ?a19 ?l19 ?c19 ?k19 ?a20 ?l20 ?c20 ?k20 ?a21 ?l21 ?c21 ?k21 ?a22 ?l22 ?c22 ?k22 ?a23 ?l23 ?c23 ?k23 ?a24 ?l24 ?c24 ?k24 ?a25 ?l25 ?c25 ?k25 ?a26 ?l26 ?c26 ?k26 ?a27 ?l27 ?c27 ?k27 ?a28 ?l28 ?c28 ?k28 ?a29 ?l29 ?c29 ?k29 ?a30 ?l30 ?c30 ?k30 ?a31 ?l31 ?c31 ?k31 ?noDiskpair ?xLTorn ?vETorn ?sxTorn ?eCTorn ?tCTorn ?kxTorn ?nxTorntext ?iiTorn ?tiTorn ?liTorn ?ciTorn ?kiTorn ?xLBadBook ?vEBadBook ?sxBadBook ?eCBadBook ?tCBadBook ?kxBadBook ?nxBadBooktexts ?iiBadBook ?tiBadBook ?liBadBook ?ciBadBook ?kiBadBook ?gaBadBook ?ggBadBook ?hxBadBook ?hclBadBook ?hgd ?htk ?hmoBadBook ?gaTorn ?ggTorn ?hxTorn ?hclTorn ?hmoTorn ?sTorn_Torn ?sBadBook_BadBook ?z_abs ?z_bool ?z_int ?z_isinstance ?z_len ?z_list ?z_max ?z_min ?z_range ?z_str ?z_tuple ?v_FIGURES ?v_MOST_FIGURES
    (case aCShopError => first | k_is | rfl)
    (case aCTorn => first | k_is | rfl)
    (case aCBadBook => first | k_is | rfl)
    (case aCDisk => first | k_is | rfl)
    (case a0 => first | k_is | rfl)
    (case l0 => first | k_is | rfl)
    (case c0 => first | k_is | rfl)
    (case k0 => first | k_is | rfl)
    (case a1 => first | k_is | rfl)
    (case l1 => first | k_is | rfl)
    (case c1 => first | k_is | rfl)
    (case k1 => first | k_is | rfl)
    (case a2 => first | k_is | rfl)
    (case l2 => first | k_is | rfl)
    (case c2 => first | k_is | rfl)
    (case k2 => first | k_is | rfl)
    (case a3 => first | k_is | rfl)
    (case l3 => first | k_is | rfl)
    (case c3 => first | k_is | rfl)
    (case k3 => first | k_is | rfl)
    (case mkDisk => first | k_is | rfl)
    (case a4 => first | k_is | rfl)
    (case i4 => first | k_is | rfl)
    (case kCDisk => first | k_is | rfl)
    (case l4 => first | k_is | rfl)
    (case c4 => first | k_is | rfl)
    (case k4 => first | k_is | rfl)
    (case tmDisk => first | k_is | rfl)
    (case rdDisk => first | k_is | rfl)
    (case gtDisk => first | k_is | rfl)
    (case a5 => first | k_is | rfl)
    (case r5 => first | k_is | rfl)
    (case i5 => first | k_is | rfl)
    (case l5 => first | k_is | rfl)
    (case c5 => first | k_is | rfl)
    (case k5 => first | k_is | rfl)
    (case pgDisk => first | k_is | rfl)
    (case hdDisk => first | k_is | rfl)
    (case poDisk => first | k_is | rfl)
    (case saDisk => first | k_is | rfl)
    (case a6 => first | k_is | rfl)
    (case i6 => first | k_is | rfl)
    (case l6 => first | k_is | rfl)
    (case c6 => first | k_is | rfl)
    (case k6 => first | k_is | rfl)
    (case a7 => first | k_is | rfl)
    (case i7 => first | k_is | rfl)
    (case l7 => first | k_is | rfl)
    (case c7 => first | k_is | rfl)
    (case k7 => first | k_is | rfl)
    (case a8 => first | k_is | rfl)
    (case i8 => first | k_is | rfl)
    (case l8 => first | k_is | rfl)
    (case c8 => first | k_is | rfl)
    (case k8 => first | k_is | rfl)
    (case a9 => first | k_is | rfl)
    (case g9 => first | k_is | rfl)
    (case t9 => first | k_is | rfl)
    (case r9 => first | k_is | rfl)
    (case l9 => first | k_is | rfl)
    (case c9 => first | k_is | rfl)
    (case k9 => first | k_is | rfl)
    (case a10 => first | k_is | rfl)
    (case i10 => first | k_is | rfl)
    (case l10 => first | k_is | rfl)
    (case c10 => first | k_is | rfl)
    (case k10 => first | k_is | rfl)
    (case a11 => first | k_is | rfl)
    (case i11 => first | k_is | rfl)
    (case l11 => first | k_is | rfl)
    (case c11 => first | k_is | rfl)
    (case k11 => first | k_is | rfl)
    (case a12 => first | k_is | rfl)
    (case i12 => first | k_is | rfl)
    (case l12 => first | k_is | rfl)
    (case c12 => first | k_is | rfl)
    (case k12 => first | k_is | rfl)
    (case n12_0 => first | k_is | rfl)
    (case a13 => first | k_is | rfl)
    (case i13 => first | k_is | rfl)
    (case l13 => first | k_is | rfl)
    (case c13 => first | k_is | rfl)
    (case k13 => first | k_is | rfl)
    (case n13_0 => first | k_is | rfl)
    (case a14 => first | k_is | rfl)
    (case i14 => first | k_is | rfl)
    (case l14 => first | k_is | rfl)
    (case c14 => first | k_is | rfl)
    (case k14 => first | k_is | rfl)
    (case a15 => first | k_is | rfl)
    (case y15 => first | k_is | rfl)
    (case l15 => first | k_is | rfl)
    (case c15 => first | k_is | rfl)
    (case k15 => first | k_is | rfl)
    (case a16 => first | k_is | rfl)
    (case l16 => first | k_is | rfl)
    (case c16 => first | k_is | rfl)
    (case k16 => first | k_is | rfl)
    (case a17 => first | k_is | rfl)
    (case l17 => first | k_is | rfl)
    (case c17 => first | k_is | rfl)
    (case k17 => first | k_is | rfl)
    (case a18 => first | k_is | rfl)
    (case l18 => first | k_is | rfl)
    (case c18 => first | k_is | rfl)
    (case k18 => first | k_is | rfl)
    (case a19 => first | k_is | rfl)
    (case l19 => first | k_is | rfl)
    (case c19 => first | k_is | rfl)
    (case k19 => first | k_is | rfl)
    (case a20 => first | k_is | rfl)
    (case l20 => first | k_is | rfl)
    (case c20 => first | k_is | rfl)
    (case k20 => first | k_is | rfl)
    (case a21 => first | k_is | rfl)
    (case l21 => first | k_is | rfl)
    (case c21 => first | k_is | rfl)
    (case k21 => first | k_is | rfl)
    (case a22 => first | k_is | rfl)
    (case l22 => first | k_is | rfl)
    (case c22 => first | k_is | rfl)
    (case k22 => first | k_is | rfl)
    (case a23 => first | k_is | rfl)
    (case l23 => first | k_is | rfl)
    (case c23 => first | k_is | rfl)
    (case k23 => first | k_is | rfl)
    (case a24 => first | k_is | rfl)
    (case l24 => first | k_is | rfl)
    (case c24 => first | k_is | rfl)
    (case k24 => first | k_is | rfl)
    (case a25 => first | k_is | rfl)
    (case l25 => first | k_is | rfl)
    (case c25 => first | k_is | rfl)
    (case k25 => first | k_is | rfl)
    (case a26 => first | k_is | rfl)
    (case l26 => first | k_is | rfl)
    (case c26 => first | k_is | rfl)
    (case k26 => first | k_is | rfl)
    (case a27 => first | k_is | rfl)
    (case l27 => first | k_is | rfl)
    (case c27 => first | k_is | rfl)
    (case k27 => first | k_is | rfl)
    (case a28 => first | k_is | rfl)
    (case l28 => first | k_is | rfl)
    (case c28 => first | k_is | rfl)
    (case k28 => first | k_is | rfl)
    (case a29 => first | k_is | rfl)
    (case l29 => first | k_is | rfl)
    (case c29 => first | k_is | rfl)
    (case k29 => first | k_is | rfl)
    (case a30 => first | k_is | rfl)
    (case l30 => first | k_is | rfl)
    (case c30 => first | k_is | rfl)
    (case k30 => first | k_is | rfl)
    (case a31 => first | k_is | rfl)
    (case l31 => first | k_is | rfl)
    (case c31 => first | k_is | rfl)
    (case k31 => first | k_is | rfl)
    (case noDiskpair => first | k_is | rfl)
    (case xLTorn => first | k_is | rfl)
    (case vETorn => first | rfl | decide +kernel | k_is)
    (case sxTorn => first | k_is | rfl)
    (case eCTorn => first | k_is | rfl)
    (case tCTorn => first | k_is | rfl)
    (case kxTorn => first | k_is | rfl)
    (case nxTorntext => first | k_is | rfl)
    (case iiTorn => first | k_is | rfl)
    (case tiTorn => first | k_is | rfl)
    (case liTorn => first | k_is | rfl)
    (case ciTorn => first | k_is | rfl)
    (case kiTorn => first | k_is | rfl)
    (case xLBadBook => first | k_is | rfl)
    (case vEBadBook => first | rfl | decide +kernel | k_is)
    (case sxBadBook => first | k_is | rfl)
    (case eCBadBook => first | k_is | rfl)
    (case tCBadBook => first | k_is | rfl)
    (case kxBadBook => first | k_is | rfl)
    (case nxBadBooktexts => first | k_is | rfl)
    (case iiBadBook => first | k_is | rfl)
    (case tiBadBook => first | k_is | rfl)
    (case liBadBook => first | k_is | rfl)
    (case ciBadBook => first | k_is | rfl)
    (case kiBadBook => first | k_is | rfl)
    (case gaBadBook => first | k_is | rfl)
    (case ggBadBook => first | k_is | rfl)
    (case hxBadBook => first | k_is | rfl)
    (case hclBadBook => first | k_is | rfl)
    (case hgd => first | k_is | rfl)
    (case htk => first | k_is | rfl)
    (case hmoBadBook => first | k_is | rfl)
    (case gaTorn => first | k_is | rfl)
    (case ggTorn => first | k_is | rfl)
    (case hxTorn => first | k_is | rfl)
    (case hclTorn => first | k_is | rfl)
    (case hmoTorn => first | k_is | rfl)
    (case sTorn_Torn => first | k_is | rfl)
    (case sBadBook_BadBook => first | k_is | rfl)
    (case z_abs => first | k_is | rfl)
    (case z_bool => first | k_is | rfl)
    (case z_int => first | k_is | rfl)
    (case z_isinstance => first | k_is | rfl)
    (case z_len => first | k_is | rfl)
    (case z_list => first | k_is | rfl)
    (case z_max => first | k_is | rfl)
    (case z_min => first | k_is | rfl)
    (case z_range => first | k_is | rfl)
    (case z_str => first | k_is | rfl)
    (case z_tuple => first | k_is | rfl)
    (case v_FIGURES => first | k_is | rfl)
    (case v_MOST_FIGURES => first | k_is | rfl)
#print axioms PySem.Challenge.cw_oncecoin_k82_disks_side_by_side_holds
