import PyProof.Rows.All
import Wide.All
import OpenK.AllK
import Wide.FinOn
import HandS.ForMost
import HandS.ForExc
import HandS.ExcInit
import HandS.CallSlots
import HandS.StrMore
import HandS.IsInst
import HandS.Defaults
import HandS.Property
import HandS.ClsMeth
import HandS.Flow
import HandS.Wide
import HandS.Conv
import HandS.HotCalls
import HandS.TupAny
import HandS.Deep
import HandS.NoneIn
import HandS.TryMany
import HandS.Dict
import HandS.ExcIs
import KE.KExcIs
import PyProof.StrOps2
import PySem.Challenge.RW_oncecoin_k00_next_signs_of_texts
import HandS.Text
import KE.IntTextLaws
import KE.IntTextText
set_option Elab.async false
set_option linter.all false
set_option maxRecDepth 100000
set_option maxHeartbeats 4000000
/-! SL: values as trees over the abstract heap. Tuples are values here; what may change stands at an address. -/
namespace SL
open PySem PySem.Spec L2

/-- the codes of a written text -/
def cs (s : String) : List Nat := s.toList.map Char.toNat
/-- a text of codes -/
def tx (l : List Nat) : Str := ⟨l.toArray⟩
theorem tx_cs (s : String) : tx (cs s) = Str.ofString s := by rw [Str.ofString_eq_toList]; rfl
theorem tx_inj {a b : List Nat} : tx a = tx b ↔ a = b := by
  constructor
  · intro h
    have := congrArg (fun x : Str => x.cps.toList) h
    simpa [tx] using this
  · rintro rfl; rfl
theorem tx_of (x : Str) : tx x.cps.toList = x := by cases x; simp [tx]
theorem tx_cps (l : List Nat) : (tx l).cps.toList = l := by simp [tx]
theorem tx_len (l : List Nat) : (tx l).length = l.length := by simp [tx, Str.length]

/-- a value: a tree; what may change stands at an address -/
inductive D where
  | non | bl (b : Bool) | int (i : Int) | str (x : List Nat) | tup (xs : List D) | ref (a : Addr)
  /-- an exception that is handled: its own dict, its attributes -/
  | exc (a : Addr) (dd : Option Addr) (ks : List Str) (ds : List D)
  /-- a list that stands in the written part -/
  | kl (xs : List D)

def KLs (K : PySem.W.Frag) (a : Addr) (xs : List V) : Prop := ∃ (o : Obj) (its : Array Value) (n : Nat), K.lookup a = some o ∧ o.cls = .type "list" ∧ o.dict = none ∧ o.data = .seq its n ∧ its.size ≤ sizeLine ∧ Vals xs its.toList
mutual
/-- the value v is the tree d in the heap H -/
def Rep (K : PySem.W.Frag) (H : Hp) : D → V → Prop
  | .non, v => v = .non
  | .bl b, v => v = .bl b
  | .int i, v => v = .int i
  | .str x, v => v = .str (tx x)
  | .ref a, v => v = .ref a
  | .tup xs, v => ∃ a vs, v = .ref a ∧ SqT K H a vs ∧ RepL K H xs vs
  | .exc a dd ks ds, v => ∃ vfs, v = .ref a ∧ (dd = none → ks = []) ∧ (∀ dx, dd = some dx → H dx = some (.xd vfs)) ∧ vfs.map (·.1) = ks ∧ RepL K H ds (vfs.map (·.2))
  | .kl xs, v => ∃ a vs, v = .ref a ∧ KLs K a vs ∧ RepL K H xs vs
def RepL (K : PySem.W.Frag) (H : Hp) : List D → List V → Prop
  | [], vs => vs = []
  | x :: xs, vs => ∃ v r, vs = v :: r ∧ Rep K H x v ∧ RepL K H xs r
end

/-- tuples and exceptions' dicts stay -/
structure TK (K : PySem.W.Frag) (H H' : Hp) : Prop where
  tup : ∀ a xs, SqT K H a xs → SqT K H' a xs
  xd : ∀ a fs, H a = some (.xd fs) → H' a = some (.xd fs)
theorem TK.refl (K : PySem.W.Frag) (H : Hp) : TK K H H := ⟨fun _ _ h => h, fun _ _ h => h⟩
theorem TK.trans {K : PySem.W.Frag} {H H1 H2 : Hp} (a : TK K H H1) (b : TK K H1 H2) : TK K H H2 := ⟨fun x xs h => b.tup x xs (a.tup x xs h), fun x xs h => b.xd x xs (a.xd x xs h)⟩
theorem TK.of_same {K : PySem.W.Frag} {H H' : Hp} (h : Same H H') : TK K H H' := ⟨fun a xs q => by
  rcases q with (q | ⟨o, q⟩) | q
  · exact .inl (.inl (h _ _ q))
  · exact .inl (.inr ⟨o, h _ _ q⟩)
  · exact .inr q, fun a fs q => h _ _ q⟩
theorem Same.new {H : Hp} {p : Addr} {o : HO} (h : H p = none) : Same H (upd H p o) := fun b u e => by rw [upd_ne (ne_of_none e h)]; exact e
theorem TK.new {K : PySem.W.Frag} {H : Hp} {p : Addr} {o : HO} (h : H p = none) : TK K H (upd H p o) := .of_same (Same.new h)
theorem TK.mut {K : PySem.W.Frag} {H : Hp} {p : Addr} {o : HO} (h : Mut (H p)) : TK K H (upd H p o) := by
  have nt : ∀ {c : Addr} {u : HO}, H c = some u → ¬ Mut (some u) → c ≠ p := fun {c u} e nm z => by rw [← z, e] at h; exact nm h
  refine ⟨fun a xs q => ?_, fun a fs q => by rw [upd_ne (nt q fun z => z)]; exact q⟩
  rcases q with (q | ⟨o, q⟩) | q
  · exact .inl (.inl (by rw [upd_ne (nt q fun z => z)]; exact q))
  · exact .inl (.inr ⟨o, by rw [upd_ne (nt q fun z => z)]; exact q⟩)
  · exact .inr q

mutual
theorem Rep.mono {K : PySem.W.Frag} {H H' : Hp} (t : TK K H H') : ∀ (d : D) (v : V), Rep K H d v → Rep K H' d v
  | .non, v, h => h
  | .bl b, v, h => h
  | .int i, v, h => h
  | .str x, v, h => h
  | .ref a, v, h => h
  | .tup xs, v, h => by
    obtain ⟨a, vs, e, s, r⟩ := h
    exact ⟨a, vs, e, t.tup _ _ s, RepL.mono t xs vs r⟩
  | .exc a dd ks ds, v, h => by
    obtain ⟨vfs, e, e2, hx, hk, r⟩ := h
    exact ⟨vfs, e, e2, fun dx ed => t.xd _ _ (hx dx ed), hk, RepL.mono t ds _ r⟩
  | .kl xs, v, h => by
    obtain ⟨a, vs, e, s, r⟩ := h
    exact ⟨a, vs, e, s, RepL.mono t xs vs r⟩
theorem RepL.mono {K : PySem.W.Frag} {H H' : Hp} (t : TK K H H') : ∀ (ds : List D) (vs : List V), RepL K H ds vs → RepL K H' ds vs
  | [], vs, h => h
  | d :: ds, vs, h => by
    obtain ⟨v, r, e, h1, h2⟩ := h
    exact ⟨v, r, e, Rep.mono t d v h1, RepL.mono t ds r h2⟩
end
theorem Rep.keep {K : PySem.W.Frag} {H H' : Hp} {d : D} {v : V} (h : Rep K H d v) (t : TK K H H') : Rep K H' d v := Rep.mono t d v h
theorem RepL.keep {K : PySem.W.Frag} {H H' : Hp} {d : List D} {v : List V} (h : RepL K H d v) (t : TK K H H') : RepL K H' d v := RepL.mono t d v h

section
variable {K : PySem.W.Frag} {H : Hp}
theorem rep_non {v : V} : Rep K H .non v ↔ v = .non := by simp [Rep]
theorem rep_bl {b : Bool} {v : V} : Rep K H (.bl b) v ↔ v = .bl b := by simp [Rep]
theorem rep_int {i : Int} {v : V} : Rep K H (.int i) v ↔ v = .int i := by simp [Rep]
theorem rep_str {x : List Nat} {v : V} : Rep K H (.str x) v ↔ v = .str (tx x) := by simp [Rep]
theorem rep_ref {a : Addr} {v : V} : Rep K H (.ref a) v ↔ v = .ref a := by simp [Rep]
theorem rep_tup {xs : List D} {v : V} : Rep K H (.tup xs) v ↔ ∃ a vs, v = .ref a ∧ SqT K H a vs ∧ RepL K H xs vs := by simp [Rep]
theorem rep_kl {xs : List D} {v : V} : Rep K H (.kl xs) v ↔ ∃ a vs, v = .ref a ∧ KLs K a vs ∧ RepL K H xs vs := by simp [Rep]
theorem repL_nil {vs : List V} : RepL K H [] vs ↔ vs = [] := by simp [RepL]
theorem repL_cons {d : D} {ds : List D} {vs : List V} : RepL K H (d :: ds) vs ↔ ∃ v r, vs = v :: r ∧ Rep K H d v ∧ RepL K H ds r := by simp [RepL]
theorem RepL.cons {d : D} {ds : List D} {v : V} {vs : List V} (h : Rep K H d v) (t : RepL K H ds vs) : RepL K H (d :: ds) (v :: vs) := repL_cons.mpr ⟨v, vs, rfl, h, t⟩
theorem RepL.nil : RepL K H [] [] := repL_nil.mpr rfl
theorem RepL.length : ∀ {ds : List D} {vs : List V}, RepL K H ds vs → vs.length = ds.length
  | [], vs, h => by rw [repL_nil.mp h]; rfl
  | d :: ds, vs, h => by
    obtain ⟨v, r, e, _, h2⟩ := repL_cons.mp h
    rw [e, List.length_cons, List.length_cons, RepL.length h2]
theorem RepL.get : ∀ {ds : List D} {vs : List V} {i : Nat} {d : D}, RepL K H ds vs → ds[i]? = some d → ∃ v, vs[i]? = some v ∧ Rep K H d v
  | [], _, _, _, _, e => by simp at e
  | d :: ds, vs, i, d', h, e => by
    obtain ⟨v, r, ev, h1, h2⟩ := repL_cons.mp h
    subst ev
    cases i with
    | zero => simp at e; subst e; exact ⟨v, rfl, h1⟩
    | succ i =>
      obtain ⟨w, e1, e2⟩ := RepL.get (i := i) h2 (by simpa using e)
      exact ⟨w, by simpa using e1, e2⟩
theorem RepL.getV : ∀ {ds : List D} {vs : List V} {i : Nat} {v : V}, RepL K H ds vs → vs[i]? = some v → ∃ d, ds[i]? = some d ∧ Rep K H d v
  | [], vs, _, _, h, e => by rw [repL_nil.mp h] at e; simp at e
  | d :: ds, vs, i, v', h, e => by
    obtain ⟨v, r, ev, h1, h2⟩ := repL_cons.mp h
    subst ev
    cases i with
    | zero => simp at e; subst e; exact ⟨d, rfl, h1⟩
    | succ i =>
      obtain ⟨w, e1, e2⟩ := RepL.getV (i := i) h2 (by simpa using e)
      exact ⟨w, by simpa using e1, e2⟩
theorem RepL.append : ∀ {ds ds' : List D} {vs vs' : List V}, RepL K H ds vs → RepL K H ds' vs' → RepL K H (ds ++ ds') (vs ++ vs')
  | [], _, vs, _, h, t => by rw [repL_nil.mp h]; exact t
  | d :: ds, ds', vs, vs', h, t => by
    obtain ⟨v, r, ev, h1, h2⟩ := repL_cons.mp h
    subst ev
    exact .cons h1 (RepL.append h2 t)
theorem RepL.take : ∀ {ds : List D} {vs : List V} (n : Nat), RepL K H ds vs → RepL K H (ds.take n) (vs.take n)
  | _, _, 0, _ => by simp [RepL]
  | [], vs, n + 1, h => by rw [repL_nil.mp h]; simp [RepL]
  | d :: ds, vs, n + 1, h => by
    obtain ⟨v, r, ev, h1, h2⟩ := repL_cons.mp h
    subst ev
    exact .cons h1 (RepL.take n h2)
theorem RepL.drop : ∀ {ds : List D} {vs : List V} (n : Nat), RepL K H ds vs → RepL K H (ds.drop n) (vs.drop n)
  | _, _, 0, h => by simpa using h
  | [], vs, n + 1, h => by rw [repL_nil.mp h]; simp [RepL]
  | d :: ds, vs, n + 1, h => by
    obtain ⟨v, r, ev, h1, h2⟩ := repL_cons.mp h
    subst ev
    exact RepL.drop n h2
theorem RepL.set : ∀ {ds : List D} {vs : List V} {d : D} {v : V} (i : Nat), Rep K H d v → RepL K H ds vs → RepL K H (ds.set i d) (vs.set i v)
  | [], vs, _, _, _, _, h => by rw [repL_nil.mp h]; simp [RepL]
  | d :: ds, vs, d', v', i, r', h => by
    obtain ⟨v, r, ev, h1, h2⟩ := repL_cons.mp h
    subst ev
    cases i with
    | zero => exact .cons r' h2
    | succ i => exact .cons h1 (RepL.set i r' h2)
theorem RepL.reverse {ds : List D} {vs : List V} (h : RepL K H ds vs) : RepL K H ds.reverse vs.reverse := by
  induction ds generalizing vs with
  | nil => rw [repL_nil.mp h]; simp [RepL]
  | cons d ds ih =>
    obtain ⟨v, r, ev, h1, h2⟩ := repL_cons.mp h
    subst ev
    rw [List.reverse_cons, List.reverse_cons]
    exact (ih h2).append (.cons h1 .nil)
theorem RepL.uncons {d : D} {ds : List D} {v : V} {vs : List V} (h : RepL K H (d :: ds) (v :: vs)) : Rep K H d v ∧ RepL K H ds vs := by
  obtain ⟨v', r, ev, h1, h2⟩ := repL_cons.mp h
  cases ev
  exact ⟨h1, h2⟩
theorem Rep.tup {a : Addr} {xs : List D} {vs : List V} (h : SqT K H a vs) (r : RepL K H xs vs) : Rep K H (.tup xs) (.ref a) := rep_tup.mpr ⟨a, vs, rfl, h, r⟩
theorem Rep.newTup {p : Addr} {xs : List D} {vs : List V} (n : H p = none) (r : RepL K H xs vs) : Rep K (upd H p (.tup vs)) (.tup xs) (.ref p) :=
  .tup (.of upd_same) (r.keep (.new n))
end

/-- what stands at an address -/
inductive Ob where
  /-- a list that may change -/
  | lst (xs : List D)
  /-- a list that is read alone -/
  | rol (xs : List D)
  /-- an instance, its attributes in order -/
  | ins (C : Addr) (fs : List (Str × D))
  /-- a dict, its keys ints and texts -/
  | dic (kvs : List (Key × D))
abbrev SS := Addr → Option Ob
abbrev En := List (Option D)
abbrev Fs := List (Str × D)

def FsR (K : PySem.W.Frag) (H : Hp) (fs : Fs) (vfs : List (Str × V)) : Prop := vfs.map (·.1) = fs.map (·.1) ∧ RepL K H (fs.map (·.2)) (vfs.map (·.2))
def DicR (K : PySem.W.Frag) (H : Hp) (kvs : List (Key × D)) (vk : List (Key × V)) : Prop := vk.map (·.1) = kvs.map (·.1) ∧ RepL K H (kvs.map (·.2)) (vk.map (·.2))
def ObR (K : PySem.W.Frag) (H : Hp) (a : Addr) : Ob → Prop
  | .lst xs => ∃ vs, H a = some (.lst vs) ∧ RepL K H xs vs
  | .rol xs => ∃ vs, Rd H a (.lst vs) ∧ RepL K H xs vs
  | .ins C fs => ∃ dx vfs, H a = some (.ins C dx vfs) ∧ FsR K H fs vfs
  | .dic kvs => ∃ vk, H a = some (.dK vk) ∧ DicR K H kvs vk
/-- the state S is in the heap H -/
def AbsS (K : PySem.W.Frag) (H : Hp) (S : SS) : Prop := ∀ a o, S a = some o → ObR K H a o
def EnvR (K : PySem.W.Frag) (H : Hp) (env : En) (σ : St) : Prop := σ.length = env.length ∧ ∀ (i : Nat) (d : D), env[i]? = some (some d) → ∃ v, (σ : List (Option V))[i]? = some (some v) ∧ Rep K H d v

def sup (S : SS) (a : Addr) (o : Ob) : SS := fun b => if b = a then some o else S b
theorem sup_same {S : SS} {a : Addr} {o : Ob} : sup S a o a = some o := by unfold sup; rw [if_pos rfl]
theorem sup_ne {S : SS} {a b : Addr} {o : Ob} (h : b ≠ a) : sup S a o b = S b := by unfold sup; rw [if_neg h]
theorem sup_sup {S : SS} {a : Addr} {o u : Ob} : sup (sup S a o) a u = sup S a u := by funext b; unfold sup; split <;> rfl
/-- less is known -/
def Le (S S' : SS) : Prop := ∀ a o, S a = some o → S' a = some o
theorem Le.refl (S : SS) : Le S S := fun _ _ h => h
theorem Le.trans {S S1 S2 : SS} (a : Le S S1) (b : Le S1 S2) : Le S S2 := fun c o h => b c o (a c o h)
theorem Le.new {S : SS} {p : Addr} {o : Ob} (h : S p = none) : Le S (sup S p o) := fun b u e => by
  rw [sup_ne (fun z => by rw [z, h] at e; cases e)]; exact e
theorem Le.newOf {S0 S : SS} {p : Addr} {o : Ob} (l : Le S0 S) (h : S p = none) : Le S0 (sup S p o) := l.trans (.new h)
theorem Le.sup {S S' : SS} {p : Addr} {o : Ob} (l : Le S S') : Le (sup S p o) (SL.sup S' p o) := fun b u e => by
  unfold SL.sup at e ⊢
  split
  · rename_i h; rw [if_pos h] at e; exact e
  · rename_i h; rw [if_neg h] at e; exact l _ _ e

section
variable {K : PySem.W.Frag} {H H' : Hp} {S S' : SS} {env : En} {σ : St}
theorem FsR.keep {fs : Fs} {vfs : List (Str × V)} (h : FsR K H fs vfs) (t : TK K H H') : FsR K H' fs vfs := ⟨h.1, h.2.keep t⟩
theorem DicR.keep {kvs : List (Key × D)} {vk : List (Key × V)} (h : DicR K H kvs vk) (t : TK K H H') : DicR K H' kvs vk := ⟨h.1, h.2.keep t⟩
theorem FsR.lookup : ∀ {fs : Fs} {vfs : List (Str × V)} {f : Str} {d : D}, FsR K H fs vfs → fs.lookup f = some d → ∃ v, vfs.lookup f = some v ∧ Rep K H d v
  | [], vfs, f, d, h, e => by simp at e
  | (g, x) :: fs, [], f, d, h, e => by have := h.1; simp at this
  | (g, x) :: fs, (g', y) :: vfs, f, d, h, e => by
    obtain ⟨h1, h2⟩ := h
    simp only [List.map_cons, List.cons.injEq] at h1
    obtain ⟨e1, h1⟩ := h1
    simp only [List.map_cons] at h2
    obtain ⟨r1, r2⟩ := h2.uncons
    subst e1
    rw [List.lookup_cons] at e ⊢
    cases q : f == g' with
    | true => rw [q] at e; simp at e; subst e; exact ⟨y, rfl, r1⟩
    | false => rw [q] at e; exact FsR.lookup (fs := fs) (vfs := vfs) ⟨h1, r2⟩ e
theorem FsR.lookup_none : ∀ {fs : Fs} {vfs : List (Str × V)} {f : Str}, FsR K H fs vfs → fs.lookup f = none → vfs.lookup f = none
  | [], vfs, f, h, e => by have := h.1; simp at this; rw [this]; rfl
  | (g, x) :: fs, [], f, h, e => by have := h.1; simp at this
  | (g, x) :: fs, (g', y) :: vfs, f, h, e => by
    obtain ⟨h1, h2⟩ := h
    simp only [List.map_cons, List.cons.injEq] at h1
    obtain ⟨e1, h1⟩ := h1
    simp only [List.map_cons] at h2
    obtain ⟨r1, r2⟩ := h2.uncons
    subst e1
    rw [List.lookup_cons] at e ⊢
    cases q : f == g' with
    | true => rw [q] at e; simp at e
    | false => rw [q] at e; exact FsR.lookup_none (fs := fs) (vfs := vfs) ⟨h1, r2⟩ e
/-- an attribute stored -/
def putS (f : Str) (d : D) : Fs → Fs
  | [] => [(f, d)]
  | (g, x) :: r => if g = f then (g, d) :: r else (g, x) :: putS f d r
theorem FsR.put {f : Str} {d : D} {v : V} (r : Rep K H d v) : ∀ {fs : Fs} {vfs : List (Str × V)}, FsR K H fs vfs → FsR K H (putS f d fs) (putF f v vfs)
  | [], vfs, h => by
    have := h.1; simp at this; subst this
    exact ⟨rfl, .cons r .nil⟩
  | (g, x) :: fs, [], h => by have := h.1; simp at this
  | (g, x) :: fs, (g', y) :: vfs, h => by
    obtain ⟨h1, h2⟩ := h
    simp only [List.map_cons, List.cons.injEq] at h1
    obtain ⟨e1, h1⟩ := h1
    simp only [List.map_cons] at h2
    obtain ⟨r1, r2⟩ := h2.uncons
    subst e1
    unfold putS putF
    by_cases q : g' = f
    · rw [if_pos q, if_pos q]
      exact ⟨by simp [h1], .cons r r2⟩
    · rw [if_neg q, if_neg q]
      have ih := FsR.put (f := f) r (fs := fs) (vfs := vfs) ⟨h1, r2⟩
      exact ⟨by simp [ih.1], .cons r1 ih.2⟩
theorem FsR.length {fs : Fs} {vfs : List (Str × V)} (h : FsR K H fs vfs) : vfs.length = fs.length := by
  have := congrArg List.length h.1
  simpa using this

theorem ObR.same {a : Addr} {o : Ob} (h : ObR K H a o) (s : Same H H') : ObR K H' a o := by
  have t : TK K H H' := .of_same s
  cases o with
  | lst xs => obtain ⟨vs, e, r⟩ := h; exact ⟨vs, s _ _ e, r.keep t⟩
  | rol xs =>
    obtain ⟨vs, e, r⟩ := h
    refine ⟨vs, ?_, r.keep t⟩
    rcases e with e | ⟨o, e⟩
    · exact .inl (s _ _ e)
    · exact .inr ⟨o, s _ _ e⟩
  | ins C fs => obtain ⟨dx, vfs, e, r⟩ := h; exact ⟨dx, vfs, s _ _ e, r.keep t⟩
  | dic kvs => obtain ⟨vk, e, r⟩ := h; exact ⟨vk, s _ _ e, r.keep t⟩
theorem AbsS.same (h : AbsS K H S) (s : Same H H') : AbsS K H' S := fun a o e => (h a o e).same s
theorem AbsS.le (h : AbsS K H S) (l : Le S' S) : AbsS K H S' := fun a o e => h a o (l a o e)
theorem ObR.ne_none {a : Addr} {o : Ob} (h : ObR K H a o) : H a ≠ none := by
  cases o with
  | lst xs => obtain ⟨vs, e, r⟩ := h; rw [e]; simp
  | rol xs =>
    obtain ⟨vs, e | ⟨o, e⟩, r⟩ := h <;> (rw [e]; simp)
  | ins C fs => obtain ⟨dx, vfs, e, r⟩ := h; rw [e]; simp
  | dic kvs => obtain ⟨vk, e, r⟩ := h; rw [e]; simp
theorem AbsS.fresh (h : AbsS K H S) {p : Addr} (n : H p = none) : S p = none := by
  cases e : S p with
  | none => rfl
  | some o => exact absurd n (h p o e).ne_none
/-- a new object -/
theorem AbsS.new (h : AbsS K H S) {p : Addr} {u : HO} {o : Ob} (n : H p = none) (r : ObR K (upd H p u) p o) : AbsS K (upd H p u) (sup S p o) := fun b ob e => by
  by_cases hb : b = p
  · subst hb; rw [sup_same] at e; cases e; exact r
  · rw [sup_ne hb] at e
    exact (h b ob e).same (Same.new n)
/-- what stands at p is changed; p is neither a tuple nor locked -/
theorem ObR.other {b p : Addr} {u : HO} {o : Ob} (h : ObR K H b o) (hb : b ≠ p) (m : Mut (H p)) : ObR K (upd H p u) b o := by
  have t : TK K H (upd H p u) := .mut m
  cases o with
  | lst xs => obtain ⟨vs, e, r⟩ := h; exact ⟨vs, by rw [upd_ne hb]; exact e, r.keep t⟩
  | rol xs =>
    obtain ⟨vs, e, r⟩ := h
    refine ⟨vs, ?_, r.keep t⟩
    rcases e with e | ⟨o, e⟩
    · exact .inl (by rw [upd_ne hb]; exact e)
    · exact .inr ⟨o, by rw [upd_ne hb]; exact e⟩
  | ins C fs => obtain ⟨dx, vfs, e, r⟩ := h; exact ⟨dx, vfs, by rw [upd_ne hb]; exact e, r.keep t⟩
  | dic kvs => obtain ⟨vk, e, r⟩ := h; exact ⟨vk, by rw [upd_ne hb]; exact e, r.keep t⟩
theorem AbsS.put (h : AbsS K H S) {p : Addr} {u : HO} {o : Ob} (m : Mut (H p)) (r : ObR K (upd H p u) p o) : AbsS K (upd H p u) (sup S p o) := fun b ob e => by
  by_cases hb : b = p
  · subst hb; rw [sup_same] at e; cases e; exact r
  · rw [sup_ne hb] at e
    exact (h b ob e).other hb m
theorem EnvR.keep (h : EnvR K H env σ) (t : TK K H H') : EnvR K H' env σ := ⟨h.1, fun i d e => let ⟨v, e1, r⟩ := h.2 i d e; ⟨v, e1, r.keep t⟩⟩
theorem EnvR.set (h : EnvR K H env σ) {i : Nat} {d : D} {v : V} (r : Rep K H d v) : EnvR K H (env.set i (some d)) (σ.set i (some v)) := by
  refine ⟨by simp [h.1], fun j d' e => ?_⟩
  by_cases hj : i = j
  · subst hj
    by_cases hl : i < env.length
    · rw [List.getElem?_set_self hl] at e
      cases e
      exact ⟨v, by rw [List.getElem?_set_self (by rw [h.1]; exact hl)], r⟩
    · rw [List.getElem?_eq_none (by simpa using hl)] at e; cases e
  · rw [List.getElem?_set_ne hj] at e
    obtain ⟨w, e1, r1⟩ := h.2 j d' e
    exact ⟨w, by rw [List.getElem?_set_ne hj]; exact e1, r1⟩
theorem EnvR.unset (h : EnvR K H env σ) {i : Nat} : EnvR K H (env.set i none) (σ.set i none) := by
  refine ⟨by simp [h.1], fun j d' e => ?_⟩
  by_cases hj : i = j
  · subst hj
    by_cases hl : i < env.length
    · rw [List.getElem?_set_self hl] at e; cases e
    · rw [List.getElem?_eq_none (by simpa using hl)] at e; cases e
  · rw [List.getElem?_set_ne hj] at e
    obtain ⟨w, e1, r1⟩ := h.2 j d' e
    exact ⟨w, by rw [List.getElem?_set_ne hj]; exact e1, r1⟩
end
end SL

set_option Elab.async false
set_option linter.all false
set_option maxRecDepth 100000
set_option maxHeartbeats 4000000
/-! SL2: judgements over trees; expressions. -/
namespace SL
open PySem PySem.Spec L2

abbrev QN := D → SS → Prop
abbrev QX := Value → Fs → SS → Prop
abbrev QXE := Value → Fs → En → SS → Prop
abbrev UE := En → SS → QN → QX → Prop
abbrev UA := En → SS → (List D → SS → Prop) → QX → Prop
abbrev UT := En → SS → (Bool → SS → Prop) → QX → Prop
structure EndsS where
  nx : En → SS → Prop
  rt : QN
  bk : En → SS → Prop
  ct : En → SS → Prop
  ex : QXE
abbrev US := EndsS → En → SS → Prop

/-- what an exception's own dict holds -/
def XR (K : PySem.W.Frag) (H : Hp) (d : Option Addr) (fs : Fs) : Prop := match d with
  | none => fs = []
  | some a => ∃ vfs, H a = some (.xd vfs) ∧ FsR K H fs vfs
def lw (K : PySem.W.Frag) (H0 : Hp) (W : QXE) : WX := fun cls d σ H => ∃ env S fs, TK K H0 H ∧ EnvR K H env σ ∧ AbsS K H S ∧ XR K H d fs ∧ W cls fs env S
theorem tstep {X : Cx} {K : PySem.W.Frag} {H H1 : Hp} {W : QXE} (h : Takes X (lw K H W)) (t : TK K H H1) : Takes X (lw K H1 W) := h.imp fun _ _ _ _ ⟨env, S, fs, t', r⟩ => ⟨env, S, fs, t.trans t', r⟩

def LE (X : Cx) (u : UE) : TE := fun σ H Q => ∃ env S Qd W, EnvR X.K H env σ ∧ AbsS X.K H S ∧ Takes X (lw X.K H W) ∧ u env S Qd (fun c fs S' => W c fs env S') ∧
  ∀ v d H' S', TK X.K H H' → Rep X.K H' d v → AbsS X.K H' S' → Qd d S' → Q v H'
def LA (X : Cx) (u : UA) : TA := fun σ H Q => ∃ env S Qd W, EnvR X.K H env σ ∧ AbsS X.K H S ∧ Takes X (lw X.K H W) ∧ u env S Qd (fun c fs S' => W c fs env S') ∧
  ∀ vs ds H' S', TK X.K H H' → RepL X.K H' ds vs → AbsS X.K H' S' → Qd ds S' → Q vs H'
def LT (X : Cx) (u : UT) : TT := fun σ H Q => ∃ env S Qd W, EnvR X.K H env σ ∧ AbsS X.K H S ∧ Takes X (lw X.K H W) ∧ u env S Qd (fun c fs S' => W c fs env S') ∧
  ∀ b H' S', TK X.K H H' → AbsS X.K H' S' → Qd b S' → Q b H'
def LS (X : Cx) (u : US) : TS := fun D σ H => ∃ env S E, EnvR X.K H env σ ∧ AbsS X.K H S ∧ Takes X (lw X.K H E.ex) ∧ u E env S ∧
  (∀ σ' H' env' S', TK X.K H H' → EnvR X.K H' env' σ' → AbsS X.K H' S' → E.nx env' S' → D.nx σ' H') ∧
  (∀ v d H' S', TK X.K H H' → Rep X.K H' d v → AbsS X.K H' S' → E.rt d S' → D.rt v H') ∧
  (∀ σ' H' env' S', TK X.K H H' → EnvR X.K H' env' σ' → AbsS X.K H' S' → E.bk env' S' → D.bk σ' H') ∧
  (∀ σ' H' env' S', TK X.K H H' → EnvR X.K H' env' σ' → AbsS X.K H' S' → E.ct env' S' → D.ct σ' H')
def DE (X : Cx) (e : Expr) (u : UE) : Prop := PE X e (LE X u)
def DA (X : Cx) (es : List Expr) (u : UA) : Prop := PA X es (LA X u)
def DT (X : Cx) (e : Expr) (u : UT) : Prop := PT X e (LT X u)
def DW (X : Cx) (e : Expr) (u : UT) : Prop := PW X e (LT X u)
def DS (X : Cx) (st : Stmt) (u : US) : Prop := PS X st (LS X u)
def DB (X : Cx) (st : List Stmt) (u : US) : Prop := PSs X st (LS X u)

theorem pe_imp {X : Cx} {e : Expr} {t t' : TE} (h : PE X e t) (k : ∀ σ H Q, t' σ H Q → t σ H Q) : PE X e t' := ⟨fun pins s σ H Q I q => h.run pins s σ H Q I (k _ _ _ q)⟩
theorem pa_imp {X : Cx} {e : List Expr} {t t' : TA} (h : PA X e t) (k : ∀ σ H Q, t' σ H Q → t σ H Q) : PA X e t' := ⟨fun pos pins s σ H Q I q => h.run pos pins s σ H Q I (k _ _ _ q)⟩
theorem pt_imp {X : Cx} {e : Expr} {t t' : TT} (h : PT X e t) (k : ∀ σ H Q, t' σ H Q → t σ H Q) : PT X e t' := ⟨fun pins s σ H Q I q => h.run pins s σ H Q I (k _ _ _ q)⟩
theorem pw_imp {X : Cx} {e : Expr} {t t' : TT} (h : PW X e t) (k : ∀ σ H Q, t' σ H Q → t σ H Q) : PW X e t' := ⟨fun w pins s σ H Q I q => h.run w pins s σ H Q I (k _ _ _ q)⟩
theorem ps_imp {X : Cx} {e : Stmt} {t t' : TS} (h : PS X e t) (k : ∀ D σ H, t' D σ H → t D σ H) : PS X e t' := ⟨fun pins s σ H D I q => h.run pins s σ H D I (k _ _ _ q)⟩
theorem pss_imp {X : Cx} {e : List Stmt} {t t' : TS} (h : PSs X e t) (k : ∀ D σ H, t' D σ H → t D σ H) : PSs X e t' := ⟨fun pins s σ H D I q => h.run pins s σ H D I (k _ _ _ q)⟩

/-! ### the functions of the operators -/
mutual
/-- == of trees -/
def deq : D → D → Bool
  | .non, .non => true
  | .bl a, .bl b => a == b
  | .bl a, .int j => (if a then 1 else 0) == j
  | .int i, .bl b => i == (if b then 1 else 0)
  | .int i, .int j => i == j
  | .str x, .str y => x == y
  | .tup xs, .tup ys => deqL xs ys
  | _, _ => false
def deqL : List D → List D → Bool
  | [], [] => true
  | x :: xs, y :: ys => deq x y && deqL xs ys
  | _, _ => false
end
mutual
/-- no address within, texts of code points, n deep at most -/
def flatD : Nat → D → Bool
  | _, .non | _, .bl _ | _, .int _ => true
  | _, .str x => x.all (· < 0x110000)
  | _, .ref _ => false
  | _, .exc _ _ _ _ => false
  | _, .kl _ => false
  | 0, .tup _ => false
  | n + 1, .tup xs => flatL n xs
def flatL : Nat → List D → Bool
  | _, [] => true
  | n, x :: xs => flatD n x && flatL n xs
end
mutual
def pdD : D → PyData
  | .non => .none
  | .bl b => .bool b
  | .int i => .int i
  | .str x => .str (tx x)
  | .tup xs => .tuple (pdL xs)
  | .ref _ => .none
  | .exc _ _ _ _ => .none
  | .kl _ => .none
def pdL : List D → List PyData
  | [] => []
  | x :: xs => pdD x :: pdL xs
end
mutual
theorem eqv_deq : ∀ (n m : Nat) (a b : D), flatD n a = true → flatD m b = true → PyData.eqv (pdD a) (pdD b) = deq a b
  | n, m, .non, b, _, hb => by cases b <;> simp [pdD, deq, PyData.eqv] at hb ⊢ <;> simp [flatD] at hb
  | n, m, .bl x, b, _, hb => by cases b <;> simp [pdD, deq, PyData.eqv] at hb ⊢
  | n, m, .int x, b, _, hb => by cases b <;> simp [pdD, deq, PyData.eqv] at hb ⊢
  | n, m, .str x, b, _, hb => by
    cases b <;> simp [pdD, deq, PyData.eqv] at hb ⊢
    rw [Bool.eq_iff_iff]; simp [tx_inj]
  | n, m, .ref x, b, ha, hb => by cases n <;> simp [flatD] at ha
  | n, m, .exc x y z w, b, ha, hb => by cases n <;> simp [flatD] at ha
  | n, m, .kl x, b, ha, hb => by cases n <;> simp [flatD] at ha
  | 0, m, .tup xs, b, ha, hb => by simp [flatD] at ha
  | n + 1, m, .tup xs, b, ha, hb => by
    cases b with
    | tup ys =>
      cases m with
      | zero => simp [flatD] at hb
      | succ m =>
        simp only [pdD, deq, PyData.eqv]
        exact eqv_deqL n m xs ys (by simpa [flatD] using ha) (by simpa [flatD] using hb)
    | _ => simp [pdD, deq, PyData.eqv]
theorem eqv_deqL : ∀ (n m : Nat) (a b : List D), flatL n a = true → flatL m b = true → PyData.eqvAll (pdL a) (pdL b) = deqL a b
  | n, m, [], [], _, _ => by simp [pdL, deqL, PyData.eqvAll]
  | n, m, [], _ :: _, _, _ => by simp [pdL, deqL, PyData.eqvAll]
  | n, m, _ :: _, [], _, _ => by simp [pdL, deqL, PyData.eqvAll]
  | n, m, x :: xs, y :: ys, ha, hb => by
    simp only [flatL, Bool.and_eq_true] at ha hb
    simp only [pdL, deqL, PyData.eqvAll]
    rw [eqv_deq n m x y ha.1 hb.1, eqv_deqL n m xs ys ha.2 hb.2]
end
mutual
theorem flat_lay : ∀ (n : Nat) (a : D), flatD n a = true → PyData.canLay0 (pdD a) = true ∧ PyData.depth (pdD a) ≤ n
  | n, .non, _ => by simp [pdD, PyData.canLay0, PyData.depth]
  | n, .bl x, _ => by simp [pdD, PyData.canLay0, PyData.depth]
  | n, .int x, _ => by simp [pdD, PyData.canLay0, PyData.depth]
  | n, .str x, h => by
    refine ⟨?_, by simp [pdD, PyData.depth]⟩
    have h' : x.all (· < 0x110000) = true := by cases n <;> simpa [flatD] using h
    simp only [pdD, PyData.canLay0, PyData.strOk, tx]
    simpa using h'
  | n, .ref x, h => by cases n <;> simp [flatD] at h
  | n, .exc x y z w, h => by cases n <;> simp [flatD] at h
  | n, .kl x, h => by cases n <;> simp [flatD] at h
  | 0, .tup xs, h => by simp [flatD] at h
  | n + 1, .tup xs, h => by
    obtain ⟨h1, h2⟩ := flat_layL n xs (by simpa [flatD] using h)
    simp only [pdD, PyData.canLay0, PyData.depth]
    exact ⟨h1, by omega⟩
theorem flat_layL : ∀ (n : Nat) (a : List D), flatL n a = true → PyData.canLayAll0 (pdL a) = true ∧ PyData.depthAll (pdL a) ≤ n
  | n, [], _ => by simp [pdL, PyData.canLayAll0, PyData.depthAll]
  | n, x :: xs, h => by
    simp only [flatL, Bool.and_eq_true] at h
    obtain ⟨h1, h2⟩ := flat_lay n x h.1
    obtain ⟨h3, h4⟩ := flat_layL n xs h.2
    simp only [pdL, PyData.canLayAll0, PyData.depthAll, h1, h3, Bool.and_self, true_and]
    omega
end
theorem flat_shaped {a : D} (h : flatD 64 a = true) : SeqAt.shaped (pdD a) = true := by
  obtain ⟨h1, h2⟩ := flat_lay 64 a h
  unfold SeqAt.shaped
  rw [h1, decide_eq_true h2]; rfl
mutual
theorem rep_dp {K : PySem.W.Frag} {H : Hp} : ∀ (n : Nat) (d : D) (v : V), flatD n d = true → Rep K H d v → Dp K H v (pdD d)
  | n, .non, v, _, h => by rw [rep_non.mp h]; simp only [pdD]; exact .non
  | n, .bl b, v, _, h => by rw [rep_bl.mp h]; simp only [pdD]; exact .bl b
  | n, .int i, v, _, h => by rw [rep_int.mp h]; simp only [pdD]; exact .int i
  | n, .str x, v, _, h => by rw [rep_str.mp h]; simp only [pdD]; exact .str _
  | n, .ref a, v, f, h => by cases n <;> simp [flatD] at f
  | n, .exc x y z w, v, f, h => by cases n <;> simp [flatD] at f
  | n, .kl x, v, f, h => by cases n <;> simp [flatD] at f
  | 0, .tup xs, v, f, h => by simp [flatD] at f
  | n + 1, .tup xs, v, f, h => by
    obtain ⟨a, vs, e, q, r⟩ := rep_tup.mp h
    subst e
    simp only [pdD]
    exact .tup q (rep_dpL n xs vs (by simpa [flatD] using f) r)
theorem rep_dpL {K : PySem.W.Frag} {H : Hp} : ∀ (n : Nat) (ds : List D) (vs : List V), flatL n ds = true → RepL K H ds vs → DpAll K H vs (pdL ds)
  | n, [], vs, _, h => by rw [repL_nil.mp h]; simp only [pdL]; exact .nil
  | n, d :: ds, vs, f, h => by
    obtain ⟨v, r, e, h1, h2⟩ := repL_cons.mp h
    subst e
    simp only [flatL, Bool.and_eq_true] at f
    simp only [pdL]
    exact .cons (rep_dp n d v f.1 h1) (rep_dpL n ds r f.2 h2)
end

/-- an operator on trees that may look at the state -/
abbrev F2 := SS → D → D → Option D
def dAdd : F2
  | _, .int i, .int j => some (.int (i + j))
  | _, .str a, .str b => if a.length + b.length ≤ sizeLine then some (.str (a ++ b)) else none
  | _, .tup a, .tup b => if a.length + b.length ≤ sizeLine then some (.tup (a ++ b)) else none
  | _, _, _ => none
def dSub : F2
  | _, .int i, .int j => some (.int (i - j))
  | _, _, _ => none
instance (i j : Int) : Decidable (CMulW i j) := by unfold CMulW; infer_instance
instance (i j : Int) : Decidable (CDivW i j) := by unfold CDivW; infer_instance
def dMul : F2
  | _, .int i, .int j => if CMulW i j then some (.int (i * j)) else none
  | _, _, _ => none
def dDiv : F2
  | _, .int i, .int j => if CDivW i j then some (.int (i / j)) else none
  | _, _, _ => none
def dMod : F2
  | _, .int i, .int j => if 0 < j then some (.int (i % j)) else none
  | _, _, _ => none
def dPow : F2
  | _, .int i, .int j => if 0 ≤ j ∧ j ≤ 1000000 ∧ i.natAbs < 2 ^ 64 then some (.int (i ^ j.toNat)) else none
  | _, _, _ => none
/-- scalars -/
def isSc : D → Bool
  | .non | .bl _ | .int _ | .str _ => true
  | _ => false
/-- == : scalars that are not a bool beside an int; else flat trees -/
def dEq : F2
  | _, .non, .non => some (.bl true)
  | _, .int i, .int j => some (.bl (i == j))
  | _, .str x, .str y => some (.bl (x == y))
  | _, .bl x, .bl y => some (.bl (x == y))
  | _, x, y => if flatD 64 x && flatD 64 y then some (.bl (deq x y)) else none
def dNe : F2
  | _, .non, .non => some (.bl false)
  | _, .int i, .int j => some (.bl (!(i == j)))
  | _, .str x, .str y => some (.bl (!(x == y)))
  | _, .bl x, .bl y => some (.bl (!(x == y)))
  | _, x, y => if flatD 64 x && flatD 64 y then some (.bl (!deq x y)) else none
def dLt : F2
  | _, .int i, .int j => some (.bl (decide (i < j)))
  | _, .str x, .str y => some (.bl (decide (x < y)))
  | _, _, _ => none
def dLe : F2
  | _, .int i, .int j => some (.bl (decide (i ≤ j)))
  | _, .str x, .str y => some (.bl (!decide (y < x)))
  | _, _, _ => none
def dGt : F2
  | _, .int i, .int j => some (.bl (decide (j < i)))
  | _, .str x, .str y => some (.bl (decide (y < x)))
  | _, _, _ => none
def dGe : F2
  | _, .int i, .int j => some (.bl (decide (j ≤ i)))
  | _, .str x, .str y => some (.bl (!decide (x < y)))
  | _, _, _ => none
def isNon : D → Bool
  | .non => true
  | _ => false
/-- is None, is True, is False -/
def dIs : F2
  | _, x, .non => some (.bl (isNon x))
  | _, .bl x, .bl y => some (.bl (x == y))
  | _, .int _, .bl _ | _, .str _, .bl _ | _, .non, .bl _ => some (.bl false)
  | _, _, _ => none
def dIsNot : F2
  | _, x, .non => some (.bl (!isNon x))
  | _, .bl x, .bl y => some (.bl (!(x == y)))
  | _, _, _ => none
def seqOf (S : SS) : D → Option (List D)
  | .tup xs => some xs
  | .ref a => match S a with
    | some (.lst xs) => some xs
    | some (.rol xs) => some xs
    | _ => none
  | _ => none
def dNot : D → Option D
  | .bl b => some (.bl (!b))
  | _ => none
def dIx : F2
  | _, .tup xs, .int i => atI xs i
  | _, .str l, .int i => if l.length ≤ sizeLine then (atI l i).map (fun c => .str [c]) else none
  | S, .ref a, .int i => match S a with
    | some (.lst xs) => atI xs i
    | some (.rol xs) => atI xs i
    | _ => none
  | _, _, _ => none

def rD2 (K : PySem.W.Frag) (f : F2) : R2 := fun x y H Q => ∃ S d1 d2 z, AbsS K H S ∧ Rep K H d1 x ∧ Rep K H d2 y ∧ f S d1 d2 = some z ∧ ∀ v H', Same H H' → Rep K H' z v → Q v H'

theorem seqOf_rep {K : PySem.W.Frag} {H : Hp} {S : SS} {d : D} {v : V} {xs : List D} (hA : AbsS K H S) (r : Rep K H d v) (h : seqOf S d = some xs) : ∃ a vs, v = .ref a ∧ (SqL K H a vs ∨ SqT K H a vs) ∧ RepL K H xs vs := by
  cases d with
  | tup ys =>
    obtain ⟨a, vs, e, q, r⟩ := rep_tup.mp r
    simp only [seqOf, Option.some.injEq] at h
    subst h
    exact ⟨a, vs, e, .inr q, r⟩
  | ref a =>
    rw [rep_ref.mp r]
    simp only [seqOf] at h
    split at h
    · rename_i ys e
      cases h
      obtain ⟨vs, q, r⟩ := hA a _ e
      exact ⟨a, vs, rfl, .inl (.of q), r⟩
    · rename_i ys e
      cases h
      obtain ⟨vs, q, r⟩ := hA a _ e
      exact ⟨a, vs, rfl, .inl (.inl q), r⟩
    · cases h
  | _ => simp [seqOf] at h
theorem RepL.atI {K : PySem.W.Frag} {H : Hp} {ds : List D} {vs : List V} {i : Int} {d : D} (r : RepL K H ds vs) (h : atI ds i = some d) : ∃ v, L2.atI vs i = some v ∧ Rep K H d v := by
  unfold L2.atI at h ⊢
  rw [r.length]
  cases e : ixN ds.length i with
  | none => rw [e] at h; cases h
  | some j =>
    rw [e] at h
    exact r.get h

section
variable {X : Cx}
theorem od_add : OpR X (binaryOp .Add) (rD2 X.K dAdd) := by
  intro pins s σ H x y v u Q I rx ry ⟨S, d1, d2, z, hA, r1, r2, hz, k⟩
  unfold dAdd at hz
  split at hz
  · cases hz
    rw [rep_int] at r1 r2; subst r1; subst r2
    exact op_add pins s σ H _ _ v u Q I rx ry ⟨_, _, rfl, rfl, k _ H (Same.refl H) (rep_int.mpr rfl)⟩
  · rename_i a b
    split at hz
    · rename_i hl
      cases hz
      rw [rep_str] at r1 r2; subst r1; subst r2
      refine op_add_str pins s σ H _ _ v u Q I rx ry ⟨_, _, rfl, rfl, by rw [tx_len, tx_len]; exact hl, k _ H (Same.refl H) (rep_str.mpr ?_)⟩
      congr 1
      show (⟨_⟩ : Str) = _
      simp [tx]
    · cases hz
  · rename_i xs ys
    split at hz
    · rename_i hl
      cases hz
      obtain ⟨a, vs, rfl, h1, q1⟩ := rep_tup.mp r1
      obtain ⟨b, ws, rfl, h2, q2⟩ := rep_tup.mp r2
      refine op_catA pins s σ H _ _ v u Q I rx ry ⟨a, b, vs, ws, rfl, rfl, h1, h2, by rw [q1.length, q2.length]; exact hl, fun e => ?_, fun _ e => ?_, fun _ _ p hp => ?_⟩
      · subst e
        have e0 := q1.length
        have e1 : xs = [] := List.length_eq_zero_iff.mp e0.symm
        subst e1
        exact k _ H (Same.refl H) (.tup h2 (by simpa using q2))
      · subst e
        have e0 := q2.length
        have e1 : ys = [] := List.length_eq_zero_iff.mp e0.symm
        subst e1
        exact k _ H (Same.refl H) (.tup h1 (by simpa using q1))
      · exact k _ _ (Same.new hp) (.newTup hp (q1.append q2))
    · cases hz
  · cases hz
theorem od_int {F : Value → Value → Sem Value} {f : F2} {C : Int → Int → Prop} {g : Int → Int → V} (h : OpR X F (rI C g)) (hf : ∀ S d1 d2 z, f S d1 d2 = some z → ∃ i j, d1 = .int i ∧ d2 = .int j ∧ C i j ∧ ∀ H v, v = g i j → Rep X.K H z v) : OpR X F (rD2 X.K f) := by
  intro pins s σ H x y v u Q I rx ry ⟨S, d1, d2, z, hA, r1, r2, hz, k⟩
  obtain ⟨i, j, rfl, rfl, hc, e⟩ := hf S d1 d2 z hz
  rw [rep_int] at r1 r2; subst r1; subst r2
  exact h pins s σ H _ _ v u Q I rx ry ⟨_, _, rfl, rfl, hc, k _ H (Same.refl H) (e _ _ rfl)⟩
theorem rI0_rI {F : Value → Value → Sem Value} {g : Int → Int → V} (h : OpR X F (rI0 g)) : OpR X F (rI (fun _ _ => True) g) := fun pins s σ H x y v u Q I rx ry ⟨i, j, e1, e2, _, q⟩ => h pins s σ H x y v u Q I rx ry ⟨i, j, e1, e2, q⟩
theorem od_sub : OpR X (binaryOp .Sub) (rD2 X.K dSub) := od_int (rI0_rI op_sub) fun S d1 d2 z h => by
  unfold dSub at h
  split at h
  · cases h; exact ⟨_, _, rfl, rfl, trivial, fun _ _ e => rep_int.mpr e⟩
  · cases h
theorem od_mul : OpR X (binaryOp .Mult) (rD2 X.K dMul) := od_int op_mulW fun S d1 d2 z h => by
  unfold dMul at h
  split at h
  · split at h
    · rename_i c; cases h; exact ⟨_, _, rfl, rfl, c, fun _ _ e => rep_int.mpr e⟩
    · cases h
  · cases h
theorem od_div : OpR X (binaryOp .FloorDiv) (rD2 X.K dDiv) := od_int op_fdivW fun S d1 d2 z h => by
  unfold dDiv at h
  split at h
  · split at h
    · rename_i c; cases h; exact ⟨_, _, rfl, rfl, c, fun _ _ e => rep_int.mpr e⟩
    · cases h
  · cases h
theorem od_mod : OpR X (binaryOp .Mod) (rD2 X.K dMod) := od_int op_mod fun S d1 d2 z h => by
  unfold dMod at h
  split at h
  · split at h
    · rename_i c; cases h; exact ⟨_, _, rfl, rfl, c, fun _ _ e => rep_int.mpr e⟩
    · cases h
  · cases h
theorem od_pow : OpR X (binaryOp .Pow) (rD2 X.K dPow) := od_int op_pow fun S d1 d2 z h => by
  unfold dPow at h
  split at h
  · split at h
    · rename_i c; cases h; exact ⟨_, _, rfl, rfl, c, fun _ _ e => rep_int.mpr e⟩
    · cases h
  · cases h
theorem fin_eq {d1 d2 : D} {x y : V} {H : Hp} {Q : VK} (r1 : Rep X.K H d1 x) (r2 : Rep X.K H d2 y) (hs : scal x y = true) (k : ∀ b, b = decide (x = y) → Q (.bl b) H) : rEq x y H Q := ⟨hs, k _ rfl⟩
theorem dec_tx {a b : List Nat} : decide (V.str (tx a) = V.str (tx b)) = (a == b) := by
  rw [Bool.eq_iff_iff]
  simp [tx_inj]
theorem od_eq (hu : X.A.units + 64 < cLine) : OpR X (compareOp .Eq) (rD2 X.K dEq) := by
  intro pins s σ H x y v u Q I rx ry ⟨S, d1, d2, z, hA, r1, r2, hz, k⟩
  unfold dEq at hz
  split at hz
  · cases hz
    rw [rep_non] at r1 r2; subst r1; subst r2
    exact op_eq pins s σ H _ _ v u Q I rx ry ⟨rfl, k _ H (Same.refl H) (rep_bl.mpr rfl)⟩
  · cases hz
    rw [rep_int] at r1 r2; subst r1; subst r2
    exact op_eq pins s σ H _ _ v u Q I rx ry ⟨rfl, k _ H (Same.refl H) (rep_bl.mpr (by rw [dec_int]))⟩
  · cases hz
    rw [rep_str] at r1 r2; subst r1; subst r2
    exact op_eq pins s σ H _ _ v u Q I rx ry ⟨rfl, k _ H (Same.refl H) (rep_bl.mpr (by rw [dec_tx]))⟩
  · cases hz
    rw [rep_bl] at r1 r2; subst r1; subst r2
    exact op_eq pins s σ H _ _ v u Q I rx ry ⟨rfl, k _ H (Same.refl H) (rep_bl.mpr (by rw [dec_bl]))⟩
  · split at hz
    · rename_i c
      cases hz
      rw [Bool.and_eq_true] at c
      exact op_eqD hu pins s σ H _ _ v u Q I rx ry ⟨_, _, rep_dp 64 _ _ c.1 r1, rep_dp 64 _ _ c.2 r2, flat_shaped c.1, flat_shaped c.2, k _ H (Same.refl H) (rep_bl.mpr (by rw [eqv_deq 64 64 _ _ c.1 c.2]))⟩
    · cases hz
theorem od_ne (hu : X.A.units + 64 < cLine) : OpR X (compareOp .NotEq) (rD2 X.K dNe) := by
  intro pins s σ H x y v u Q I rx ry ⟨S, d1, d2, z, hA, r1, r2, hz, k⟩
  unfold dNe at hz
  split at hz
  · cases hz
    rw [rep_non] at r1 r2; subst r1; subst r2
    exact op_ne pins s σ H _ _ v u Q I rx ry ⟨rfl, k _ H (Same.refl H) (rep_bl.mpr rfl)⟩
  · cases hz
    rw [rep_int] at r1 r2; subst r1; subst r2
    exact op_ne pins s σ H _ _ v u Q I rx ry ⟨rfl, k _ H (Same.refl H) (rep_bl.mpr (by rw [dec_int]))⟩
  · cases hz
    rw [rep_str] at r1 r2; subst r1; subst r2
    exact op_ne pins s σ H _ _ v u Q I rx ry ⟨rfl, k _ H (Same.refl H) (rep_bl.mpr (by rw [dec_tx]))⟩
  · cases hz
    rw [rep_bl] at r1 r2; subst r1; subst r2
    exact op_ne pins s σ H _ _ v u Q I rx ry ⟨rfl, k _ H (Same.refl H) (rep_bl.mpr (by rw [dec_bl]))⟩
  · split at hz
    · rename_i c
      cases hz
      rw [Bool.and_eq_true] at c
      exact op_neD hu pins s σ H _ _ v u Q I rx ry ⟨_, _, rep_dp 64 _ _ c.1 r1, rep_dp 64 _ _ c.2 r2, flat_shaped c.1, flat_shaped c.2, k _ H (Same.refl H) (rep_bl.mpr (by rw [eqv_deq 64 64 _ _ c.1 c.2]))⟩
    · cases hz
theorem od_lt : OpR X (compareOp .Lt) (rD2 X.K dLt) := by
  intro pins s σ H x y v u Q I rx ry ⟨S, d1, d2, z, hA, r1, r2, hz, k⟩
  unfold dLt at hz
  split at hz
  · cases hz
    rw [rep_int] at r1 r2; subst r1; subst r2
    exact op_lt pins s σ H _ _ v u Q I rx ry ⟨_, _, rfl, rfl, k _ H (Same.refl H) (rep_bl.mpr rfl)⟩
  · cases hz
    rw [rep_str] at r1 r2; subst r1; subst r2
    exact op_lt_str pins s σ H _ _ v u Q I rx ry ⟨_, _, rfl, rfl, k _ H (Same.refl H) (rep_bl.mpr (by simp only [tx_cps]))⟩
  · cases hz
theorem od_le : OpR X (compareOp .LtE) (rD2 X.K dLe) := by
  intro pins s σ H x y v u Q I rx ry ⟨S, d1, d2, z, hA, r1, r2, hz, k⟩
  unfold dLe at hz
  split at hz
  · cases hz
    rw [rep_int] at r1 r2; subst r1; subst r2
    exact op_le pins s σ H _ _ v u Q I rx ry ⟨_, _, rfl, rfl, k _ H (Same.refl H) (rep_bl.mpr rfl)⟩
  · cases hz
    rw [rep_str] at r1 r2; subst r1; subst r2
    exact op_le_str pins s σ H _ _ v u Q I rx ry ⟨_, _, rfl, rfl, k _ H (Same.refl H) (rep_bl.mpr (by simp only [tx_cps]))⟩
  · cases hz
theorem od_gt : OpR X (compareOp .Gt) (rD2 X.K dGt) := by
  intro pins s σ H x y v u Q I rx ry ⟨S, d1, d2, z, hA, r1, r2, hz, k⟩
  unfold dGt at hz
  split at hz
  · cases hz
    rw [rep_int] at r1 r2; subst r1; subst r2
    exact op_gt pins s σ H _ _ v u Q I rx ry ⟨_, _, rfl, rfl, k _ H (Same.refl H) (rep_bl.mpr rfl)⟩
  · cases hz
    rw [rep_str] at r1 r2; subst r1; subst r2
    exact op_gt_str pins s σ H _ _ v u Q I rx ry ⟨_, _, rfl, rfl, k _ H (Same.refl H) (rep_bl.mpr (by simp only [tx_cps]))⟩
  · cases hz
theorem od_ge : OpR X (compareOp .GtE) (rD2 X.K dGe) := by
  intro pins s σ H x y v u Q I rx ry ⟨S, d1, d2, z, hA, r1, r2, hz, k⟩
  unfold dGe at hz
  split at hz
  · cases hz
    rw [rep_int] at r1 r2; subst r1; subst r2
    exact op_ge pins s σ H _ _ v u Q I rx ry ⟨_, _, rfl, rfl, k _ H (Same.refl H) (rep_bl.mpr rfl)⟩
  · cases hz
    rw [rep_str] at r1 r2; subst r1; subst r2
    exact op_ge_str pins s σ H _ _ v u Q I rx ry ⟨_, _, rfl, rfl, k _ H (Same.refl H) (rep_bl.mpr (by simp only [tx_cps]))⟩
  · cases hz
theorem isNon_rep {H : Hp} {d : D} {x : V} (r : Rep X.K H d x) : decide (x = .non) = isNon d := by
  cases d with
  | tup xs => obtain ⟨a, vs, rfl, _⟩ := rep_tup.mp r; simp [isNon]
  | non => rw [rep_non] at r; subst r; rfl
  | bl b => rw [rep_bl] at r; subst r; rfl
  | int b => rw [rep_int] at r; subst r; rfl
  | str b => rw [rep_str] at r; subst r; rfl
  | ref b => rw [rep_ref] at r; subst r; rfl
  | exc a dd ks ds => obtain ⟨_, e, _⟩ := r; rw [e]; rfl
  | kl xs => obtain ⟨a, vs, rfl, _⟩ := rep_kl.mp r; rfl
end
end SL
namespace SL
open PySem PySem.Spec L2
section
variable {X : Cx}
theorem od_is : OpR X (compareOp .Is) (rD2 X.K dIs) := by
  intro pins s σ H x y v u Q I rx ry ⟨S, d1, d2, z, hA, r1, r2, hz, k⟩
  unfold dIs at hz
  split at hz
  · cases hz
    rw [rep_non] at r2; subst r2
    exact op_isN pins s σ H _ _ v u Q I rx ry ⟨rfl, k _ H (Same.refl H) (rep_bl.mpr (by rw [isNon_rep r1]))⟩
  · rename_i a b
    cases hz
    rw [rep_bl] at r1 r2; subst r1; subst r2
    cases (show v = Value.bool a from rx)
    cases (show u = Value.bool b from ry)
    by_cases e : a = b
    · subst e
      exact wpAny_is_self rfl ⟨.bl true, H, I, rfl, k _ H (Same.refl H) (rep_bl.mpr (by simp))⟩
    · exact wpAny_is_other rfl (fun z => e (Value.bool.inj z)) ⟨.bl false, H, I, rfl, k _ H (Same.refl H) (rep_bl.mpr (by simp [e]))⟩
  · cases hz
    rw [rep_int] at r1; rw [rep_bl] at r2; subst r1; subst r2
    obtain ⟨t, rfl⟩ := rx
    cases (show u = Value.bool _ from ry)
    exact wpAny_is_other rfl (fun z => nomatch z) ⟨.bl false, H, I, rfl, k _ H (Same.refl H) (rep_bl.mpr rfl)⟩
  · cases hz
    rw [rep_str] at r1; rw [rep_bl] at r2; subst r1; subst r2
    obtain ⟨t, rfl⟩ := rx
    cases (show u = Value.bool _ from ry)
    exact wpAny_is_other rfl (fun z => nomatch z) ⟨.bl false, H, I, rfl, k _ H (Same.refl H) (rep_bl.mpr rfl)⟩
  · cases hz
    rw [rep_non] at r1; rw [rep_bl] at r2; subst r1; subst r2
    cases (show v = Value.none from rx)
    cases (show u = Value.bool _ from ry)
    exact wpAny_is_other rfl (fun z => nomatch z) ⟨.bl false, H, I, rfl, k _ H (Same.refl H) (rep_bl.mpr rfl)⟩
  · cases hz
theorem od_isnot : OpR X (compareOp .IsNot) (rD2 X.K dIsNot) := by
  intro pins s σ H x y v u Q I rx ry ⟨S, d1, d2, z, hA, r1, r2, hz, k⟩
  unfold dIsNot at hz
  split at hz
  · cases hz
    rw [rep_non] at r2; subst r2
    exact op_notN pins s σ H _ _ v u Q I rx ry ⟨rfl, k _ H (Same.refl H) (rep_bl.mpr (by rw [isNon_rep r1]))⟩
  · rename_i a b
    cases hz
    rw [rep_bl] at r1 r2; subst r1; subst r2
    cases (show v = Value.bool a from rx)
    cases (show u = Value.bool b from ry)
    by_cases e : a = b
    · subst e
      exact wpAny_isNot_self rfl ⟨.bl false, H, I, rfl, k _ H (Same.refl H) (rep_bl.mpr (by simp))⟩
    · exact wpAny_isNot_other rfl (fun z => e (Value.bool.inj z)) ⟨.bl true, H, I, rfl, k _ H (Same.refl H) (rep_bl.mpr (by simp [e]))⟩
  · cases hz
theorem any_eqvL : ∀ (ys : List D) (x : D), flatD 64 x = true → flatL 64 ys = true → ((pdL ys).any fun z => PyData.eqv z (pdD x)) = ys.any fun z => deq z x
  | [], x, _, _ => by simp [pdL]
  | y :: ys, x, hx, h => by
    simp only [flatL, Bool.and_eq_true] at h
    simp only [pdL, List.any_cons]
    rw [eqv_deq 64 64 y x h.1 hx, any_eqvL ys x hx h.2]
def scV : D → Bool
  | .non | .bl _ | .int _ | .str _ => true
  | _ => false
theorem scV_flat {H : Hp} {d : D} {x : V} (r : Rep X.K H d x) (h : scV d = true) : flatV x = true := by
  cases d with
  | non => rw [rep_non] at r; subst r; rfl
  | bl b => rw [rep_bl] at r; subst r; rfl
  | int b => rw [rep_int] at r; subst r; rfl
  | str b => rw [rep_str] at r; subst r; rfl
  | _ => simp [scV] at h
theorem scV_eq {H : Hp} {d e : D} {x y : V} (r : Rep X.K H d x) (q : Rep X.K H e y) (h : scV d = true) (h' : scV e = true) : eqV x y = deq d e := by
  cases d with
  | non => rw [rep_non] at r; subst r; cases e <;> simp [scV] at h' <;> simp only [rep_non, rep_bl, rep_int, rep_str] at q <;> subst q <;> simp [eqV, deq]
  | bl b => rw [rep_bl] at r; subst r; cases e <;> simp [scV] at h' <;> simp only [rep_non, rep_bl, rep_int, rep_str] at q <;> subst q <;> simp [eqV, deq]
  | int b => rw [rep_int] at r; subst r; cases e <;> simp [scV] at h' <;> simp only [rep_non, rep_bl, rep_int, rep_str] at q <;> subst q <;> simp [eqV, deq]
  | str b =>
    rw [rep_str] at r; subst r
    cases e <;> simp [scV] at h' <;> simp only [rep_non, rep_bl, rep_int, rep_str] at q <;> subst q <;> simp [eqV, deq]
    rw [Bool.eq_iff_iff]; simp [tx_inj]
  | _ => simp [scV] at h
theorem repL_flatV {H : Hp} : ∀ {ds : List D} {vs : List V}, RepL X.K H ds vs → ds.all scV = true → vs.all flatV = true
  | [], vs, r, _ => by rw [repL_nil.mp r]; rfl
  | d :: ds, vs, r, h => by
    obtain ⟨v, t, e, h1, h2⟩ := repL_cons.mp r
    subst e
    simp only [List.all_cons, Bool.and_eq_true] at h ⊢
    exact ⟨scV_flat h1 h.1, repL_flatV h2 h.2⟩
theorem repL_inV {H : Hp} {d : D} {x : V} (rx : Rep X.K H d x) (hx : scV d = true) : ∀ {ds : List D} {vs : List V}, RepL X.K H ds vs → ds.all scV = true → inV x vs = ds.any fun z => deq z d
  | [], vs, r, _ => by rw [repL_nil.mp r]; rfl
  | e :: ds, vs, r, h => by
    obtain ⟨v, t, ee, h1, h2⟩ := repL_cons.mp r
    subst ee
    simp only [List.all_cons, Bool.and_eq_true] at h
    show (eqV v x || inV x t) = (deq e d || ds.any fun z => deq z d)
    rw [scV_eq h1 rx h.1 hx, repL_inV rx hx h2 h.2]
end
/-- one sign in a text; in a sequence: scalars, or a flat tree in a list -/
def dIn1 : F2
  | _, .str [c], .str y => some (.bl (decide (c ∈ y)))
  | _, x, .tup ys => if scV x && ys.all scV then some (.bl (ys.any fun z => deq z x)) else none
  | S, x, .ref a => match S a with
    | some (.lst ys) => if scV x && ys.all scV then some (.bl (ys.any fun z => deq z x)) else if flatD 63 x && flatL 63 ys then some (.bl (ys.any fun z => deq z x)) else none
    | some (.rol ys) => if scV x && ys.all scV then some (.bl (ys.any fun z => deq z x)) else if flatD 63 x && flatL 63 ys then some (.bl (ys.any fun z => deq z x)) else none
    | _ => none
  | _, _, _ => none
def dNotIn1 : F2 := fun S x y => (dIn1 S x y).bind dNot
mutual
theorem flat_up : ∀ (n : Nat) (a : D), flatD n a = true → flatD (n + 1) a = true
  | n, .non, _ => by simp [flatD]
  | n, .bl x, _ => by simp [flatD]
  | n, .int x, _ => by simp [flatD]
  | n, .str x, h => by cases n <;> simpa [flatD] using h
  | n, .ref x, h => by cases n <;> simp [flatD] at h
  | n, .exc x y z w, h => by cases n <;> simp [flatD] at h
  | n, .kl x, h => by cases n <;> simp [flatD] at h
  | 0, .tup xs, h => by simp [flatD] at h
  | n + 1, .tup xs, h => by simp only [flatD] at h ⊢; exact flat_upL n xs h
theorem flat_upL : ∀ (n : Nat) (a : List D), flatL n a = true → flatL (n + 1) a = true
  | n, [], _ => by simp [flatL]
  | n, x :: xs, h => by simp only [flatL, Bool.and_eq_true] at h ⊢; exact ⟨flat_up n x h.1, flat_upL n xs h.2⟩
end
section
variable {X : Cx}
theorem shaped_list {ys : List D} (h : flatL 63 ys = true) : SeqAt.shaped (.list (pdL ys)) = true := by
  obtain ⟨h1, h2⟩ := flat_layL 63 ys h
  unfold SeqAt.shaped
  simp only [PyData.canLay0, PyData.depth, h1, Bool.true_and]
  exact decide_eq_true (by omega)
theorem in_core (hu : X.A.units + 65 < cLine) {pins : List (Addr × Obj)} {s : Shared} {σ : St} {H : Hp} {x y : V} {v u : Value} {Q : VK} (neg : Bool) {op : CmpOp} (hop : op = if neg then .NotIn else .In) (I : Inv X pins σ H s) (rx : RelV x v) (ry : RelV y u)
    {S : SS} {d1 d2 : D} {b : Bool} (hA : AbsS X.K H S) (r1 : Rep X.K H d1 x) (r2 : Rep X.K H d2 y) (hz : dIn1 S d1 d2 = some (.bl b)) (k : Q (.bl (if neg then !b else b)) H) : wpAny (model X.prog X.w) X.A (compareOp op v u) (EP X pins σ Q) X.xe s := by
  have seq : ∀ {a : Addr} {vs : List V} {ys : List D}, y = .ref a → (SqL X.K H a vs ∨ SqT X.K H a vs) → RepL X.K H ys vs → scV d1 = true → ys.all scV = true → b = (ys.any fun z => deq z d1) → wpAny (model X.prog X.w) X.A (compareOp op v u) (EP X pins σ Q) X.xe s := by
    intro a vs ys ey hq rr h1 h2 eb
    have e3 := repL_inV r1 h1 rr h2
    cases neg with
    | false => subst hop; exact op_in_seq pins s σ H _ _ v u Q I rx ry ⟨a, vs, ey, hq, scV_flat r1 h1, repL_flatV rr h2, by rw [e3, ← eb]; exact k⟩
    | true => subst hop; exact op_notIn_seq pins s σ H _ _ v u Q I rx ry ⟨a, vs, ey, hq, scV_flat r1 h1, repL_flatV rr h2, by rw [e3, ← eb]; exact k⟩
  have lst : ∀ {a : Addr} {vs : List V} {ys : List D}, y = .ref a → SqL X.K H a vs → RepL X.K H ys vs → (if scV d1 && ys.all scV then some (D.bl (ys.any fun z => deq z d1)) else if flatD 63 d1 && flatL 63 ys then some (.bl (ys.any fun z => deq z d1)) else none) = some (.bl b) →
      wpAny (model X.prog X.w) X.A (compareOp op v u) (EP X pins σ Q) X.xe s := by
    intro a vs ys ey hq rr hz
    split at hz
    · rename_i c
      rw [Bool.and_eq_true] at c
      cases hz
      exact seq ey (.inl hq) rr c.1 c.2 rfl
    · split at hz
      · rename_i c
        rw [Bool.and_eq_true] at c
        cases hz
        have f1 := flat_up _ _ c.1
        have f2 := flat_upL _ _ c.2
        have e := any_eqvL ys d1 f1 f2
        have dp : Dp X.K H y (.list (pdL ys)) := by rw [ey]; exact .lst hq (rep_dpL 64 _ _ f2 rr)
        cases neg with
        | false => subst hop; exact op_inD hu pins s σ H _ _ v u Q I rx ry ⟨_, _, rep_dp 64 _ _ f1 r1, dp, flat_shaped f1, shaped_list c.2, by rw [e]; exact k⟩
        | true => subst hop; exact op_notInD hu pins s σ H _ _ v u Q I rx ry ⟨_, _, rep_dp 64 _ _ f1 r1, dp, flat_shaped f1, shaped_list c.2, by rw [e]; exact k⟩
      · cases hz
  unfold dIn1 at hz
  split at hz
  · cases hz
    rw [rep_str] at r1 r2; subst r1; subst r2
    cases neg with
    | false => subst hop; exact op_in_sign pins s σ H _ _ v u Q I rx ry ⟨_, _, rfl, rfl, by simp only [tx_cps]; exact k⟩
    | true => subst hop; exact op_notIn_sign pins s σ H _ _ v u Q I rx ry ⟨_, _, rfl, rfl, by simp only [tx_cps]; exact k⟩
  · split at hz
    · rename_i c
      rw [Bool.and_eq_true] at c
      cases hz
      obtain ⟨a, vs, ey, hq, rr⟩ := rep_tup.mp r2
      exact seq ey (.inr hq) rr c.1 c.2 rfl
    · cases hz
  · rw [rep_ref] at r2
    split at hz
    · rename_i ys e
      obtain ⟨vs, q, r⟩ := hA _ _ e
      exact lst r2 (.of q) r hz
    · rename_i ys e
      obtain ⟨vs, q, r⟩ := hA _ _ e
      exact lst r2 (.inl q) r hz
    · cases hz
  · cases hz
theorem dIn1_bl {S : SS} {x y z : D} (h : dIn1 S x y = some z) : ∃ b, z = .bl b := by
  unfold dIn1 at h
  split at h
  · cases h; exact ⟨_, rfl⟩
  · split at h
    · cases h; exact ⟨_, rfl⟩
    · cases h
  · split at h
    · split at h
      · cases h; exact ⟨_, rfl⟩
      · split at h
        · cases h; exact ⟨_, rfl⟩
        · cases h
    · split at h
      · cases h; exact ⟨_, rfl⟩
      · split at h
        · cases h; exact ⟨_, rfl⟩
        · cases h
    · cases h
  · cases h
theorem od_in (hu : X.A.units + 65 < cLine) : OpR X (compareOp .In) (rD2 X.K dIn1) := by
  intro pins s σ H x y v u Q I rx ry ⟨S, d1, d2, z, hA, r1, r2, hz, k⟩
  obtain ⟨b, rfl⟩ := dIn1_bl hz
  exact in_core hu false rfl I rx ry hA r1 r2 hz (k _ H (Same.refl H) (rep_bl.mpr rfl))
theorem od_notin (hu : X.A.units + 65 < cLine) : OpR X (compareOp .NotIn) (rD2 X.K dNotIn1) := by
  intro pins s σ H x y v u Q I rx ry ⟨S, d1, d2, z, hA, r1, r2, hz, k⟩
  unfold dNotIn1 at hz
  cases e : dIn1 S d1 d2 with
  | none => rw [e] at hz; cases hz
  | some w =>
    obtain ⟨b, rfl⟩ := dIn1_bl e
    rw [e] at hz
    have hz' : dNot (.bl b) = some z := hz
    simp only [dNot, Option.some.injEq] at hz'
    subst hz'
    exact in_core hu true rfl I rx ry hA r1 r2 e (k _ H (Same.refl H) (rep_bl.mpr rfl))
/-- a[b] -/
theorem od_ix : IxR X (rD2 X.K dIx) := by
  intro value slice pins s σ H x y v u Q I rx ry ⟨S, d1, d2, z, hA, r1, r2, hz, k⟩ hs
  unfold dIx at hz
  split at hz
  · obtain ⟨a, vs, rfl, hq, rr⟩ := rep_tup.mp r1
    rw [rep_int] at r2; subst r2
    obtain ⟨w, e, rw'⟩ := rr.atI hz
    exact ix_tup value slice pins s σ H _ _ v u Q I rx ry ⟨a, vs, _, w, rfl, rfl, hq, e, k _ H (Same.refl H) rw'⟩ hs
  · split at hz
    · rename_i hl
      rw [rep_str] at r1; rw [rep_int] at r2; subst r1; subst r2
      rw [Option.map_eq_some_iff] at hz
      obtain ⟨c, e, rfl⟩ := hz
      refine ix_str value slice pins s σ H _ _ v u Q I rx ry ⟨_, _, c, rfl, rfl, by rw [tx_len]; exact hl, by rw [tx_cps]; exact e, k _ H (Same.refl H) (rep_str.mpr rfl)⟩ hs
    · cases hz
  · rename_i a i
    rw [rep_ref] at r1; rw [rep_int] at r2; subst r1; subst r2
    split at hz
    · rename_i ys e
      obtain ⟨vs, q, r⟩ := hA _ _ e
      obtain ⟨w, e, rw'⟩ := r.atI hz
      exact ix_list value slice pins s σ H _ _ v u Q I rx ry ⟨a, vs, _, w, rfl, rfl, .of q, e, k _ H (Same.refl H) rw'⟩ hs
    · rename_i ys e
      obtain ⟨vs, q, r⟩ := hA _ _ e
      obtain ⟨w, e, rw'⟩ := r.atI hz
      exact ix_list value slice pins s σ H _ _ v u Q I rx ry ⟨a, vs, _, w, rfl, rfl, .inl q, e, k _ H (Same.refl H) rw'⟩ hs
    · cases hz
  · cases hz
end
end SL

set_option Elab.async false
set_option linter.all false
set_option maxRecDepth 100000
set_option maxHeartbeats 4000000
/-! SL3: expressions. -/
namespace SL
open PySem PySem.Spec L2

/-! ### what an expression asks -/
def uVar (i : Nat) : UE := fun env S Q _ => ∃ d, env[i]? = some (some d) ∧ Q d S
def uC (d : D) : UE := fun _ S Q _ => Q d S
def uBin (f : F2) (ua ub : UE) : UE := fun env S Q X => ua env S (fun d1 S1 => ub env S1 (fun d2 S2 => ∃ z, f S2 d1 d2 = some z ∧ Q z S2) X) X
def uChain (f g : F2) (ua ub uc : UE) : UE := fun env S Q X => ua env S (fun d1 S1 => ub env S1 (fun d2 S2 => ∃ k, f S2 d1 d2 = some (.bl k) ∧
  if k = true then uc env S2 (fun d3 S3 => ∃ z, g S3 d2 d3 = some z ∧ Q z S3) X else Q (.bl false) S2) X) X
def dNeg : D → Option D
  | .int i => some (.int (-i))
  | _ => none
def uUn (f : D → Option D) (ua : UE) : UE := fun env S Q X => ua env S (fun d1 S1 => ∃ z, f d1 = some z ∧ Q z S1) X
/-- truth -/
def tru (S : SS) : D → Option Bool
  | .non => some false
  | .bl b => some b
  | .int i => some (i != 0)
  | .str x => if x.length ≤ sizeLine then some (!x.isEmpty) else none
  | .tup xs => some (!xs.isEmpty)
  | .ref a => match S a with
    | some (.lst xs) => some (!xs.isEmpty)
    | some (.rol xs) => some (!xs.isEmpty)
    | _ => none
  | .exc _ _ _ _ => none
  | .kl _ => none
def uTru (u : UE) : UT := fun env S Q X => u env S (fun d S1 => ∃ b, tru S1 d = some b ∧ Q b S1) X
/-- a comparison as a test: its value is a bool -/
def uTb (u : UE) : UT := fun env S Q X => u env S (fun d S1 => ∃ b, d = .bl b ∧ Q b S1) X
def uAnd (a b : UT) : UT := fun env S Q X => a env S (fun c S1 => if c = true then b env S1 Q X else Q false S1) X
def uOr (a b : UT) : UT := fun env S Q X => a env S (fun c S1 => if c = true then Q true S1 else b env S1 Q X) X
def uNot (a : UT) : UT := fun env S Q X => a env S (fun c S1 => Q (!c) S1) X
def uAndV (a b : UE) : UE := fun env S Q X => a env S (fun d S1 => ∃ c, tru S1 d = some c ∧ if c = true then b env S1 Q X else Q d S1) X
def uOrV (a b : UE) : UE := fun env S Q X => a env S (fun d S1 => ∃ c, tru S1 d = some c ∧ if c = true then Q d S1 else b env S1 Q X) X
def uNotV (a : UE) : UE := fun env S Q X => a env S (fun d S1 => ∃ c, tru S1 d = some c ∧ Q (.bl (!c)) S1) X
def uIte (c : UT) (a b : UE) : UE := fun env S Q X => c env S (fun k S1 => if k = true then a env S1 Q X else b env S1 Q X) X
def uNil : UA := fun _ S Q _ => Q [] S
def uCons (a : UE) (r : UA) : UA := fun env S Q X => a env S (fun d S1 => r env S1 (fun ds S2 => Q (d :: ds) S2) X) X
def uTup (r : UA) : UE := fun env S Q X => r env S (fun ds S1 => ds.length ≤ sizeLine ∧ Q (.tup ds) S1) X
/-- a new list -/
def uLst (r : UA) : UE := fun env S Q X => r env S (fun ds S1 => ds.length ≤ sizeLine ∧ ∀ p, S1 p = none → Q (.ref p) (sup S1 p (.lst ds))) X
/-- a slice's part -/
abbrev UO := En → SS → (Option Int → SS → Prop) → QX → Prop
def uNoPart : UO := fun _ S Q _ => Q none S
def uPart (u : UE) : UO := fun env S Q X => u env S (fun d S1 => ∃ i, d = .int i ∧ Q (some i) S1) X
def cut {α : Type} (xs : List α) (lo hi : Option Int) : List α := (xs.drop (HT.sIx xs.length 0 lo)).take (HT.sIx xs.length xs.length hi - HT.sIx xs.length 0 lo)
/-- d[lo:hi] -/
def vSl (d : D) (lo hi : Option Int) (S : SS) (Q : QN) : Prop := match d with
  | .str x => x.length ≤ sizeLine ∧ Q (.str (cut x lo hi)) S
  | .tup xs => Q (.tup (cut xs lo hi)) S
  | .ref a => match S a with
    | some (.lst xs) => ∀ p, S p = none → Q (.ref p) (sup S p (.lst (cut xs lo hi)))
    | some (.rol xs) => ∀ p, S p = none → Q (.ref p) (sup S p (.lst (cut xs lo hi)))
    | _ => False
  | .kl xs => ∀ p, S p = none → Q (.ref p) (sup S p (.lst (cut xs lo hi)))
  | _ => False
def uSl (u : UE) (l h : UO) : UE := fun env S Q X => u env S (fun d S1 => l env S1 (fun lo S2 => h env S2 (fun hi S3 => vSl d lo hi S3 Q) X) X) X

/-- the parts of a lifted reading -/
theorem AbsS.newL {K : PySem.W.Frag} {H : Hp} {S : SS} {ds : List D} {vs : List V} {p : Addr} (h : AbsS K H S) (n : H p = none) (r : RepL K H ds vs) : AbsS K (upd H p (.lst vs)) (sup S p (.lst ds)) :=
  h.new n ⟨vs, upd_same, r.keep (.new n)⟩

section
variable {X : Cx} {a b c e o : Expr} {es : List Expr} {ua ub uc u : UE} {pos : Pos}
theorem de_int {i j} : DE X (.Constant (.int i) j pos) (uC (.int i)) := pe_imp pe_int fun σ H Q ⟨env, S, Qd, W, hE, hA, hT, hu, hk⟩ => hk _ _ _ _ (.refl _ _) (rep_int.mpr rfl) hA hu
theorem de_bl {k j} : DE X (.Constant (.bool k) j pos) (uC (.bl k)) := pe_imp pe_bl fun σ H Q ⟨env, S, Qd, W, hE, hA, hT, hu, hk⟩ => hk _ _ _ _ (.refl _ _) (rep_bl.mpr rfl) hA hu
theorem de_non {j} : DE X (.Constant .none j pos) (uC .non) := pe_imp pe_non fun σ H Q ⟨env, S, Qd, W, hE, hA, hT, hu, hk⟩ => hk _ _ _ _ (.refl _ _) (rep_non.mpr rfl) hA hu
theorem de_str {s : String} {j} : DE X (.Constant (.str (Str.ofString s)) j pos) (uC (.str (cs s))) := pe_imp pe_str fun σ H Q ⟨env, S, Qd, W, hE, hA, hT, hu, hk⟩ => hk _ _ _ _ (.refl _ _) (rep_str.mpr (by rw [tx_cs])) hA hu
theorem de_var (i : Nat) {x : Str} (hN : X.N[i]? = some x := by rfl) (hv : Vis X.env.scope x := by first | exact Or.inl rfl | exact Or.inr (Or.inl rfl) | exact Or.inr (Or.inr rfl)) (hd : (x == ("__debug__" : Str)) = false := by decide)
    (hcd : (x == ("__classdict__" : Str)) = false := by decide) : DE X (.Name x pos) (uVar i) := pe_imp (pe_var hN hv hd hcd) fun σ H Q ⟨env, S, Qd, W, hE, hA, hT, ⟨d, e, q⟩, hk⟩ => by
  obtain ⟨v, ev, r⟩ := hE.2 i d e
  exact ⟨v, ev, hk v d H S (.refl _ _) r hA q⟩
/-- a module's constant -/
theorem de_glob {x : Str} {v : V} {w : Value} {d : D} (hg : Gl X x) (hm : X.mg x = some w) (r : RelV v w) (hr : ∀ H, Rep X.K H d v) (hd : (x == ("__debug__" : Str)) = false := by decide) : DE X (.Name x pos) (uC d) :=
  pe_imp (pe_glob hg hm r hd) fun σ H Q ⟨env, S, Qd, W, hE, hA, hT, hu, hk⟩ => hk _ _ _ _ (.refl _ _) (hr H) hA hu
theorem lift2 {f : F2} {σ : L2.St} {H : Hp} {Q : VK} (h : LE X (uBin f ua ub) σ H Q) : tOp (rD2 X.K f) (LE X ua) (LE X ub) σ H Q := by
  obtain ⟨env, S, Qd, W, hE, hA, hT, hu, hk⟩ := h
  exact ⟨env, S, _, W, hE, hA, hT, hu, fun v1 d1 H1 S1 t1 r1 a1 q1 => ⟨env, S1, _, W, hE.keep t1, a1, tstep hT t1, q1, fun v2 d2 H2 S2 t2 r2 a2 ⟨z, hz, q⟩ =>
    ⟨S2, d1, d2, z, a2, r1.keep t2, r2, hz, fun v H' s r => hk v z H' S2 ((t1.trans t2).trans (.of_same s)) r (a2.same s) q⟩⟩⟩
theorem de_bin {op : Operator} {f : F2} (ho : OpR X (binaryOp op) (rD2 X.K f)) (ha : DE X a ua) (hb : DE X b ub) : DE X (.BinOp a op b pos) (uBin f ua ub) := pe_imp (pe_op ho ha hb) fun σ H Q h => lift2 h
theorem de_cmp {op : CmpOp} {f : F2} (ho : OpR X (compareOp op) (rD2 X.K f)) (ha : DE X a ua) (hb : DE X b ub) (hm : behindInMarks op b = false := by first | exact nobehind _ (by decide) (by decide) | rfl) : DE X (.Compare a [op] [b] pos) (uBin f ua ub) :=
  pe_imp (pe_cmpR ho ha hb hm) fun σ H Q h => lift2 h
theorem de_neg (ha : DE X a ua) : DE X (.UnaryOp .USub a pos) (uUn dNeg ua) := pe_imp (pe_un un_neg ha) fun σ H Q ⟨env, S, Qd, W, hE, hA, hT, hu, hk⟩ =>
  ⟨env, S, _, W, hE, hA, hT, hu, fun v1 d1 H1 S1 t1 r1 a1 ⟨z, hz, q⟩ => by
    unfold dNeg at hz
    split at hz
    · cases hz
      rw [rep_int] at r1; subst r1
      exact ⟨_, rfl, hk _ _ _ _ t1 (rep_int.mpr rfl) a1 q⟩
    · cases hz⟩
theorem lift3 {f g : F2} {σ : L2.St} {H : Hp} {Q : VK} (h : LE X (uChain f g ua ub uc) σ H Q) : tChain (rD2 X.K f) (rD2 X.K g) (LE X ua) (LE X ub) (LE X uc) σ H Q := by
  obtain ⟨env, S, Qd, W, hE, hA, hT, hu, hk⟩ := h
  refine ⟨env, S, _, W, hE, hA, hT, hu, fun v1 d1 H1 S1 t1 r1 a1 q1 => ⟨env, S1, _, W, hE.keep t1, a1, tstep hT t1, q1, fun v2 d2 H2 S2 t2 r2 a2 ⟨k, hz, q⟩ => ⟨S2, d1, d2, _, a2, r1.keep t2, r2, hz, fun v H' s r => ?_⟩⟩⟩
  rw [rep_bl] at r
  refine ⟨k, r, ?_⟩
  have t3 := (t1.trans t2).trans (.of_same s)
  cases k with
  | false => exact hk _ _ _ _ t3 (rep_bl.mpr rfl) (a2.same s) q
  | true => exact ⟨env, S2, _, W, hE.keep t3, a2.same s, tstep hT t3, q, fun v3 d3 H3 S3 t4 r3 a3 ⟨z, hz, q⟩ => ⟨S3, d2, d3, z, a3, r2.keep ((TK.of_same s).trans t4), r3, hz, fun v H' s2 r => hk v z H' S3 ((t3.trans t4).trans (.of_same s2)) r (a3.same s2) q⟩⟩
theorem de_chain {op op' : CmpOp} {f g : F2} (ho : OpR X (compareOp op) (rD2 X.K f)) (ho' : OpR X (compareOp op') (rD2 X.K g)) (ha : DE X a ua) (hb : DE X b ub) (hc : DE X c uc) (hm : lastMarks [op, op'] [b, c] = false := by with_unfolding_all rfl) :
    DE X (.Compare a [op, op'] [b, c] pos) (uChain f g ua ub uc) := pe_imp (pe_chain ho ho' ha hb hc hm) fun σ H Q h => lift3 h
/-! tests -/
theorem dt_cmp {op : CmpOp} {f : F2} (ho : OpR X (compareOp op) (rD2 X.K f)) (ha : DE X a ua) (hb : DE X b ub) (hm : behindInMarks op b = false := by first | exact nobehind _ (by decide) (by decide) | rfl) : DT X (.Compare a [op] [b] pos) (uTb (uBin f ua ub)) :=
  pt_imp (pt_cmpR ho ha hb hm) fun σ H Q ⟨env, S, Qd, W, hE, hA, hT, hu, hk⟩ => lift2 ⟨env, S, _, W, hE, hA, hT, hu, fun v d H' S' t r a ⟨b, e, q⟩ => by subst e; rw [rep_bl] at r; exact ⟨b, r, hk b H' S' t a q⟩⟩
theorem dt_chain {op op' : CmpOp} {f g : F2} (ho : OpR X (compareOp op) (rD2 X.K f)) (ho' : OpR X (compareOp op') (rD2 X.K g)) (ha : DE X a ua) (hb : DE X b ub) (hc : DE X c uc) (hm : lastMarks [op, op'] [b, c] = false := by with_unfolding_all rfl) :
    DT X (.Compare a [op, op'] [b, c] pos) (uTb (uChain f g ua ub uc)) :=
  pt_imp (pt_chain ho ho' ha hb hc hm) fun σ H Q ⟨env, S, Qd, W, hE, hA, hT, hu, hk⟩ => lift3 ⟨env, S, _, W, hE, hA, hT, hu, fun v d H' S' t r a ⟨b, e, q⟩ => by subst e; rw [rep_bl] at r; exact ⟨b, r, hk b H' S' t a q⟩⟩
theorem tru_rep {K : PySem.W.Frag} {H : Hp} {S : SS} {d : D} {v : V} {k : Bool} (hA : AbsS K H S) (r : Rep K H d v) (h : tru S d = some k) : TruV K v H k := by
  have emp : ∀ {ds : List D} {vs : List V}, RepL K H ds vs → vs.isEmpty = ds.isEmpty := fun {ds vs} r => by
    cases ds with
    | nil => rw [repL_nil.mp r]; rfl
    | cons d ds => obtain ⟨v, t, e, _⟩ := repL_cons.mp r; subst e; rfl
  cases d with
  | non => rw [rep_non] at r; subst r; cases h; rfl
  | bl b => rw [rep_bl] at r; subst r; cases h; rfl
  | int i => rw [rep_int] at r; subst r; cases h; rfl
  | str x =>
    rw [rep_str] at r; subst r
    simp only [tru] at h
    split at h
    · rename_i hl
      cases h
      refine ⟨by rw [tx_len]; exact hl, ?_⟩
      rw [tx_len]
      cases x with
      | nil => rfl
      | cons y ys =>
        symm
        show (((y :: ys).length : Int) != 0) = true
        rw [bne_iff_ne, List.length_cons]
        omega
    · cases h
  | tup xs =>
    obtain ⟨a, vs, e, q, rr⟩ := rep_tup.mp r
    subst e
    cases h
    exact .inr (.inl ⟨vs, q, by rw [emp rr]⟩)
  | ref a =>
    rw [rep_ref] at r; subst r
    simp only [tru] at h
    split at h
    · rename_i xs e
      cases h
      obtain ⟨vs, q, r⟩ := hA _ _ e
      exact .inl ⟨vs, .of q, by rw [emp r]⟩
    · rename_i xs e
      cases h
      obtain ⟨vs, q, r⟩ := hA _ _ e
      exact .inl ⟨vs, .inl q, by rw [emp r]⟩
    · cases h
  | exc _ _ _ _ => cases h
  | kl _ => cases h
theorem dt_val (ha : DE X a ua) (he : ∀ whole, isTrue a X.env whole = (do let v ← whole; standAt a.pos; holding [v] (truthy v)) := by intro _; rfl) : DT X a (uTru ua) :=
  pt_imp (pt_truth ha he) fun σ H Q ⟨env, S, Qd, W, hE, hA, hT, hu, hk⟩ => ⟨env, S, _, W, hE, hA, hT, hu, fun v d H' S' t r a ⟨b, e, q⟩ => ⟨b, tru_rep a r e, hk b H' S' t a q⟩⟩
variable {ta tb : UT} {rest : List Expr}
theorem dw_and1 (ha : DT X a ta) : DW X (.BoolOp .And [a] pos) ta := pw_and1 ha
theorem dw_or1 (ha : DT X a ta) : DW X (.BoolOp .Or [a] pos) ta := pw_or1 ha
theorem dw_and (ha : DT X a ta) (hb : DW X (.BoolOp .And (b :: rest) pos) tb) : DW X (.BoolOp .And (a :: b :: rest) pos) (uAnd ta tb) :=
  pw_imp (pw_and ha hb) fun σ H Q ⟨env, S, Qd, W, hE, hA, hT, hu, hk⟩ => ⟨env, S, _, W, hE, hA, hT, hu, fun k H1 S1 t1 a1 q1 => by
    cases k with
    | false => exact hk _ _ _ t1 a1 q1
    | true => exact ⟨env, S1, _, W, hE.keep t1, a1, tstep hT t1, q1, fun b H2 S2 t2 a2 q2 => hk _ _ _ (t1.trans t2) a2 q2⟩⟩
theorem dw_or (ha : DT X a ta) (hb : DW X (.BoolOp .Or (b :: rest) pos) tb) : DW X (.BoolOp .Or (a :: b :: rest) pos) (uOr ta tb) :=
  pw_imp (pw_or ha hb) fun σ H Q ⟨env, S, Qd, W, hE, hA, hT, hu, hk⟩ => ⟨env, S, _, W, hE, hA, hT, hu, fun k H1 S1 t1 a1 q1 => by
    cases k with
    | true => exact hk _ _ _ t1 a1 q1
    | false => exact ⟨env, S1, _, W, hE.keep t1, a1, tstep hT t1, q1, fun b H2 S2 t2 a2 q2 => hk _ _ _ (t1.trans t2) a2 q2⟩⟩
theorem dt_bool (h : DW X e ta) : DT X e ta := PW.pt h
theorem dt_not (ha : DT X a ta) : DT X (.UnaryOp .Not a pos) (uNot ta) :=
  pt_imp (pt_not ha) fun σ H Q ⟨env, S, Qd, W, hE, hA, hT, hu, hk⟩ => ⟨env, S, _, W, hE, hA, hT, hu, fun k H1 S1 t1 a1 q1 => hk _ _ _ t1 a1 q1⟩
theorem de_one {op} (h : DE X a ua) : DE X (.BoolOp op [a] pos) ua := pe_one h
theorem de_and (ha : DE X a ua) (hb : DE X (.BoolOp .And (b :: rest) pos) ub) : DE X (.BoolOp .And (a :: b :: rest) pos) (uAndV ua ub) :=
  pe_imp (pe_andT ha hb) fun σ H Q ⟨env, S, Qd, W, hE, hA, hT, hu, hk⟩ => ⟨env, S, _, W, hE, hA, hT, hu, fun v d H1 S1 t1 r1 a1 ⟨k, hz, q1⟩ => ⟨k, tru_rep a1 r1 hz, by
    cases k with
    | false => exact hk _ _ _ _ t1 r1 a1 q1
    | true => exact ⟨env, S1, _, W, hE.keep t1, a1, tstep hT t1, q1, fun v2 d2 H2 S2 t2 r2 a2 q2 => hk _ _ _ _ (t1.trans t2) r2 a2 q2⟩⟩⟩
theorem de_or (ha : DE X a ua) (hb : DE X (.BoolOp .Or (b :: rest) pos) ub) : DE X (.BoolOp .Or (a :: b :: rest) pos) (uOrV ua ub) :=
  pe_imp (pe_orT ha hb) fun σ H Q ⟨env, S, Qd, W, hE, hA, hT, hu, hk⟩ => ⟨env, S, _, W, hE, hA, hT, hu, fun v d H1 S1 t1 r1 a1 ⟨k, hz, q1⟩ => ⟨k, tru_rep a1 r1 hz, by
    cases k with
    | true => exact hk _ _ _ _ t1 r1 a1 q1
    | false => exact ⟨env, S1, _, W, hE.keep t1, a1, tstep hT t1, q1, fun v2 d2 H2 S2 t2 r2 a2 q2 => hk _ _ _ _ (t1.trans t2) r2 a2 q2⟩⟩⟩
theorem de_not (ha : DE X a ua) : DE X (.UnaryOp .Not a pos) (uNotV ua) :=
  pe_imp (pe_notT ha) fun σ H Q ⟨env, S, Qd, W, hE, hA, hT, hu, hk⟩ => ⟨env, S, _, W, hE, hA, hT, hu, fun v d H1 S1 t1 r1 a1 ⟨k, hz, q1⟩ => ⟨k, tru_rep a1 r1 hz, hk _ _ _ _ t1 (rep_bl.mpr rfl) a1 q1⟩⟩
theorem de_ite (hc : DT X c ta) (ha : DE X a ua) (hb : DE X b ub) : DE X (.IfExp c a b pos) (uIte ta ua ub) :=
  pe_imp (pe_ifExp hc ha hb) fun σ H Q ⟨env, S, Qd, W, hE, hA, hT, hu, hk⟩ => ⟨env, S, _, W, hE, hA, hT, hu, fun k H1 S1 t1 a1 q1 => by
    cases k with
    | true => exact ⟨env, S1, _, W, hE.keep t1, a1, tstep hT t1, q1, fun v2 d2 H2 S2 t2 r2 a2 q2 => hk _ _ _ _ (t1.trans t2) r2 a2 q2⟩
    | false => exact ⟨env, S1, _, W, hE.keep t1, a1, tstep hT t1, q1, fun v2 d2 H2 S2 t2 r2 a2 q2 => hk _ _ _ _ (t1.trans t2) r2 a2 q2⟩⟩
/-! argument lists, displays -/
variable {r : UA}
theorem da_nil : DA X [] uNil := pa_imp pa_nil fun σ H Q ⟨env, S, Qd, W, hE, hA, hT, hu, hk⟩ => hk _ _ _ _ (.refl _ _) .nil hA hu
theorem da_cons (ha : DE X e ua) (hr : DA X es r) (hs : starEach (e :: es) X.env = (false, eval e X.env) :: starEach es X.env := by rfl) : DA X (e :: es) (uCons ua r) :=
  pa_imp (pa_cons ha hr hs) fun σ H Q ⟨env, S, Qd, W, hE, hA, hT, hu, hk⟩ => ⟨env, S, _, W, hE, hA, hT, hu, fun v d H1 S1 t1 r1 a1 q1 => ⟨env, S1, _, W, hE.keep t1, a1, tstep hT t1, q1, fun vs ds H2 S2 t2 r2 a2 q2 =>
    hk _ _ _ _ (t1.trans t2) (.cons (r1.keep t2) r2) a2 q2⟩⟩
theorem de_tup {x1} (h : DA X es r) : DE X (.Tuple es x1 pos) (uTup r) := pe_imp (pe_tup h) fun σ H Q ⟨env, S, Qd, W, hE, hA, hT, hu, hk⟩ => ⟨env, S, _, W, hE, hA, hT, hu, fun vs ds H1 S1 t1 r1 a1 ⟨z, q1⟩ =>
  ⟨by rw [r1.length]; exact z, fun p hp => hk _ _ _ _ (t1.trans (.new hp)) (.newTup hp r1) (a1.same (Same.new hp)) q1⟩⟩
theorem de_lst (h : DA X es r) : DE X (.List es pos) (uLst r) := pe_imp (pe_lst h) fun σ H Q ⟨env, S, Qd, W, hE, hA, hT, hu, hk⟩ => ⟨env, S, _, W, hE, hA, hT, hu, fun vs ds H1 S1 t1 r1 a1 ⟨z, q1⟩ =>
  ⟨by rw [r1.length]; exact z, fun p hp => hk _ _ _ _ (t1.trans (.new hp)) (rep_ref.mpr rfl) (a1.newL hp r1) (q1 p (a1.fresh hp))⟩⟩
/-! subscripts -/
theorem de_ix (ha : DE X a ua) (hb : DE X b ub) (hs : PlainIx b := by exact fun _ _ => rfl) : DE X (.Subscript a b pos) (uBin dIx ua ub) := pe_imp (pe_ix od_ix ha hb hs) fun σ H Q h => lift2 h
structure DO (X : Cx) (e : Option Expr) (u : UO) : Prop where
  po : ∃ t, PO X e t ∧ ∀ σ H Q env S (Qd : Option Int → SS → Prop) W, EnvR X.K H env σ → AbsS X.K H S → Takes X (lw X.K H W) → u env S Qd (fun c fs S' => W c fs env S') → (∀ o H' S', TK X.K H H' → AbsS X.K H' S' → Qd o S' → Q o H') → t σ H Q
theorem do_none : DO X none uNoPart := ⟨tNoPart, po_none, fun σ H Q env S Qd W hE hA hT hu hk => hk _ _ _ (.refl _ _) hA hu⟩
theorem do_some (h : DE X e u) : DO X (some e) (uPart u) := ⟨_, po_some h, fun σ H Q env S Qd W hE hA hT hu hk => ⟨env, S, _, W, hE, hA, hT, hu, fun v d H' S' t r a ⟨i, ei, q⟩ => by
  subst ei; rw [rep_int] at r; exact ⟨i, r, hk _ _ _ t a q⟩⟩⟩
theorem cut_length {α : Type} (xs : List α) (lo hi : Option Int) : (cut xs lo hi).length ≤ xs.length := by unfold cut; rw [List.length_take, List.length_drop]; omega
theorem RepL.cut {K : PySem.W.Frag} {H : Hp} {ds : List D} {vs : List V} (r : RepL K H ds vs) (lo hi : Option Int) : RepL K H (SL.cut ds lo hi) (cutV vs lo hi) := by
  unfold SL.cut cutV
  rw [r.length]
  exact (r.drop _).take _
theorem cutS_tx (x : List Nat) (lo hi : Option Int) : cutS (tx x) lo hi = tx (SL.cut x lo hi) := by
  unfold cutS SL.cut
  rw [tx_len, tx_cps]
  rfl
def rSD (K : PySem.W.Frag) : V → Option Int → Option Int → Hp → VK → Prop := fun x lo hi H Q => ∃ S d Qd, AbsS K H S ∧ Rep K H d x ∧ vSl d lo hi S Qd ∧ ∀ v d' H' S', TK K H H' → Rep K H' d' v → AbsS K H' S' → Qd d' S' → Q v H'
theorem sl_d : SlR X (rSD X.K) := by
  intro pins s σ H x v vl vu lo hi sl Q I rx hs pl pu ⟨S, d, Qd, hA, r, h, k⟩
  unfold vSl at h
  split at h
  · rw [rep_str] at r; subst r
    exact sl_str pins s σ H _ v vl vu lo hi sl Q I rx hs pl pu ⟨_, rfl, by rw [tx_len]; exact h.1, by rw [cutS_tx]; exact k _ _ _ _ (.refl _ _) (rep_str.mpr rfl) hA h.2⟩
  · obtain ⟨a, vs, e, q, rr⟩ := rep_tup.mp r
    subst e
    refine sl_tupA pins s σ H _ v vl vu lo hi sl Q I rx hs pl pu ⟨a, vs, rfl, q, fun hw => ?_, fun hw p hp => ?_⟩
    · refine k _ _ _ _ (.refl _ _) (.tup q ?_) hA h
      have := rr.cut lo hi
      unfold cutV at this
      rw [hw.1, hw.2] at this
      simpa using this
    · exact k _ _ _ _ (.new hp) (.newTup hp (rr.cut lo hi)) (hA.same (Same.new hp)) h
  · rename_i a
    rw [rep_ref] at r; subst r
    split at h
    · rename_i xs e
      obtain ⟨vs, q, rr⟩ := hA _ _ e
      exact sl_list pins s σ H _ v vl vu lo hi sl Q I rx hs pl pu ⟨a, vs, rfl, .of q, fun p hp => k _ _ _ _ (.new hp) (rep_ref.mpr rfl) (hA.newL hp (rr.cut lo hi)) (h p (hA.fresh hp))⟩
    · rename_i xs e
      obtain ⟨vs, q, rr⟩ := hA _ _ e
      exact sl_list pins s σ H _ v vl vu lo hi sl Q I rx hs pl pu ⟨a, vs, rfl, .inl q, fun p hp => k _ _ _ _ (.new hp) (rep_ref.mpr rfl) (hA.newL hp (rr.cut lo hi)) (h p (hA.fresh hp))⟩
    · exact h.elim
  · obtain ⟨a, vs, e, q, rr⟩ := rep_kl.mp r
    subst e
    exact sl_list pins s σ H _ v vl vu lo hi sl Q I rx hs pl pu ⟨a, vs, rfl, .inr q, fun p hp => k _ _ _ _ (.new hp) (rep_ref.mpr rfl) (hA.newL hp (rr.cut lo hi)) (h p (hA.fresh hp))⟩
  · exact h.elim
theorem de_slice {lo hi : Option Expr} {ul uh : UO} {p2 : Pos} (ha : DE X a ua) (hl : DO X lo ul) (hh : DO X hi uh) : DE X (.Subscript a (.Slice lo hi none p2) pos) (uSl ua ul uh) := by
  obtain ⟨tl, pl, kl⟩ := hl.po
  obtain ⟨th, ph, kh⟩ := hh.po
  refine pe_imp (pe_slice sl_d ha pl ph) fun σ H Q ⟨env, S, Qd, W, hE, hA, hT, hu, hk⟩ => ⟨env, S, _, W, hE, hA, hT, hu, fun v1 d1 H1 S1 t1 r1 a1 q1 => ?_⟩
  refine kl σ H1 _ env S1 _ W (hE.keep t1) a1 (tstep hT t1) q1 fun l H2 S2 t2 a2 q2 => ?_
  refine kh σ H2 _ env S2 _ W (hE.keep (t1.trans t2)) a2 (tstep hT (t1.trans t2)) q2 fun h H3 S3 t3 a3 q3 => ?_
  exact ⟨S3, d1, Qd, a3, r1.keep (t2.trans t3), q3, fun v d' H' S' t r a q => hk v d' H' S' (((t1.trans t2).trans t3).trans t) r a q⟩
end
end SL

set_option Elab.async false
set_option linter.all false
set_option maxRecDepth 100000
set_option maxHeartbeats 4000000
/-! SL4: statements, loops, comprehensions, attributes. -/
namespace SL
open PySem PySem.Spec L2

theorem AbsS.getL {K : PySem.W.Frag} {H : Hp} {S : SS} {a : Addr} {xs : List D} (h : AbsS K H S) (e : S a = some (.lst xs)) : ∃ vs, H a = some (.lst vs) ∧ RepL K H xs vs := h a _ e
theorem AbsS.getR {K : PySem.W.Frag} {H : Hp} {S : SS} {a : Addr} {xs : List D} (h : AbsS K H S) (e : S a = some (.rol xs)) : ∃ vs, Rd H a (.lst vs) ∧ RepL K H xs vs := h a _ e
theorem AbsS.getI {K : PySem.W.Frag} {H : Hp} {S : SS} {a C : Addr} {fs : Fs} (h : AbsS K H S) (e : S a = some (.ins C fs)) : ∃ dx vfs, H a = some (.ins C dx vfs) ∧ FsR K H fs vfs := h a _ e
theorem ObR.mkL {K : PySem.W.Frag} {H : Hp} {a : Addr} {xs : List D} {vs : List V} (e : H a = some (.lst vs)) (r : RepL K H xs vs) : ObR K H a (.lst xs) := ⟨vs, e, r⟩
theorem ObR.mkI {K : PySem.W.Frag} {H : Hp} {a C dx : Addr} {fs : Fs} {vfs : List (Str × V)} (e : H a = some (.ins C dx vfs)) (r : FsR K H fs vfs) : ObR K H a (.ins C fs) := ⟨dx, vfs, e, r⟩
/-- lo, lo + 1, .. -/
def irng (lo : Int) (n : Nat) : List D := (List.range n).map fun k : Nat => D.int (lo + (k : Int))

/-! ### statements -/
def usNil : US := fun D env S => D.nx env S
def usSeq (a b : US) : US := fun D env S => a { D with nx := b D } env S
def usSet (i : Nat) (u : UE) : US := fun D env S => u env S (fun d S1 => D.nx (env.set i (some d)) S1) (fun c fs S1 => D.ex c fs env S1)
def usExpr (u : UE) : US := fun D env S => u env S (fun _ S1 => D.nx env S1) (fun c fs S1 => D.ex c fs env S1)
def usRet (u : UE) : US := fun D env S => u env S D.rt (fun c fs S1 => D.ex c fs env S1)
def usRetN : US := fun D _ S => D.rt .non S
def usIf (c : UT) (a b : US) : US := fun D env S => c env S (fun k S1 => if k = true then a D env S1 else b D env S1) (fun c fs S1 => D.ex c fs env S1)
def usBrk : US := fun D env S => D.bk env S
def usCnt : US := fun D env S => D.ct env S
def usNever : US := fun _ _ _ => False
/-- o[i] = d -/
def vSet (o i d : D) (S : SS) (Q : SS → Prop) : Prop := match o, i with
  | .ref a, .int k => match S a with
    | some (.lst xs) => ∃ j, ixN xs.length k = some j ∧ Q (sup S a (.lst (xs.set j d)))
    | _ => False
  | _, _ => False
def usSub (o i e : UE) : US := fun D env S => e env S (fun d S1 => o env S1 (fun od S2 => i env S2 (fun id S3 => vSet od id d S3 fun S4 => D.nx env S4) (fun c fs S1 => D.ex c fs env S1)) (fun c fs S1 => D.ex c fs env S1)) (fun c fs S1 => D.ex c fs env S1)
/-- an attribute that is the instance's own -/
def FldOk (K : PySem.W.Frag) (C : Addr) (f : Str) : Prop := Cls K C ∧ NoAttr K C f
def vFld (K : PySem.W.Frag) (d : D) (f : Str) (S : SS) (Q : QN) : Prop := match d with
  | .ref a => match S a with
    | some (.ins C fs) => FldOk K C f ∧ ∃ x, fs.lookup f = some x ∧ Q x S
    | _ => False
  | _ => False
def uFld (K : PySem.W.Frag) (f : Str) (u : UE) : UE := fun env S Q X => u env S (fun d S1 => vFld K d f S1 Q) X
def vPut (K : PySem.W.Frag) (o : D) (f : Str) (d : D) (S : SS) (Q : SS → Prop) : Prop := match o with
  | .ref a => match S a with
    | some (.ins C fs) => FldOk K C f ∧ fs.length < 1000 ∧ Q (sup S a (.ins C (putS f d fs)))
    | _ => False
  | _ => False
def usFld (K : PySem.W.Frag) (f : Str) (o e : UE) : US := fun D env S => e env S (fun d S1 => o env S1 (fun od S2 => vPut K od f d S2 fun S3 => D.nx env S3) (fun c fs S1 => D.ex c fs env S1)) (fun c fs S1 => D.ex c fs env S1)
/-- i op= e -/
def usAug (i : Nat) (f : F2) (e : UE) : US := fun D env S => ∃ d, env[i]? = some (some d) ∧ e env S (fun d2 S1 => ∃ z, f S1 d d2 = some z ∧ D.nx (env.set i (some z)) S1) (fun c fs S1 => D.ex c fs env S1)

/-! ### targets -/
abbrev UG := D → SS → En → (En → Prop) → Prop
abbrev UGs := List D → SS → En → (En → Prop) → Prop
def ugName (i : Nat) : UG := fun d _ env Q => Q (env.set i (some d))
def ugNil : UGs := fun ds _ env Q => ds = [] ∧ Q env
def ugCons (g : UG) (r : UGs) : UGs := fun ds S env Q => ∃ d t, ds = d :: t ∧ g d S env fun env' => r t S env' Q
def ugTup (r : UGs) : UG := fun d S env Q => ∃ xs, seqOf S d = some xs ∧ r xs S env Q
def usAsg (g : UG) (u : UE) : US := fun D env S => u env S (fun d S1 => g d S1 env fun env' => D.nx env' S1) (fun c fs S1 => D.ex c fs env S1)
def LG (X : Cx) (u : UG) : TG := fun v σ H Q => ∃ d S env Qd, EnvR X.K H env σ ∧ AbsS X.K H S ∧ Rep X.K H d v ∧ u d S env Qd ∧ ∀ env' σ', EnvR X.K H env' σ' → Qd env' → Q σ' H
def LGs (X : Cx) (u : UGs) : TGs := fun vs σ H Q => ∃ ds S env Qd, EnvR X.K H env σ ∧ AbsS X.K H S ∧ RepL X.K H ds vs ∧ u ds S env Qd ∧ ∀ env' σ', EnvR X.K H env' σ' → Qd env' → Q σ' H
def DG (X : Cx) (e : Expr) (u : UG) : Prop := PG X e (LG X u)
def DGs (X : Cx) (es : List Expr) (u : UGs) : Prop := PGs X es (LGs X u)
theorem pg_imp {X : Cx} {e : Expr} {t t' : TG} (h : PG X e t) (k : ∀ v σ H Q, t' v σ H Q → t v σ H Q) : PG X e t' := ⟨fun pins s σ H v u Q I r q => h.run pins s σ H v u Q I r (k _ _ _ _ q)⟩
theorem pgs_imp {X : Cx} {e : List Expr} {t t' : TGs} (h : PGs X e t) (k : ∀ v σ H Q, t' v σ H Q → t v σ H Q) : PGs X e t' := ⟨fun pins s σ H v u Q I r q => h.run pins s σ H v u Q I r (k _ _ _ _ q)⟩
theorem pg_or {X : Cx} {e : Expr} {t t' : TG} (h : PG X e t) (h' : PG X e t') : PG X e (fun v σ H Q => t v σ H Q ∨ t' v σ H Q) := ⟨fun pins s σ H v u Q I r q => by
  rcases q with q | q
  · exact h.run pins s σ H v u Q I r q
  · exact h'.run pins s σ H v u Q I r q⟩

section
variable {X : Cx} {st : Stmt} {rest : List Stmt} {e o i : Expr} {u uo ui : UE} {a b : US} {pos pos' : Pos}
theorem db_nil : DB X [] usNil := pss_imp pss_nil fun D σ H ⟨env, S, E, hE, hA, hT, hu, hn, hr, hb, hc⟩ => hn _ _ _ _ (.refl _ _) hE hA hu
theorem lift_seq {u : US} {t2 : TS} {D : Ends} {σ : L2.St} {H : Hp} (h : LS X (usSeq a b) D σ H) : LS X a { D with nx := fun σ' H' => LS X b D σ' H' } σ H := by
  obtain ⟨env, S, E, hE, hA, hT, hu, hn, hr, hb, hc⟩ := h
  exact ⟨env, S, { E with nx := b E }, hE, hA, hT, hu, fun σ' H' env' S' t e a q => ⟨env', S', E, e, a, tstep hT t, q, fun σ2 H2 env2 S2 t2 e2 a2 q2 => hn _ _ _ _ (t.trans t2) e2 a2 q2, fun v d H2 S2 t2 r2 a2 q2 => hr _ _ _ _ (t.trans t2) r2 a2 q2,
    fun σ2 H2 env2 S2 t2 e2 a2 q2 => hb _ _ _ _ (t.trans t2) e2 a2 q2, fun σ2 H2 env2 S2 t2 e2 a2 q2 => hc _ _ _ _ (t.trans t2) e2 a2 q2⟩, hr, hb, hc⟩
theorem db_cons (h1 : DS X st a) (h2 : DB X rest b) : DB X (st :: rest) (usSeq a b) := pss_imp (pss_cons h1 h2) fun D σ H h => lift_seq (u := a) (t2 := fun _ _ _ => True) h
theorem db_one (h1 : DS X st a) : DB X [st] a := pss_one h1
theorem ds_pass : DS X (.Pass pos) usNil := ps_imp ps_pass fun D σ H ⟨env, S, E, hE, hA, hT, hu, hn, hr, hb, hc⟩ => hn _ _ _ _ (.refl _ _) hE hA hu
theorem ds_break : DS X (.Break pos) usBrk := ps_imp ps_break fun D σ H ⟨env, S, E, hE, hA, hT, hu, hn, hr, hb, hc⟩ => hb _ _ _ _ (.refl _ _) hE hA hu
theorem ds_continue : DS X (.Continue pos) usCnt := ps_imp ps_continue fun D σ H ⟨env, S, E, hE, hA, hT, hu, hn, hr, hb, hc⟩ => hc _ _ _ _ (.refl _ _) hE hA hu
theorem ds_never : DS X st usNever := ps_imp ps_never fun D σ H ⟨env, S, E, hE, hA, hT, hu, _⟩ => hu.elim
theorem db_never : DB X rest usNever := pss_imp pss_never fun D σ H ⟨env, S, E, hE, hA, hT, hu, _⟩ => hu.elim
theorem ds_expr (he : DE X e u) (hs : swapsWith e none pos.line X.env = pure false := by rfl) : DS X (.Expr e pos) (usExpr u) := ps_imp (ps_expr he hs) fun D σ H ⟨env, S, E, hE, hA, hT, hu, hn, hr, hb, hc⟩ =>
  ⟨env, S, _, E.ex, hE, hA, hT, hu, fun v d H1 S1 t1 r1 a1 q1 => hn _ _ _ _ t1 (hE.keep t1) a1 q1⟩
theorem ds_ret (he : DE X e u) : DS X (.Return (some e) pos) (usRet u) := ps_imp (ps_ret he) fun D σ H ⟨env, S, E, hE, hA, hT, hu, hn, hr, hb, hc⟩ =>
  ⟨env, S, _, E.ex, hE, hA, hT, hu, fun v d H1 S1 t1 r1 a1 q1 => hr _ _ _ _ t1 r1 a1 q1⟩
theorem ds_retN : DS X (.Return none pos) usRetN := ps_imp ps_retN fun D σ H ⟨env, S, E, hE, hA, hT, hu, hn, hr, hb, hc⟩ => hr _ _ _ _ (.refl _ _) (rep_non.mpr rfl) hA hu
theorem ds_if {c : Expr} {uc : UT} {p q : List Stmt} (hc : DT X c uc) (ha : DB X p a) (hb : DB X q b) : DS X (.If c p q pos) (usIf uc a b) := ps_imp (ps_if hc ha hb) fun D σ H ⟨env, S, E, hE, hA, hT, hu, hn, hr, hb, hc⟩ =>
  ⟨env, S, _, E.ex, hE, hA, hT, hu, fun k H1 S1 t1 a1 q1 => by
    have z : ∀ {u : US}, u E env S1 → LS X u D σ H1 := fun {u} q => ⟨env, S1, E, hE.keep t1, a1, tstep hT t1, q, fun σ2 H2 env2 S2 t2 e2 a2 q2 => hn _ _ _ _ (t1.trans t2) e2 a2 q2, fun v d H2 S2 t2 r2 a2 q2 => hr _ _ _ _ (t1.trans t2) r2 a2 q2,
      fun σ2 H2 env2 S2 t2 e2 a2 q2 => hb _ _ _ _ (t1.trans t2) e2 a2 q2, fun σ2 H2 env2 S2 t2 e2 a2 q2 => hc _ _ _ _ (t1.trans t2) e2 a2 q2⟩
    cases k with
    | true => exact z q1
    | false => exact z q1⟩
theorem ds_set (i : Nat) {x : Str} (hN : X.N.Nodup) (he : DE X e u) (hi : X.N[i]? = some x := by rfl) (hx : Loc X.env.scope x := by first | exact Or.inl rfl | exact Or.inr rfl) (hs : swapsWith e (some (.Name x pos')) pos.line X.env = pure false := by rfl) (hf : X.fn x = true ∨ X.env.scope.names.lookup x = some .local := by first | exact .inl rfl | exact .inr rfl) :
    DS X (.Assign [.Name x pos'] e pos) (usSet i u) := ps_imp (ps_set hN hi hx he hs hf) fun D σ H ⟨env, S, E, hE, hA, hT, hu, hn, hr, hb, hc⟩ =>
  ⟨env, S, _, E.ex, hE, hA, hT, hu, fun v d H1 S1 t1 r1 a1 q1 => hn _ _ _ _ t1 ((hE.keep t1).set r1) a1 q1⟩
theorem dg_name (i : Nat) {x : Str} (hN : X.N.Nodup) (hi : X.N[i]? = some x := by rfl) (hx : Loc X.env.scope x := by first | exact Or.inl rfl | exact Or.inr rfl) (hf : X.fn x = true ∨ X.env.scope.names.lookup x = some .local := by first | exact .inl rfl | exact .inr rfl) : DG X (.Name x pos) (ugName i) :=
  pg_imp (pg_name hN hi hx hf) fun v σ H Q ⟨d, S, env, Qd, hE, hA, r, hu, hk⟩ => hk _ _ (hE.set r) hu
theorem dgs_nil : DGs X [] ugNil := pgs_imp pgs_nil fun vs σ H Q ⟨ds, S, env, Qd, hE, hA, r, hu, hk⟩ => by
  obtain ⟨e, q⟩ := hu
  subst e
  exact ⟨repL_nil.mp r, hk _ _ hE q⟩
theorem dgs_cons {es : List Expr} {g : UG} {r : UGs} (h1 : DG X e g) (h2 : DGs X es r) (hs : (assignEach (e :: es) X.env).map (·.2) = assign e X.env :: (assignEach es X.env).map (·.2) := by rfl) : DGs X (e :: es) (ugCons g r) :=
  pgs_imp (pgs_cons h1 h2 hs) fun vs σ H Q ⟨ds, S, env, Qd, hE, hA, rr, hu, hk⟩ => by
    obtain ⟨d, t, e, q⟩ := hu
    subst e
    obtain ⟨v, r, ev, r1, r2⟩ := repL_cons.mp rr
    exact ⟨v, r, ev, d, S, env, _, hE, hA, r1, q, fun env' σ' hE' q' => ⟨t, S, env', Qd, hE', hA, r2, q', hk⟩⟩
theorem ugs_len {n : Nat} {r : UGs} (h : ∀ ds S env Q, r ds S env Q → ds.length = n) : ∀ ds S env Q, r ds S env Q → ds.length = n := h
theorem dg_tup {es : List Expr} {k n : Nat} {r : UGs} (hc : X.calm = true) (h : DGs X es r) (hlen : ∀ ds S env Q, r ds S env Q → ds.length = n)
    (hn : (assignEach es X.env).length = n := by rfl) (hst : (assignEach es X.env).findIdx? (·.1) = none := by rfl) : DG X (.Tuple es k pos) (ugTup r) :=
  pg_imp (pg_or (pg_tup hc h hn hst) (pg_unl hc h hn hst)) fun v σ H Q ⟨d, S, env, Qd, hE, hA, rr, hu, hk⟩ => by
    obtain ⟨xs, e, q⟩ := hu
    have hl := hlen _ _ _ _ q
    obtain ⟨a, vs, ev, hq, r2⟩ := seqOf_rep hA rr e
    have fin : LGs X r vs σ H Q := ⟨xs, S, env, Qd, hE, hA, r2, q, hk⟩
    rcases hq with hq | hq
    · exact .inr ⟨a, vs, ev, hq, by rw [r2.length, hl], fin⟩
    · exact .inl ⟨a, vs, ev, hq, by rw [r2.length, hl], fin⟩
theorem ugs_len_nil : ∀ ds S env Q, ugNil ds S env Q → ds.length = 0 := fun ds S env Q h => by rw [h.1]; rfl
theorem ugs_len_cons {n : Nat} {g : UG} {r : UGs} (h : ∀ ds S env Q, r ds S env Q → ds.length = n) (hg : ∀ d S env Q, g d S env Q → ∃ env', Q env') : ∀ ds S env Q, ugCons g r ds S env Q → ds.length = n + 1 := fun ds S env Q ⟨d, t, e, q⟩ => by
  subst e
  obtain ⟨env', q'⟩ := hg _ _ _ _ q
  rw [List.length_cons, h _ _ _ _ q']
theorem ug_name_to {i : Nat} : ∀ d S env Q, ugName i d S env Q → ∃ env', Q env' := fun _ _ _ _ q => ⟨_, q⟩
theorem ugs_nil_to : ∀ ds S env Q, ugNil ds S env Q → ∃ env', Q env' := fun _ _ _ _ q => ⟨_, q.2⟩
theorem ugs_cons_to {g : UG} {r : UGs} (hg : ∀ d S env Q, g d S env Q → ∃ env', Q env') (hr : ∀ d S env Q, r d S env Q → ∃ env', Q env') : ∀ ds S env Q, ugCons g r ds S env Q → ∃ env', Q env' := fun ds S env Q ⟨d, t, e, q⟩ => by
  obtain ⟨env', q'⟩ := hg _ _ _ _ q
  exact hr _ _ _ _ q'
theorem ug_tup_to {r : UGs} (hr : ∀ d S env Q, r d S env Q → ∃ env', Q env') : ∀ d S env Q, ugTup r d S env Q → ∃ env', Q env' := fun d S env Q ⟨xs, e, q⟩ => hr _ _ _ _ q
theorem ds_asg {tg : Expr} {g : UG} (he : DE X e u) (hg : DG X tg g) (hs : swapsWithSole [tg] e pos.line X.env = pure false := by rfl) (hw : swappedStores [tg] e X.env = pure none := by rfl)
    (h1 : (assignEach [tg] X.env).map (·.2) = [assign tg X.env] := by rfl) : DS X (.Assign [tg] e pos) (usAsg g u) := ps_imp (ps_asg he hg hs hw h1) fun D σ H ⟨env, S, E, hE, hA, hT, hu, hn, hr, hb, hc⟩ =>
  ⟨env, S, _, E.ex, hE, hA, hT, hu, fun v d H1 S1 t1 r1 a1 q1 => ⟨d, S1, env, _, hE.keep t1, a1, r1, q1, fun env' σ' hE' q' => hn _ _ _ _ t1 hE' a1 q'⟩⟩

/-! attributes -/
theorem de_fld {f : Str} (he : DE X e u) (hb : attributeBase e f X.env (eval e X.env) = eval e X.env := by rfl) : DE X (.Attribute e f pos) (uFld X.K f u) := pe_imp (pe_fld he hb) fun σ H Q ⟨env, S, Qd, W, hE, hA, hT, hu, hk⟩ =>
  ⟨env, S, _, W, hE, hA, hT, hu, fun v d H1 S1 t1 r1 a1 q1 => by
    unfold vFld at q1
    split at q1
    · rename_i a
      rw [rep_ref] at r1; subst r1
      split at q1
      · rename_i C fs es
        obtain ⟨hf, x, hx, q⟩ := q1
        obtain ⟨dx, vfs, eh, rf⟩ := a1 a _ es
        obtain ⟨w, ew, rw'⟩ := rf.lookup hx
        exact ⟨a, C, dx, vfs, w, rfl, eh, hf.1, hf.2, ew, hk _ _ _ _ t1 rw' a1 q⟩
      · exact q1.elim
    · exact q1.elim⟩
theorem ds_fld {f : Str} (ho : DE X o uo) (he : DE X e u) (hs : swapsWith e (some (.Attribute o f pos')) pos.line X.env = pure false := by rfl) : DS X (.Assign [.Attribute o f pos'] e pos) (usFld X.K f uo u) :=
  ps_imp (ps_fld ho he hs) fun D σ H ⟨env, S, E, hE, hA, hT, hu, hn, hr, hb, hc⟩ =>
  ⟨env, S, _, E.ex, hE, hA, hT, hu, fun v d H1 S1 t1 r1 a1 q1 => ⟨env, S1, _, E.ex, hE.keep t1, a1, tstep hT t1, q1, fun vo od H2 S2 t2 r2 a2 q2 => by
    unfold vPut at q2
    split at q2
    · rename_i a
      rw [rep_ref] at r2; subst r2
      split at q2
      · rename_i C fs es
        obtain ⟨hf, hl, q⟩ := q2
        obtain ⟨dx, vfs, eh, rf⟩ := a2 a _ es
        have m : Mut (H2 a) := by rw [eh]; exact True.intro
        have t3 : TK X.K H2 (upd H2 a (.ins C dx (putF f v vfs))) := .mut m
        refine ⟨a, C, dx, vfs, rfl, eh, hf.1, hf.2, by rw [rf.length]; exact hl, hn _ _ _ _ ((t1.trans t2).trans t3) ((hE.keep (t1.trans t2)).keep t3) (a2.put m (.mkI upd_same ((rf.put (r1.keep t2)).keep t3))) q⟩
      · exact q2.elim
    · exact q2.elim⟩⟩
/-! o[i] = e over lists -/
theorem ds_sub (ho : DE X o uo) (hi : DE X i ui) (he : DE X e u) (hs : swapsWithSole [.Subscript o i pos'] e pos.line X.env = pure false := by rfl) (hw : swappedStores [.Subscript o i pos'] e X.env = pure none := by rfl)
    (h1 : (assignEach [.Subscript o i pos'] X.env).map (·.2) = [assign (.Subscript o i pos') X.env] := by rfl)
    (ha : ∀ v, assign (.Subscript o i pos') X.env v = (do
      let ov ← holding [v] (eval o X.env)
      let iv ← holding [v, ov] (eval i X.env)
      standAt pos'
      holding [v, ov, iv] (setItem ov iv v)
      release [v, ov, iv] []) := by intro _; rfl) : DS X (.Assign [.Subscript o i pos'] e pos) (usSub uo ui u) :=
  ps_imp (ps_asg he (pg_sub ho hi set_list ha) hs hw h1) fun D σ H ⟨env, S, E, hE, hA, hT, hu, hn, hr, hb, hc⟩ =>
  ⟨env, S, _, E.ex, hE, hA, hT, hu, fun v d H1 S1 t1 r1 a1 q1 => ⟨env, S1, _, E.ex, hE.keep t1, a1, tstep hT t1, q1, fun vo od H2 S2 t2 r2 a2 q2 => ⟨env, S2, _, E.ex, hE.keep (t1.trans t2), a2, tstep hT (t1.trans t2), q2, fun vi di H3 S3 t3 r3 a3 q3 => by
    unfold vSet at q3
    split at q3
    · rename_i a k
      have r2' := r2.keep t3
      rw [rep_ref] at r2'; subst r2'
      rw [rep_int] at r3; subst r3
      split at q3
      · rename_i xs es
        obtain ⟨j, hj, q⟩ := q3
        obtain ⟨vs, eh, rl⟩ := a3 a _ es
        have m : Mut (H3 a) := by rw [eh]; exact True.intro
        have t4 : TK X.K H3 (upd H3 a (.lst (vs.set j v))) := .mut m
        have tt := (t1.trans t2).trans t3
        exact ⟨a, vs, k, j, rfl, rfl, eh, by rw [rl.length]; exact hj, hn _ _ _ _ (tt.trans t4) ((hE.keep tt).keep t4) (a3.put m (.mkL upd_same ((RepL.set j (r1.keep (t2.trans t3)) rl).keep t4))) q⟩
      · exact q3.elim
    · exact q3.elim⟩⟩⟩
/-! i op= e -/
def rDip (K : PySem.W.Frag) (f : F2) : TIp := rD2 K f
theorem ds_aug (i : Nat) {x : Str} {op : Operator} {f : F2} (hN : X.N.Nodup) (hop : OpR X (inplaceOp op) (rD2 X.K f)) (he : DE X e u) (hi : X.N[i]? = some x := by rfl) (hx : Loc X.env.scope x := by first | exact Or.inl rfl | exact Or.inr rfl) (hf : X.fn x = true ∨ X.env.scope.names.lookup x = some .local := by first | exact .inl rfl | exact .inr rfl) :
    DS X (.AugAssign (.Name x pos') op e pos) (usAug i f u) := ps_imp (ps_aug (ti := rD2 X.K f) hN hi hx he (fun pins s σ H x y v u Q I r1 r2 h => hop pins s σ H x y v u Q I r1 r2 h) hf) fun D σ H ⟨env, S, E, hE, hA, hT, hu, hn, hr, hb, hc⟩ => by
  obtain ⟨d, ed, q⟩ := hu
  obtain ⟨v, ev, r⟩ := hE.2 i d ed
  exact ⟨v, ev, env, S, _, E.ex, hE, hA, hT, q, fun v2 d2 H1 S1 t1 r1 a1 ⟨z, hz, q1⟩ => ⟨S1, d, d2, z, a1, r.keep t1, r1, hz, fun w H2 s rz => hn _ _ _ _ (t1.trans (.of_same s)) ((hE.keep (t1.trans (.of_same s))).set rz) (a1.same s) q1⟩⟩
theorem oi_int {F : Value → Value → Sem Value} {f : F2} {C : Int → Int → Prop} {g : Int → Int → V} (h : OpR X F (rI C g)) (hf : ∀ S d1 d2 z, f S d1 d2 = some z → ∃ i j, d1 = .int i ∧ d2 = .int j ∧ C i j ∧ ∀ H v, v = g i j → Rep X.K H z v) : OpR X F (rD2 X.K f) := od_int h hf
/-- += of irng -/
def dAddI : F2
  | _, .int i, .int j => some (.int (i + j))
  | _, _, _ => none
theorem oi_add : OpR X (inplaceOp .Add) (rD2 X.K dAddI) := od_int (rI0_rI iop_add) fun S d1 d2 z h => by
  unfold dAddI at h
  split at h
  · cases h; exact ⟨_, _, rfl, rfl, trivial, fun _ _ e => rep_int.mpr e⟩
  · cases h
theorem oi_sub : OpR X (inplaceOp .Sub) (rD2 X.K dSub) := od_int (rI0_rI iop_sub) fun S d1 d2 z h => by
  unfold dSub at h
  split at h
  · cases h; exact ⟨_, _, rfl, rfl, trivial, fun _ _ e => rep_int.mpr e⟩
  · cases h
end

/-! ### what is walked -/
/-- J walks the items xs as long as gd holds of the state -/
structure ItD (K : PySem.W.Frag) (J : It) (xs : List D) (gd : SS → Prop) (H0 : Hp) : Prop where
  stop : ∀ H S, TK K H0 H → AbsS K H S → gd S → J.stop xs.length H
  go : ∀ i H S, TK K H0 H → AbsS K H S → gd S → i < xs.length → J.go i H
  yld : ∀ i H S x H', TK K H0 H → AbsS K H S → gd S → i < xs.length → J.yld i H x H' → Same H H' ∧ ∃ d, xs[i]? = some d ∧ Rep K H' d x
abbrev IS := En → SS → (List D → (SS → Prop) → SS → Prop) → QX → Prop
def LI (X : Cx) (u : IS) : TI := fun σ H R => ∃ env S Kd W, EnvR X.K H env σ ∧ AbsS X.K H S ∧ Takes X (lw X.K H W) ∧ u env S Kd (fun c fs S' => W c fs env S') ∧
  ∀ J xs gd H' S', TK X.K H H' → AbsS X.K H' S' → ItD X.K J xs gd H' → Kd xs gd S' → R J H'
def DI (X : Cx) (tg e : Expr) (u : IS) : Prop := PI X tg e (LI X u)
def vSeq (d : D) (S : SS) (K : List D → (SS → Prop) → SS → Prop) : Prop := match d with
  | .tup xs => K xs (fun _ => True) S
  | .str x => K (x.map fun c => .str [c]) (fun _ => True) S
  | .ref a => match S a with
    | some (.lst xs) => K xs (fun S => S a = some (.lst xs)) S
    | some (.rol xs) => K xs (fun S => S a = some (.rol xs)) S
    | _ => False
  | _ => False
def isSeq (u : UE) : IS := fun env S K X => u env S (fun d S1 => vSeq d S1 K) X
def isRng (u : UE) : IS := fun env S K X => u env S (fun d S1 => ∃ n : Int, d = .int n ∧ -(2 ^ 62) ≤ n ∧ n < 2 ^ 62 ∧ K (irng 0 n.toNat) (fun _ => True) S1) X
def isRng2 (u v : UE) : IS := fun env S K X => u env S (fun d S1 => v env S1 (fun d2 S2 => ∃ lo hi : Int, d = .int lo ∧ d2 = .int hi ∧ (-(2 ^ 62) ≤ lo ∧ lo < 2 ^ 62 ∧ -(2 ^ 62) ≤ hi ∧ hi < 2 ^ 62) ∧ K (irng lo (hi - lo).toNat) (fun _ => True) S2) X) X

theorem itd_tup {K : PySem.W.Frag} {H : Hp} {a : Addr} {vs : List V} {xs : List D} (h : SqT K H a vs) (r : RepL K H xs vs) : ItD K (Itt K a) xs (fun _ => True) H where
  stop := fun H' S t hA _ => ⟨vs, t.tup _ _ h, by rw [r.length]; exact Nat.le_refl _⟩
  go := fun i H' S t hA _ hi => ⟨vs, vs[i]'(by rw [r.length]; exact hi), t.tup _ _ h, by simp [r.length, hi]⟩
  yld := fun i H' S x H2 t hA _ hi ⟨e, y⟩ => by
    subst e
    obtain ⟨d, hd, rd⟩ := r.getV (y vs (t.tup _ _ h))
    exact ⟨Same.refl _, d, hd, rd.keep t⟩
theorem itd_lst {K : PySem.W.Frag} {H : Hp} {a : Addr} {xs : List D} {gd : SS → Prop} (hg : ∀ H S, AbsS K H S → gd S → ∃ vs, SqL K H a vs ∧ RepL K H xs vs) : ItD K (Itl K a) xs gd H where
  stop := fun H' S t hA g => by
    obtain ⟨vs, h, r⟩ := hg H' S hA g
    exact ⟨vs, h, by rw [r.length]; exact Nat.le_refl _⟩
  go := fun i H' S t hA g hi => by
    obtain ⟨vs, h, r⟩ := hg H' S hA g
    exact ⟨vs, vs[i]'(by rw [r.length]; exact hi), h, by simp [r.length, hi]⟩
  yld := fun i H' S x H2 t hA g hi ⟨e, y⟩ => by
    subst e
    obtain ⟨vs, h, r⟩ := hg _ S hA g
    obtain ⟨d, hd, rd⟩ := r.getV (y vs h)
    exact ⟨Same.refl _, d, hd, rd⟩
theorem itd_str {K : PySem.W.Frag} {H : Hp} {x : List Nat} : ItD K (Its (tx x)) (x.map fun c => D.str [c]) (fun _ => True) H where
  stop := fun H' S t hA _ => by show (tx x).cps.size ≤ _; simp [tx]
  go := fun i H' S t hA _ hi => by show i < (tx x).cps.size; simpa [tx] using hi
  yld := fun i H' S v H2 t hA _ hi y => by
    obtain ⟨e, c, hc, ev⟩ := y
    subst e ev
    refine ⟨Same.refl _, .str [c], ?_, rep_str.mpr rfl⟩
    have hc' : x[i]? = some c := by simpa [tx] using hc
    simp [hc']
theorem itd_rng {K : PySem.W.Frag} {H : Hp} {lo : Int} {n : Nat} : ItD K (Itr lo n) (irng lo n) (fun _ => True) H where
  stop := fun H' S t hA _ => by show n ≤ _; simp [irng]
  go := fun i H' S t hA _ hi => by show i < n; simpa [irng] using hi
  yld := fun i H' S v H2 t hA _ hi y => by
    obtain ⟨e, ev⟩ := y
    subst e ev
    exact ⟨Same.refl _, .int (lo + (i : Int)), by
      have hi' : i < n := by simpa [irng] using hi
      simp [irng, hi'], rep_int.mpr rfl⟩

section
variable {X : Cx} {tg e a b : Expr} {u v : UE} {pos p : Pos}
theorem di_seq (he : DE X e u) : DI X tg e (isSeq u) := ⟨fun pins s σ H R I ⟨env, S, Kd, W, hE, hA, hT, hu, hk⟩ => by
  refine thn (PE.run he pins s σ H (fun v H1 => ∃ d S1, TK X.K H H1 ∧ Rep X.K H1 d v ∧ AbsS X.K H1 S1 ∧ vSeq d S1 Kd) I ⟨env, S, _, W, hE, hA, hT, hu, fun v d H' S' t r a q => ⟨d, S', t, r, a, q⟩⟩) fun v s1 ⟨x, H1, I1, r1, d, S1, t1, rd, a1, q1⟩ => ?_
  unfold vSeq at q1
  split at q1
  · rename_i xs
    obtain ⟨a, vs, ex, hq, rr⟩ := rep_tup.mp rd
    subst ex
    cases r1
    obtain ⟨its, rv, pp, hz⟩ := I1.tuple hq
    refine wpAny_pyIter_tuple (show s1.heap.IsTuple a its.toArray from pp) ?_
    refine ⟨s1.heap.objs.size, [s1.heap.objs.size], _, _, H1, rfl, I1.kept (t' := s1.toks) fun b o e => Heap.get?_push_of_some _ e, turn_tuple a _, ⟨_, Heap.get?_push_size _ rfl, rfl, rfl⟩, fun b hb => ?_, hk _ _ _ _ _ t1 a1 (itd_tup hq rr) q1⟩
    have e : b = s1.heap.objs.size := by simpa using hb
    subst e
    exact I1.fpOk (Nat.le_refl _) (I1.hok.fresh (Nat.le_refl _))
  · rename_i y
    rw [rep_str] at rd; subst rd
    obtain ⟨t, rfl⟩ := r1
    cases ha : (tx y).cps.all (· < 128)
    · exact wpAny_pyIter_wide ha (pi_one (tk := s1.toks) I1 _ (turn_str _ _ t "str_iterator" (.inr rfl)) ⟨_, Heap.get?_push_size _ rfl, rfl, rfl⟩ (hk _ _ _ _ _ t1 a1 itd_str q1))
    · exact wpAny_pyIter_ascii ha (pi_one (tk := s1.toks) I1 _ (turn_str _ _ t "str_ascii_iterator" (.inl rfl)) ⟨_, Heap.get?_push_size _ rfl, rfl, rfl⟩ (hk _ _ _ _ _ t1 a1 itd_str q1))
  · rename_i a
    rw [rep_ref] at rd; subst rd
    cases r1
    have go : ∀ {vs : List V} {xs : List D} {gd : SS → Prop}, SqL X.K H1 a vs → (∀ H S, AbsS X.K H S → gd S → ∃ vs, SqL X.K H a vs ∧ RepL X.K H xs vs) → Kd xs gd S1 → wpAny (model X.prog X.w) X.A (pyIter (.ref a)) (PIE X pins σ tg R) X.xe s1 := by
      intro vs xs gd hq hg q1
      obtain ⟨its, rv, pp, hz⟩ := I1.list hq
      refine wpAny_pyIter_list pp.isList ?_
      refine ⟨s1.heap.objs.size, [s1.heap.objs.size], _, _, H1, rfl, I1.kept (t' := s1.toks) fun b o e => Heap.get?_push_of_some _ e, turn_list a _, ⟨_, Heap.get?_push_size _ rfl, rfl, rfl⟩, fun b hb => ?_, hk _ _ _ _ _ t1 a1 (itd_lst hg) q1⟩
      have e : b = s1.heap.objs.size := by simpa using hb
      subst e
      exact I1.fpOk (Nat.le_refl _) (I1.hok.fresh (Nat.le_refl _))
    split at q1
    · rename_i xs es
      obtain ⟨vs, hq, rr⟩ := a1 _ _ es
      exact go (.of hq) (fun H S hA g => let ⟨vs, q, r⟩ := hA.getL g; ⟨vs, .of q, r⟩) q1
    · rename_i xs es
      obtain ⟨vs, hq, rr⟩ := a1 _ _ es
      exact go (.inl hq) (fun H S hA g => let ⟨vs, q, r⟩ := hA.getR g; ⟨vs, .inl q, r⟩) q1
    · exact q1.elim
  · exact q1.elim⟩
end
end SL

set_option Elab.async false
set_option linter.all false
set_option maxRecDepth 100000
set_option maxHeartbeats 4000000
/-! SL5: loops, comprehensions, calls, defs. -/
namespace SL
open PySem PySem.Spec L2

/-- the rest of a for loop -/
def forL (g : UG) (body : US) (gd : SS → Prop) (D : EndsS) : List SL.D → En → SS → Prop
  | [], env, S => gd S ∧ D.nx env S
  | x :: r, env, S => gd S ∧ g x S env fun env' => body { nx := forL g body gd D r, ct := forL g body gd D r, bk := D.nx, rt := D.rt, ex := D.ex } env' S
def usFor (src : IS) (g : UG) (body : US) : US := fun D env S => src env S (fun xs gd S1 => forL g body gd D xs env S1) (fun c fs S1 => D.ex c fs env S1)
/-- a while loop, n turns at most -/
def whL (c : UT) (body : US) (D : EndsS) : Nat → En → SS → Prop
  | 0, _, _ => False
  | n + 1, env, S => c env S (fun k S1 => if k = true then body { nx := whL c body D n, ct := whL c body D n, bk := D.nx, rt := D.rt, ex := D.ex } env S1 else D.nx env S1) (fun c fs S1 => D.ex c fs env S1)
def usWh (c : UT) (body : US) : US := fun D env S => ∃ n, whL c body D n env S
def noX : QX := fun _ _ _ => False
def wipeE (env : En) : List Nat → En
  | [] => env
  | i :: r => (wipeE env r).set i none
/-- the rest of a list comprehension: the list so far stands at p -/
def lcL (g : UG) (c : UT) (e : UE) (gd : SS → Prop) (vs : List Nat) (p : Addr) (env : En) (Q : SS → Prop) : List SL.D → SS → Prop
  | [], S => gd S ∧ Q S
  | x :: r, S => gd S ∧ g x S (wipeE env vs) fun env' => c env' S (fun k S1 =>
      if k = true then e env' S1 (fun d S2 => ∃ acc, S2 p = some (.lst acc) ∧ acc.length < sizeLine ∧ lcL g c e gd vs p env Q r (sup S2 p (.lst (acc ++ [d])))) noX else lcL g c e gd vs p env Q r S1) noX
def uLc (src : IS) (g : UG) (c : UT) (e : UE) (vs : List Nat) : UE := fun env S Q X => src env S (fun xs gd S1 => ∀ p, S1 p = none → lcL g c e gd vs p env (fun S2 => Q (.ref p) S2) xs (sup S1 p (.lst []))) X
def utYes : UT := fun _ S Q _ => Q true S

section
variable {X : Cx} {tg iter e a b c : Expr} {u v : UE} {g : UG} {body : US} {src : IS} {ct : UT} {pos p : Pos}
theorem wipe_env {K : PySem.W.Frag} {H : Hp} : ∀ {vs : List Nat} {env : En} {σ : L2.St}, EnvR K H env σ → EnvR K H (wipeE env vs) (wipe σ vs)
  | [], _, _, h => h
  | i :: r, _, _, h => (wipe_env (vs := r) h).unset
theorem di_rng (he : DA X [a] (uCons u uNil)) (hg : Gl X "range") (hm : X.mg "range" = none) (hs : starEach [a] X.env = [(false, eval a X.env)] := by rfl) : DI X tg (.Call (.Name "range" p) [a] [] pos) (isRng u) :=
  ⟨fun pins s σ H R I ⟨env, S, Kd, W, hE, hA, hT, hu, hk⟩ => (pi_range1 hg hm he hs).run pins s σ H R I ⟨env, S, fun ds S1 => ∃ n : Int, ds = [.int n] ∧ -(2 ^ 62) ≤ n ∧ n < 2 ^ 62 ∧ Kd (irng 0 n.toNat) (fun _ => True) S1, W, hE, hA, hT, by
      show u env S _ _
      have e : (fun d S1 => uNil env S1 (fun ds S2 => ∃ n : Int, d :: ds = [.int n] ∧ -(2 ^ 62) ≤ n ∧ n < 2 ^ 62 ∧ Kd (irng 0 n.toNat) (fun _ => True) S2) (fun c fs S' => W c fs env S')) = fun d S1 => ∃ n : Int, d = .int n ∧ -(2 ^ 62) ≤ n ∧ n < 2 ^ 62 ∧ Kd (irng 0 n.toNat) (fun _ => True) S1 := by
        funext d S1
        simp [uNil]
      rw [e]
      exact hu, fun vs ds H' S' t r a1 ⟨n, e, h1, h2, q⟩ => by
        subst e
        obtain ⟨v, t', ev, r1, r2⟩ := repL_cons.mp r
        rw [rep_int] at r1; rw [repL_nil] at r2; subst r1; subst r2
        exact ⟨n, ev, h1, h2, hk _ _ _ _ _ t a1 (itd_rng) q⟩⟩⟩
theorem di_rng2 (he : DA X [a, b] (uCons u (uCons v uNil))) (hg : Gl X "range") (hm : X.mg "range" = none) (hs : starEach [a, b] X.env = [(false, eval a X.env), (false, eval b X.env)] := by rfl) (hs2 : starEach [b] X.env = [(false, eval b X.env)] := by rfl) :
    DI X tg (.Call (.Name "range" p) [a, b] [] pos) (isRng2 u v) :=
  ⟨fun pins s σ H R I ⟨env, S, Kd, W, hE, hA, hT, hu, hk⟩ => (pi_range2 hg hm he hs hs2).run pins s σ H R I ⟨env, S, fun ds S1 => ∃ lo hi : Int, ds = [.int lo, .int hi] ∧ (-(2 ^ 62) ≤ lo ∧ lo < 2 ^ 62 ∧ -(2 ^ 62) ≤ hi ∧ hi < 2 ^ 62) ∧ Kd (irng lo (hi - lo).toNat) (fun _ => True) S1, W, hE, hA, hT, by
      show u env S _ _
      have e : (fun d S1 => uCons v uNil env S1 (fun ds S2 => ∃ lo hi : Int, d :: ds = [.int lo, .int hi] ∧ (-(2 ^ 62) ≤ lo ∧ lo < 2 ^ 62 ∧ -(2 ^ 62) ≤ hi ∧ hi < 2 ^ 62) ∧ Kd (irng lo (hi - lo).toNat) (fun _ => True) S2) (fun c fs S' => W c fs env S')) =
          fun d S1 => v env S1 (fun d2 S2 => ∃ lo hi : Int, d = .int lo ∧ d2 = .int hi ∧ (-(2 ^ 62) ≤ lo ∧ lo < 2 ^ 62 ∧ -(2 ^ 62) ≤ hi ∧ hi < 2 ^ 62) ∧ Kd (irng lo (hi - lo).toNat) (fun _ => True) S2) (fun c fs S' => W c fs env S') := by
        funext d S1
        simp [uNil, uCons, and_assoc]
      rw [e]
      exact hu, fun vs ds H' S' t r a1 ⟨lo, hi, e, hb, q⟩ => by
        subst e
        obtain ⟨v, t', ev, r1, r2⟩ := repL_cons.mp r
        obtain ⟨v', t'', ev', r1', r2'⟩ := repL_cons.mp r2
        rw [rep_int] at r1 r1'; rw [repL_nil] at r2'; subst r1; subst r1'; subst r2'; subst ev'
        exact ⟨lo, hi, ev, hb, hk _ _ _ _ _ t a1 (itd_rng) q⟩⟩⟩

theorem ds_for {sts : List Stmt} (hp : PassesOwn (model X.prog X.w) X.A X.env X.xe) (hc : X.calm = true) (hi : DI X tg iter src) (hg : DG X tg g) (hb : DB X sts body) (hs : ∀ x, foldedSetIterable iter X.env x = pure x := by intro _; rfl) :
    DS X (.For tg iter sts [] pos) (usFor src g body) := ps_imp (ps_for hp hc hi hg hb hs) fun D σ H ⟨env, S, E, hE, hA, hT, hu, hn, hr, hb, hct⟩ => by
  refine ⟨env, S, _, E.ex, hE, hA, hT, hu, fun J xs gd H1 S1 t1 a1 itd q1 => ?_⟩
  refine ⟨fun i m σ' H' => m = xs.length - i ∧ i ≤ xs.length ∧ ∃ env' S', TK X.K H1 H' ∧ EnvR X.K H' env' σ' ∧ AbsS X.K H' S' ∧ forL g body gd E (xs.drop i) env' S', ⟨xs.length, by simp, Nat.zero_le _, env, S1, .refl _ _, hE.keep t1, a1, by simpa using q1⟩, ?_⟩
  rintro i m σ' H' ⟨rfl, hi, env', S', t2, e2, a2, q2⟩
  by_cases hlt : i < xs.length
  · rw [List.drop_eq_getElem_cons hlt] at q2
    obtain ⟨gs, q2⟩ := q2
    refine .inr ⟨itd.go i H' S' t2 a2 gs hlt, fun σ3 H3 => ∃ env3 S3, TK X.K H1 H3 ∧ EnvR X.K H3 env3 σ3 ∧ AbsS X.K H3 S3 ∧ forL g body gd E (xs.drop (i + 1)) env3 S3, fun σ3 H3 w => ⟨xs.length - (i + 1), by omega, rfl, hlt, w⟩, fun x H3 y => ?_⟩
    obtain ⟨s3, d, hd, rd⟩ := itd.yld i H' S' x H3 t2 a2 gs hlt y
    have ed : xs[i] = d := by rw [List.getElem?_eq_getElem hlt] at hd; exact Option.some.inj hd
    subst ed
    have t3 : TK X.K H' H3 := .of_same s3
    refine ⟨_, S', env', _, e2.keep t3, a2.same s3, rd, q2, fun env4 σ4 e4 q4 => ?_⟩
    have tt := (t1.trans t2).trans t3
    refine ⟨env4, S', { nx := forL g body gd E (xs.drop (i + 1)), ct := forL g body gd E (xs.drop (i + 1)), bk := E.nx, rt := E.rt, ex := E.ex }, e4, a2.same s3, tstep hT tt, q4, fun σ5 H5 env5 S5 t5 e5 a5 q5 => ⟨env5, S5, (t2.trans t3).trans t5, e5, a5, q5⟩, fun v d H5 S5 t5 r5 a5 q5 => hr _ _ _ _ (tt.trans t5) r5 a5 q5,
      fun σ5 H5 env5 S5 t5 e5 a5 q5 => hn _ _ _ _ (tt.trans t5) e5 a5 q5, fun σ5 H5 env5 S5 t5 e5 a5 q5 => ⟨env5, S5, (t2.trans t3).trans t5, e5, a5, q5⟩⟩
  · have ei : i = xs.length := by omega
    subst ei
    rw [List.drop_length] at q2
    exact .inl ⟨itd.stop H' S' t2 a2 q2.1, hn _ _ _ _ (t1.trans t2) e2 a2 q2.2⟩
theorem ds_wh {sts : List Stmt} (hp : PassesOwn (model X.prog X.w) X.A X.env X.xe) (hc : DT X c ct) (hb : DB X sts body) : DS X (.While c sts [] pos) (usWh ct body) := ps_imp (ps_while hp hc hb) fun D σ H ⟨env, S, E, hE, hA, hT, ⟨n, hu⟩, hn, hr, hb, hct⟩ => by
  refine ⟨fun m σ' H' => ∃ env' S', TK X.K H H' ∧ EnvR X.K H' env' σ' ∧ AbsS X.K H' S' ∧ whL ct body E m env' S', ⟨n, env, S, .refl _ _, hE, hA, hu⟩, ?_⟩
  rintro m σ' H' ⟨env', S', t1, e1, a1, q1⟩
  cases m with
  | zero => exact q1.elim
  | succ m =>
    refine ⟨env', S', _, E.ex, e1, a1, tstep hT t1, q1, fun k H2 S2 t2 a2 q2 => ?_⟩
    have tt := t1.trans t2
    cases k with
    | false => exact hn _ _ _ _ tt (e1.keep t2) a2 q2
    | true => exact ⟨fun σ3 H3 => ∃ env3 S3, TK X.K H H3 ∧ EnvR X.K H3 env3 σ3 ∧ AbsS X.K H3 S3 ∧ whL ct body E m env3 S3, fun σ3 H3 w => ⟨m, Nat.lt_succ_self m, w⟩, env', S2, { nx := whL ct body E m, ct := whL ct body E m, bk := E.nx, rt := E.rt, ex := E.ex }, e1.keep t2, a2, tstep hT tt, q2,
      fun σ5 H5 env5 S5 t5 e5 a5 q5 => ⟨env5, S5, tt.trans t5, e5, a5, q5⟩, fun v d H5 S5 t5 r5 a5 q5 => hr _ _ _ _ (tt.trans t5) r5 a5 q5, fun σ5 H5 env5 S5 t5 e5 a5 q5 => hn _ _ _ _ (tt.trans t5) e5 a5 q5, fun σ5 H5 env5 S5 t5 e5 a5 q5 => ⟨env5, S5, tt.trans t5, e5, a5, q5⟩⟩
structure DTs (X : Cx) (ifs : List Expr) (u : UT) : Prop where
  run : PTs X ifs (LT X u)
theorem dts_nil : DTs X [] utYes := ⟨⟨fun pins s σ H Q I ⟨env, S, Qd, W, hE, hA, hT, hu, hk⟩ => pts_nil.run pins s σ H Q I (hk _ _ _ (.refl _ _) hA hu)⟩⟩
theorem dts_one {ct : UT} (h : DT X c ct) : DTs X [c] ct := ⟨pts_one h⟩
theorem lw_false {K : PySem.W.Frag} {H : Hp} : Takes X (lw K H fun _ _ _ _ => False) := fun u s' x => by
  obtain ⟨a, B, sI, pins, σ, H', cls, d, _, _, _, _, _, _, _, _, w⟩ := x
  obtain ⟨_, _, _, _, _, _, _, f⟩ := w
  exact f.elim
theorem wipe_set {x : Option V} {i : Nat} : ∀ {vs : List Nat} {σ : L2.St}, i ∈ vs → wipe (σ.set i x) vs = wipe σ vs
  | [], _, h => by cases h
  | j :: r, σ, h => by
    unfold wipe
    by_cases hj : i ∈ r
    · rw [wipe_set hj]
    · have e : i = j := by
        rcases List.mem_cons.mp h with h | h
        · exact h
        · exact absurd h hj
      subst e
      have key : ∀ {r : List Nat} {σ : L2.St}, i ∉ r → wipe (σ.set i x) r = (wipe σ r).set i x := by
        intro r
        induction r with
        | nil => intro σ _; rfl
        | cons k r ih =>
          intro σ h
          simp only [List.mem_cons, not_or] at h
          unfold wipe
          rw [ih h.2, List.set_comm _ _ h.1]
      rw [key hj, List.set_set]
theorem wipe_wipe : ∀ {vs : List Nat} {σ : L2.St}, wipe (wipe σ vs) vs = wipe σ vs := by
  intro vs
  have key : ∀ {r : List Nat} {i : Nat} {σ : L2.St}, i ∈ r → (wipe σ r).set i none = wipe σ r := by
    intro r
    induction r with
    | nil => intro i σ h; cases h
    | cons j r ih =>
      intro i σ h
      unfold wipe
      by_cases hj : i = j
      · subst hj; rw [List.set_set]
      · rcases List.mem_cons.mp h with h | h
        · exact absurd h hj
        · rw [List.set_comm _ _ (Ne.symm hj), ih h]
  have k2 : ∀ (r : List Nat) (σ : L2.St), (∀ i ∈ r, i ∈ vs) → wipe (wipe σ vs) r = wipe σ vs := by
    intro r
    induction r with
    | nil => intro σ _; rfl
    | cons j r ih =>
      intro σ h
      show (wipe (wipe σ vs) r).set j none = _
      rw [ih σ fun i hi => h i (List.mem_cons_of_mem _ hi), key (h j List.mem_cons_self)]
  intro σ
  exact k2 vs σ fun _ h => h
/-- a target's reading GG serves g: it stores slots of vs alone -/
def GR (K : PySem.W.Frag) (g : UG) (GG : TG) (vs : List Nat) : Prop := ∀ d v S env σ H Qd (Q : L2.St → Hp → Prop), EnvR K H env σ → AbsS K H S → Rep K H d v → g d S env Qd → (∀ σ' env', wipe σ' vs = wipe σ vs → EnvR K H env' σ' → Qd env' → Q σ' H) → GG v σ H Q
def GRs (K : PySem.W.Frag) (g : UGs) (GG : TGs) (vs : List Nat) : Prop := ∀ ds vv S env σ H Qd (Q : L2.St → Hp → Prop), EnvR K H env σ → AbsS K H S → RepL K H ds vv → g ds S env Qd → (∀ σ' env', wipe σ' vs = wipe σ vs → EnvR K H env' σ' → Qd env' → Q σ' H) → GG vv σ H Q
theorem gr_name {K : PySem.W.Frag} {vs : List Nat} {i : Nat} (hv : i ∈ vs := by decide) : GR K (ugName i) (gName i) vs := fun d v S env σ H Qd Q hE hA r q k => k _ _ (wipe_set hv) (hE.set r) q
theorem grs_nil {K : PySem.W.Frag} {vs : List Nat} : GRs K ugNil gNil vs := fun ds vv S env σ H Qd Q hE hA r ⟨e, q⟩ k => by subst e; exact ⟨repL_nil.mp r, k _ _ rfl hE q⟩
theorem grs_cons {K : PySem.W.Frag} {g : UG} {r : UGs} {G1 : TG} {G2 : TGs} {vs : List Nat} (k1 : GR K g G1 vs) (k2 : GRs K r G2 vs) : GRs K (ugCons g r) (gCons G1 G2) vs := fun ds vv S env σ H Qd Q hE hA rr ⟨d, t, e, q⟩ k => by
  subst e
  obtain ⟨v, vr, ev, r1, r2⟩ := repL_cons.mp rr
  exact ⟨v, vr, ev, k1 d v S env σ H _ _ hE hA r1 q fun σ' env' w e' q' => k2 t vr S env' σ' H _ _ e' hA r2 q' fun σ2 env2 w2 e2 q2 => k σ2 env2 (w2.trans w) e2 q2⟩
/-- the target (a, b, ..), of a tuple or a list -/
def gTL (K : PySem.W.Frag) (n : Nat) (t : TGs) : TG := fun v σ H Q => gTup K n t v σ H Q ∨ gUnl K n t v σ H Q
theorem pg_tl {es : List Expr} {k n : Nat} {t : TGs} (hc : X.calm = true) (h : PGs X es t) (hn : (assignEach es X.env).length = n := by rfl) (hst : (assignEach es X.env).findIdx? (·.1) = none := by rfl) : PG X (.Tuple es k pos) (gTL X.K n t) :=
  pg_or (pg_tup hc h hn hst) (pg_unl hc h hn hst)
theorem gr_tup {K : PySem.W.Frag} {n : Nat} {r : UGs} {GG : TGs} {vs : List Nat} (kk : GRs K r GG vs) (hlen : ∀ ds S env Q, r ds S env Q → ds.length = n) : GR K (ugTup r) (gTL K n GG) vs := fun d v S env σ H Qd Q hE hA rr ⟨xs, e, q⟩ k => by
  have hl := hlen _ _ _ _ q
  obtain ⟨a, ws, ev, hq, r2⟩ := seqOf_rep hA rr e
  have fin := kk xs ws S env σ H _ _ hE hA r2 q k
  rcases hq with hq | hq
  · exact .inr ⟨a, ws, ev, hq, by rw [r2.length, hl], fin⟩
  · exact .inl ⟨a, ws, ev, hq, by rw [r2.length, hl], fin⟩
/-- readings within a comprehension: nothing is raised -/
def LE0 (K : PySem.W.Frag) (u : UE) : TE := fun σ H Q => ∃ env S Qd, EnvR K H env σ ∧ AbsS K H S ∧ u env S Qd noX ∧ ∀ v d H' S', TK K H H' → Rep K H' d v → AbsS K H' S' → Qd d S' → Q v H'
def LT0 (K : PySem.W.Frag) (u : UT) : TT := fun σ H Q => ∃ env S Qd, EnvR K H env σ ∧ AbsS K H S ∧ u env S Qd noX ∧ ∀ b H' S', TK K H H' → AbsS K H' S' → Qd b S' → Q b H'
theorem le0 {u : UE} (h : DE X e u) : PE X e (LE0 X.K u) := pe_imp h fun σ H Q ⟨env, S, Qd, hE, hA, hu, hk⟩ => ⟨env, S, Qd, fun _ _ _ _ => False, hE, hA, lw_false, hu, hk⟩
theorem lt0 {ifs : List Expr} {u : UT} (h : DTs X ifs u) : PTs X ifs (LT0 X.K u) := ⟨fun pins s σ H Q I ⟨env, S, Qd, hE, hA, hu, hk⟩ => h.run.run pins s σ H Q I ⟨env, S, Qd, fun _ _ _ _ => False, hE, hA, lw_false, hu, hk⟩⟩
theorem lift_lc {g : UG} {ct : UT} {u : UE} {src : IS} {vs : List Nat} {GG : TG} {σ : L2.St} {H : Hp} {Q : VK} (h : LE X (uLc src g ct u vs) σ H Q) (hG : GR X.K g GG vs) : tLc (LI X src) GG (LT0 X.K ct) (LE0 X.K u) vs σ H Q := by
  obtain ⟨env, S, Qd, W, hE, hA, hT, hu, hk⟩ := h
  refine ⟨env, S, _, W, hE, hA, hT, hu, fun J xs gd H1 S1 t1 a1 itd q1 => fun L hL => ?_⟩
  have q1 := q1 L (a1.fresh hL)
  refine ⟨fun i m H' => m = xs.length - i ∧ i ≤ xs.length ∧ ∃ S', TK X.K H1 H' ∧ AbsS X.K H' S' ∧ lcL g ct u gd vs L env (fun S2 => Qd (.ref L) S2) (xs.drop i) S', ⟨xs.length, by simp, Nat.zero_le _, _, .new hL, a1.newL hL .nil, by simpa using q1⟩, ?_⟩
  rintro i m H' ⟨rfl, hi, S', t2, a2, q2⟩
  by_cases hlt : i < xs.length
  · rw [List.drop_eq_getElem_cons hlt] at q2
    obtain ⟨gs, q2⟩ := q2
    refine .inr ⟨itd.go i H' S' t2 a2 gs hlt, fun H3 => ∃ S3, TK X.K H1 H3 ∧ AbsS X.K H3 S3 ∧ lcL g ct u gd vs L env (fun S2 => Qd (.ref L) S2) (xs.drop (i + 1)) S3, fun H3 w => ⟨xs.length - (i + 1), by omega, rfl, hlt, w⟩, fun x H3 y => ?_⟩
    obtain ⟨s3, d, hd, rd⟩ := itd.yld i H' S' x H3 t2 a2 gs hlt y
    have ed : xs[i] = d := by rw [List.getElem?_eq_getElem hlt] at hd; exact Option.some.inj hd
    subst ed
    have t3 : TK X.K H' H3 := .of_same s3
    have tt := (t1.trans t2).trans t3
    refine hG _ _ S' (wipeE env vs) _ H3 _ _ (wipe_env (hE.keep tt)) (a2.same s3) rd q2 fun σ4 env4 w4 e4 q4 => ⟨?_, env4, S', _, e4, a2.same s3, q4, fun k H5 S5 t5 a5 q5 => ?_⟩
    · rw [w4]
      exact wipe_wipe
    · cases k with
      | false => exact ⟨S5, (t2.trans t3).trans t5, a5, q5⟩
      | true =>
        refine ⟨env4, S5, _, e4.keep t5, a5, q5, fun v d H6 S6 t6 r6 a6 ⟨acc, ha, hl, q6⟩ => ?_⟩
        obtain ⟨ws, ev, rv⟩ := a6.getL ha
        have m : Mut (H6 L) := by rw [ev]; exact True.intro
        have t7 : TK X.K H6 (upd H6 L (.lst (ws ++ [v]))) := .mut m
        exact ⟨ws, ev, by rw [rv.length]; exact hl, _, (((t2.trans t3).trans t5).trans t6).trans t7, a6.put m (.mkL upd_same ((rv.append (.cons r6 .nil)).keep t7)), q6⟩
  · have ei : i = xs.length := by omega
    subst ei
    rw [List.drop_length] at q2
    exact .inl ⟨itd.stop H' S' t2 a2 q2.1, hk _ _ _ _ (t1.trans t2) (rep_ref.mpr rfl) a2 q2.2⟩
/-- [elt for tg in iter if ..] -/
theorem de_lc {elt : Expr} {ifs : List Expr} {scope : Scope} {own : List (Str × Nat)} {ct : UT} {GG : TG} (hc : X.calm = true) (hN : X.N.Nodup) (hi : DI X tg iter src) (ok : BlkOk X.N X.env.scope scope own) (hG : GR X.K g GG (own.map (·.2)))
    (hg : ∀ (s : Shared) (H : Hp) (C : Addr) (cl : List (Str × Addr)) (fp : List Addr), PG (X.blk s H scope (compEnvC scope cl C X.env) fp) tg GG)
    (ht : ∀ (s : Shared) (H : Hp) (C : Addr) (cl : List (Str × Addr)) (fp : List Addr), DTs (X.blk s H scope (compEnvC scope cl C X.env) fp) ifs ct)
    (he : ∀ (s : Shared) (H : Hp) (C : Addr) (cl : List (Str × Addr)) (fp : List Addr), DE (X.blk s H scope (compEnvC scope cl C X.env) fp) elt u) (hs : ∀ x, foldedSetIterable iter X.env x = pure x := by intro _; rfl) :
    DE X (.ListComp elt [⟨tg, iter, ifs, 0⟩] scope pos) (uLc src g ct u (own.map (·.2))) :=
  pe_imp (pe_lc hc hN hi ok hg (fun s H C cl fp => lt0 (ht s H C cl fp)) (fun s H C cl fp => le0 (he s H C cl fp)) hs) fun σ H Q h => lift_lc h hG
/-- name = [..] on one line, the name a local -/
theorem ds_setLc (i : Nat) {y : Str} {py spos : Pos} {elt : Expr} {ifs : List Expr} {scope : Scope} {own : List (Str × Nat)} {ct : UT} {GG : TG} (hc : X.calm = true) (hN : X.N.Nodup) (hi : DI X tg iter src) (ok : BlkOk X.N X.env.scope scope own) (hG : GR X.K g GG (own.map (·.2)))
    (hg : ∀ (s : Shared) (H : Hp) (C : Addr) (cl : List (Str × Addr)) (fp : List Addr), PG (X.blk s H scope (compEnvC scope cl C X.env) fp) tg GG)
    (ht : ∀ (s : Shared) (H : Hp) (C : Addr) (cl : List (Str × Addr)) (fp : List Addr), DTs (X.blk s H scope (compEnvC scope cl C X.env) fp) ifs ct)
    (he : ∀ (s : Shared) (H : Hp) (C : Addr) (cl : List (Str × Addr)) (fp : List Addr), DE (X.blk s H scope (compEnvC scope cl C X.env) fp) elt u)
    (hsw : swapsWith (.ListComp elt [⟨tg, iter, ifs, 0⟩] scope pos) (some (.Name y py)) spos.line X.env = pure true)
    (hy : X.N[i]? = some y := by rfl) (hyl : X.env.scope.names.lookup y = some .local := by rfl) (hs : ∀ x, foldedSetIterable iter X.env x = pure x := by intro _; rfl) :
    DS X (.Assign [.Name y py] (.ListComp elt [⟨tg, iter, ifs, 0⟩] scope pos) spos) (usSet i (uLc src g ct u (own.map (·.2)))) :=
  ps_imp (ps_setLc hc hN hy hyl hsw hi ok hg (fun s H C cl fp => lt0 (ht s H C cl fp)) (fun s H C cl fp => le0 (he s H C cl fp)) hs) fun D σ H ⟨env, S, E, hE, hA, hT, hu, hn, hr, hb, hct⟩ =>
    lift_lc ⟨env, S, _, E.ex, hE, hA, hT, hu, fun v d H1 S1 t1 r1 a1 q1 => hn _ _ _ _ t1 ((hE.keep t1).set r1) a1 q1⟩ hG
end
end SL

set_option Elab.async false
set_option linter.all false
set_option maxRecDepth 100000
set_option maxHeartbeats 4000000
/-! SL6: calls, defs. -/
namespace SL
open PySem PySem.Spec L2

/-- a def's promise over trees -/
abbrev FS := List D → SS → QN → QX → Prop
def lsp (K : PySem.W.Frag) (n : Nat) (sp : FS) : Sp := fun vs H Q E => ∃ ds S Qd Xd, RepL K H ds vs ∧ AbsS K H S ∧ ds.length = n ∧ sp ds S Qd Xd ∧
  (∀ v d H' S', TK K H H' → Rep K H' d v → AbsS K H' S' → Qd d S' → Q v H') ∧ (∀ cls dd fs H' S', TK K H H' → AbsS K H' S' → XR K H' dd fs → Xd cls fs S' → E cls dd H')
abbrev FnD (P : Program) (w : World) (K : PySem.W.Frag) (mg : Str → Option Value) (base : Heap) (k : Nat) (f : Addr) (fd : FuncData) (ps : List Str) (sp : FS) : Prop := FnOk P w K mg base (L2.CX P w) k f fd ps (lsp K ps.length sp)
def bodyE (Q : QN) (Xq : QX) : EndsS where
  nx := fun _ S => ∃ S', Le S' S ∧ Q .non S'
  rt := fun d S => ∃ S', Le S' S ∧ Q d S'
  bk := fun _ _ => False
  ct := fun _ _ => False
  ex := fun c fs _ S => ∃ S', Le S' S ∧ Xq c fs S'
def startE (N : List Str) (ds : List D) : En := ds.map some ++ List.replicate (N.length - ds.length) none
theorem start_env {K : PySem.W.Frag} {H : Hp} {N : List Str} {ds : List D} {vs : List V} (r : RepL K H ds vs) : EnvR K H (startE N ds) (L2.start N vs) := by
  unfold startE L2.start
  refine ⟨by simp [r.length], fun i d e => ?_⟩
  by_cases hi : i < ds.length
  · rw [List.getElem?_append_left (by simpa using hi), List.getElem?_map] at e
    cases q : ds[i]? with
    | none => rw [q] at e; cases e
    | some d' =>
      rw [q] at e
      cases e
      obtain ⟨v, hv, rv⟩ := r.get q
      exact ⟨v, by rw [List.getElem?_append_left (by simpa [r.length] using hi), List.getElem?_map, hv]; rfl, rv⟩
  · rw [List.getElem?_append_right (by simpa using hi), List.getElem?_replicate] at e
    split at e <;> cases e
section
variable {P : Program} {w : World} {K : PySem.W.Frag} {mg : Str → Option Value} {base : Heap} {x qual : Str} {params : Arguments} {body : List Stmt} {scope : Scope} {dvs : List V} {kws : List (Str × V)} {f : Addr} {fd : FuncData}
/-- THE RULE for a def: u what its body asks -/
theorem fn_d {N ps : List Str} {k : Nat} {sp : FS} (F : FunD K x qual params body scope dvs kws f fd) (S : FnScope N ps scope) (u : US)
    (hder : ∀ (cdv : Value) (A : Around) (outer : List Env) (s : Shared) (H : Hp) (E : XK), Room k (A.deeper (PyProof.Rows.envOfC qual scope s.heap.objs.size f cdv)) → DB (cxOf (L2.CX P w) P w K mg base N qual scope f cdv A outer s H E) body u)
    (hsp : ∀ ds S Q Xq, ds.length = ps.length → sp ds S Q Xq → u (bodyE Q Xq) (startE N ds) S) : FnD P w K mg base (k + 1) f fd ps sp := by
  refine F.ok S (fun vs H Q E h => ?_) (fun cdv A outer s H vs Q E hr h => ?_)
  · obtain ⟨ds, S0, Qd, Xd, rv, hA, hl, _⟩ := h
    rw [rv.length, hl]
  · obtain ⟨ds, S0, Qd, Xd, rv, hA, hl, hs, hk, hx⟩ := h
    refine ⟨_, hder cdv A outer s H E hr, startE N ds, S0, bodyE Qd Xd, start_env rv, hA, ?_, hsp _ _ _ _ hl hs, ?_, ?_, ?_, ?_⟩
    · refine (takes_of (E := E) rfl rfl rfl rfl).imp fun c d σ H' ⟨env, S', fs, t, hE, hA', hX, S2, hle, q⟩ => hx _ _ _ _ _ t (hA'.le hle) hX q
    · exact fun σ' H' env' S' t hE hA' ⟨S2, hle, q⟩ => hk _ _ _ _ t (rep_non.mpr rfl) (hA'.le hle) q
    · exact fun v d H' S' t r hA' ⟨S2, hle, q⟩ => hk _ _ _ _ t r (hA'.le hle) q
    · exact fun σ' H' env' S' t hE hA' q => q.elim
    · exact fun σ' H' env' S' t hE hA' q => q.elim
end

/-- how a call of n positional values and keywords ks binds: gD puts them in the parameters' order -/
structure Shp (K : PySem.W.Frag) (fd : FuncData) (ps : List Str) (n : Nat) (ks : List Str) (gD : List D → List D → List D) : Prop where
  to : ∃ g gV, KBn K fd ps n ks g gV ∧ ∀ H ds vs es zs, RepL K H ds vs → RepL K H es zs → ds.length = n → es.length = ks.length → RepL K H (gD ds es) (gV vs zs) ∧ (gD ds es).length = ps.length
theorem shp_plain {K : PySem.W.Frag} {fd : FuncData} {ps : List Str} (b : Binds K fd ps []) : Shp K fd ps ps.length [] (fun ds _ => ds) :=
  ⟨fun us _ => us, fun vs _ => vs, ⟨fun s us ws X l1 l2 => by
    have e : ws = [] := List.length_eq_zero_iff.mp l2
    subst e
    have := b s us X (by simpa using l1)
    rw [List.append_nil] at this
    exact this, fun r _ => r⟩, fun H ds vs es zs r _ l _ => ⟨r, l⟩⟩
theorem shp_dfl {K : PySem.W.Frag} {fd : FuncData} {ps : List Str} {us : List Value} {dvs : List V} {es : List D} (b : Binds K fd ps us) (hd : Vals dvs us) (hr : ∀ H, RepL K H es dvs) (n : Nat) (hn : n + es.length = ps.length) : Shp K fd ps n [] (fun ds _ => ds ++ es) :=
  ⟨fun vs _ => vs ++ us, fun vs _ => vs ++ dvs, ⟨fun s vs ws X l1 l2 => by
    have e : ws = [] := List.length_eq_zero_iff.mp l2
    subst e
    refine b s vs X ?_
    rw [List.length_append, l1, ← hd.length, (hr (fun _ => none)).length, hn], fun r _ => r.append hd⟩, fun H ds vs es' zs r _ l _ => ⟨r.append (hr H), by rw [List.length_append, l, hn]⟩⟩
theorem shp_kw {K : PySem.W.Frag} {fd : FuncData} {ps ks : List Str} {n : Nat} (hn : n + ks.length = ps.length) (h : ∀ us ws : List Value, us.length = n → ws.length = ks.length → bindArgs fd ⟨us, ks.zip ws⟩ = pure (ps.zip (us ++ ws))) : Shp K fd ps n ks (fun ds es => ds ++ es) :=
  ⟨fun us ws => us ++ ws, fun vs zs => vs ++ zs, ⟨fun s us ws X l1 l2 => .of_eq (h us ws l1 l2), fun r q => r.append q⟩, fun H ds vs es zs r q l1 l2 => ⟨r.append q, by rw [List.length_append, l1, l2, hn]⟩⟩

section
variable {X : Cx} {k n : Nat} {f : Addr} {fd : FuncData} {ps ks : List Str} {sp : FS} {gD : List D → List D → List D}
/-- the callee runs -/
theorem run_dC {pins : List (Addr × Obj)} {σ : L2.St} {H : Hp} {s : Shared} {Q : VK} {us ws : List Value} {vs zs : List V} {ds es : List D} {env : En} {S : SS} {Qd : QN} {W : QXE}
    (F : FnD X.prog X.w X.K X.mg X.base k f fd ps sp) (hr : Room k X.A) (sh : Shp X.K fd ps n ks gD) (I : Inv X pins σ H s) (hE : EnvR X.K H env σ) (hA : AbsS X.K H S) (hT : Takes X (lw X.K H W))
    (r : Vals vs us) (rv : RepL X.K H ds vs) (rz : Vals zs ws) (re : RepL X.K H es zs) (l1 : ds.length = n) (l2 : es.length = ks.length) (h : sp (gD ds es) S Qd (fun c fs S' => W c fs env S'))
    (hk : ∀ v d H' S', TK X.K H H' → Rep X.K H' d v → AbsS X.K H' S' → Qd d S' → Q v H') : codeAny (model X.prog X.w) X.A (.call (.ref f) ⟨us, ks.zip ws⟩) (fun r s' => match r with
      | .ok (.ret v) => EP X pins σ Q v s'
      | .ok _ => False
      | .error e => X.xe e s') s := by
  obtain ⟨g, gV, hb, hg⟩ := sh.to
  have r2 := hb.rel r rz
  obtain ⟨g1, g2⟩ := hg H ds vs es zs rv re l1 l2
  refine (codeAny_mono (F.run X.A X.stack s H ⟨us, ks.zip ws⟩ (g us ws) (gV vs zs) Q (fun cls dd H' => lw X.K H W cls dd σ H') hr I.env0 (hb.to s us ws I.kIn (by rw [← r.length, rv.length, l1]) (by rw [← rz.length, re.length, l2])) r2
    ⟨gD ds es, S, Qd, _, g1, hA, g2, h, hk, fun cls dd fs H' S' t a x q => ⟨env, S', fs, t, hE.keep t, a, x, q⟩⟩) fun r s' hq => ?_)
  cases r with
  | error e => exact hT _ _ (XE.of_call I (fun _ _ _ h => h) hq)
  | ok fl =>
    cases fl with
    | ret u => exact I.after hq
    | next => exact False.elim hq
    | brk => exact False.elim hq
    | cont => exact False.elim hq
theorem run_d {pins : List (Addr × Obj)} {σ : L2.St} {H : Hp} {s : Shared} {Q : VK} {us ws : List Value} {vs zs : List V} {ds es : List D} {env : En} {S : SS} {Qd : QN} {W : QXE}
    (F : FnD X.prog X.w X.K X.mg X.base k f fd ps sp) (hr : Room k X.A) (sh : Shp X.K fd ps n ks gD) (I : Inv X pins σ H s) (hE : EnvR X.K H env σ) (hA : AbsS X.K H S) (hT : Takes X (lw X.K H W))
    (r : Vals vs us) (rv : RepL X.K H ds vs) (rz : Vals zs ws) (re : RepL X.K H es zs) (l1 : ds.length = n) (l2 : es.length = ks.length) (h : sp (gD ds es) S Qd (fun c fs S' => W c fs env S'))
    (hk : ∀ v d H' S', TK X.K H H' → Rep X.K H' d v → AbsS X.K H' S' → Qd d S' → Q v H') : wpAny (model X.prog X.w) X.A (call (.ref f) us (ks.zip ws)) (EP X pins σ Q) X.xe s :=
  wpAny_call (codeAny_mono (run_dC F hr sh I hE hA hT r rv rz re l1 l2 h hk) fun r s' hq => by
    cases r with
    | error e => exact hq
    | ok fl => cases fl <;> exact hq)
end

/-! ### arguments -/
abbrev UAK := En → SS → (List D → List D → SS → Prop) → QX → Prop
def uA0 : UAK := fun _ S Q _ => Q [] [] S
def uA1 (n : Nat) (ra : UA) : UAK := fun env S Q X => ra env S (fun ds S1 => ds.length = n ∧ Q ds [] S1) X
def uA2 (n m : Nat) (ra rk : UA) : UAK := fun env S Q X => ra env S (fun ds S1 => rk env S1 (fun es S2 => ds.length = n ∧ es.length = m ∧ Q ds es S2) X) X
def uA3 (m : Nat) (rk : UA) : UAK := fun env S Q X => rk env S (fun es S2 => es.length = m ∧ Q [] es S2) X
def DK (X : Cx) (kws : List Keyword) (u : UA) : Prop := PK X kws (LA X u)
structure DArgs (X : Cx) (es : List Expr) (kws : List Keyword) (pos : Pos) (n : Nat) (ks : List Str) (u : UAK) : Prop where
  run : ∀ (fv : Value) (first : List Value) (pins : List (Addr × Obj)) (s : Shared) (σ : L2.St) (H : Hp) (env : En) (S : SS) (Qk : List D → List D → SS → Prop) (W : QXE) (Qf : Value → Shared → Prop), PySem.W.keepIn X.K fv = true → Inv X pins σ H s → EnvR X.K H env σ → AbsS X.K H S → Takes X (lw X.K H W) →
    u env S Qk (fun c fs S' => W c fs env S') →
    (∀ us vs ws zs ds es' s1 H1 S1, Inv X pins σ H1 s1 → TK X.K H H1 → AbsS X.K H1 S1 → Vals vs us → RepL X.K H1 ds vs → Vals zs ws → RepL X.K H1 es' zs → ds.length = n → es'.length = ks.length → Qk ds es' S1 → wpAny (model X.prog X.w) X.A (call fv (first ++ us) (ks.zip ws)) Qf X.xe s1) →
    wpAny (model X.prog X.w) X.A (callWith pos fv first (backTo pos (starEach es X.env)) (backToKw pos (keywordEach kws X.env))) Qf X.xe s
section
variable {X : Cx} {e : Expr} {es : List Expr} {kws : List Keyword} {pos kpos : Pos} {n m : Nat} {ks : List Str} {ra rk : UA} {ue : UE} {nm : Option Str}
theorem dk_nil : DK X [] uNil := ⟨fun pos pins s σ H Q I ⟨env, S, Qd, W, hE, hA, hT, hu, hk⟩ => (pk_nil (X := X)).run pos pins s σ H Q I (hk _ _ _ _ (.refl _ _) .nil hA hu)⟩
theorem dk_cons (ha : DE X e ue) (hr : DK X kws rk) : DK X (⟨nm, e, kpos⟩ :: kws) (uCons ue rk) := ⟨fun pos pins s σ H Q I ⟨env, S, Qd, W, hE, hA, hT, hu, hk⟩ => (pk_cons (nm := nm) (kpos := kpos) ha hr).run pos pins s σ H Q I
  ⟨env, S, _, W, hE, hA, hT, hu, fun v d H1 S1 t1 r1 a1 q1 => ⟨env, S1, _, W, hE.keep t1, a1, tstep hT t1, q1, fun vs ds H2 S2 t2 r2 a2 q2 => hk _ _ _ _ (t1.trans t2) (.cons (r1.keep t2) r2) a2 q2⟩⟩⟩
theorem dar0 : DArgs X [] [] pos 0 [] uA0 := ⟨fun fv first pins s σ H env S Qk W Qf hk I hE hA hT hu h => PySem.W.callWith_K0 I.kIn hk (h [] [] [] [] [] [] s H S I (.refl _ _) hA .nil .nil .nil .nil rfl rfl hu)⟩
theorem dar1 (ha : DA X (e :: es) ra) (he : starEach (e :: es) X.env = (false, eval e X.env) :: starEach es X.env := by rfl) (hpl : (backTo pos (starEach es X.env)).any (·.1) = false := by rfl) : DArgs X (e :: es) [] pos n [] (uA1 n ra) :=
  ⟨fun fv first pins s σ H env S Qk W Qf hk I hE hA hT hu h => PySem.W.callWith_K (h₀ := X.base) I.ok.mod.kin hk (thn (PA.run ha pos pins s σ H (fun vs H1 => ∃ ds S1, TK X.K H H1 ∧ RepL X.K H1 ds vs ∧ AbsS X.K H1 S1 ∧ ds.length = n ∧ Qk ds [] S1) I
    ⟨env, S, _, W, hE, hA, hT, hu, fun vs ds H1 S1 t r a ⟨l, q⟩ => ⟨ds, S1, t, r, a, l, q⟩⟩) fun us s1 ⟨vs, H1, I1, r, ds, S1, t, rr, a, l, q⟩ => ⟨I1.kIn, h us vs [] [] ds [] s1 H1 S1 I1 t a r rr .nil .nil l rfl q⟩) he hpl⟩
theorem dar2 (ha : DA X (e :: es) ra) (hkw : DK X kws rk) (hall : (backToKw pos (keywordEach kws X.env)).all (·.1.isSome) = true := by rfl) (hks : (backToKw pos (keywordEach kws X.env)).filterMap (·.1) = ks := by rfl)
    (he : starEach (e :: es) X.env = (false, eval e X.env) :: starEach es X.env := by rfl) (hpl : ((backTo pos (starEach (e :: es) X.env)).any (·.1) || (backToKw pos (keywordEach kws X.env)).any (·.1.isNone)) = false := by rfl) : DArgs X (e :: es) kws pos n ks (uA2 n ks.length ra rk) :=
  ⟨fun fv first pins s σ H env S Qk W Qf hk I hE hA hT hu h => PySem.W.callWith_KW (h₀ := X.base) I.ok.mod.kin hk hall (thn (PA.run ha pos pins s σ H (fun vs H1 => ∃ ds S1, TK X.K H H1 ∧ RepL X.K H1 ds vs ∧ AbsS X.K H1 S1 ∧ rk env S1 (fun es S2 => ds.length = n ∧ es.length = ks.length ∧ Qk ds es S2) (fun c fs S' => W c fs env S')) I
    ⟨env, S, _, W, hE, hA, hT, hu, fun vs ds H1 S1 t r a q => ⟨ds, S1, t, r, a, q⟩⟩) fun us s1 ⟨vs, H1, I1, r, ds, S1, t, rr, a, q⟩ => thn (PK.run hkw pos pins s1 σ H1 (fun zs H2 => ∃ es' S2, TK X.K H1 H2 ∧ RepL X.K H2 es' zs ∧ AbsS X.K H2 S2 ∧ ds.length = n ∧ es'.length = ks.length ∧ Qk ds es' S2) I1
      ⟨env, S1, _, W, hE.keep t, a, tstep hT t, q, fun zs es' H2 S2 t2 r2 a2 ⟨l1, l2, q2⟩ => ⟨es', S2, t2, r2, a2, l1, l2, q2⟩⟩) fun ws s2 ⟨zs, H2, I2, rz, es', S2, t2, r2, a2, l1, l2, q2⟩ => ⟨I2.kIn, by
        rw [hks]
        exact h us vs ws zs ds es' s2 H2 S2 I2 (t.trans t2) a2 r (rr.keep t2) rz r2 l1 l2 q2⟩) hpl he⟩
theorem dar3 (hkw : DK X kws rk) (hall : (backToKw pos (keywordEach kws X.env)).all (·.1.isSome) = true := by rfl) (hks : (backToKw pos (keywordEach kws X.env)).filterMap (·.1) = ks := by rfl)
    (hpl : ((backTo pos (starEach [] X.env)).any (·.1) || (backToKw pos (keywordEach kws X.env)).any (·.1.isNone)) = false := by rfl) : DArgs X [] kws pos 0 ks (uA3 ks.length rk) :=
  ⟨fun fv first pins s σ H env S Qk W Qf hk I hE hA hT hu h => PySem.W.callWith_KW0 (h₀ := X.base) I.ok.mod.kin hk hall (thn (PK.run hkw pos pins s σ H (fun zs H2 => ∃ es' S2, TK X.K H H2 ∧ RepL X.K H2 es' zs ∧ AbsS X.K H2 S2 ∧ es'.length = ks.length ∧ Qk [] es' S2) I
      ⟨env, S, _, W, hE, hA, hT, hu, fun zs es' H2 S2 t2 r2 a2 ⟨l2, q2⟩ => ⟨es', S2, t2, r2, a2, l2, q2⟩⟩) fun ws s2 ⟨zs, H2, I2, rz, es', S2, t2, r2, a2, l2, q2⟩ => ⟨I2.kIn, by
        rw [hks]
        exact h [] [] ws zs [] es' s2 H2 S2 I2 t2 a2 .nil .nil rz r2 rfl l2 q2⟩) hpl⟩
end

/-! ### calls -/
def uCall (sp : FS) (gD : List D → List D → List D) (ra : UAK) : UE := fun env S Q X => ra env S (fun ds es S1 => sp (gD ds es) S1 Q X) X
/-- o.m(..), o an instance of the class at C -/
def uMeth (C : Addr) (m : Str) (sp : FS) (gD : List D → List D → List D) (uo : UE) (ra : UAK) : UE := fun env S Q X => uo env S (fun d S1 => ∃ a fs, d = .ref a ∧ S1 a = some (.ins C fs) ∧ fs.lookup m = none ∧ ra env S1 (fun ds es S2 => sp (gD (d :: ds) es) S2 Q X) X) X
/-- C(..) -/
def uMake (C : Addr) (sp : FS) (gD : List D → List D → List D) (ra : UAK) : UE := fun env S Q X => ra env S (fun ds es S1 => ∀ p, S1 p = none → sp (gD (.ref p :: ds) es) (sup S1 p (.ins C [])) (fun d S2 => d = .non ∧ Q (.ref p) S2) X) X
/-- o.f, a property -/
def uProp (C : Addr) (sp : FS) (uo : UE) : UE := fun env S Q X => uo env S (fun d S1 => ∃ a fs, d = .ref a ∧ S1 a = some (.ins C fs) ∧ sp [d] S1 Q noX) X
/-- C.m(..), a classmethod -/
def uCMeth (C : Addr) (sp : FS) (uo : UE) (ra : UA) : UE := fun env S Q X => uo env S (fun d S1 => d = .ref C ∧ ra env S1 (fun ds S2 => sp (.ref C :: ds) S2 Q X) X) X
section
variable {X : Cx} {k n : Nat} {f C : Addr} {fd : FuncData} {ps ks : List Str} {sp : FS} {gD : List D → List D → List D} {x m : Str} {p pos apos : Pos} {e o : Expr} {es : List Expr} {kws : List Keyword} {ra : UAK} {uo : UE}
theorem de_call (F : FnD X.prog X.w X.K X.mg X.base k f fd ps sp) (hr : Room k X.A) (hm : X.mg x = some (.ref f)) (hk : PySem.W.keepIn X.K (.ref f) = true) (sh : Shp X.K fd ps n ks gD) (ha : DArgs X es kws pos n ks ra) (hg : Gl X x := by rfl) (hdb : (x == ("__debug__" : Str)) = false := by decide) :
    DE X (.Call (.Name x p) es kws pos) (uCall sp gD ra) := ⟨fun pins s σ H Q I ⟨env, S, Qd, W, hE, hA, hT, hu, hk'⟩ => by
  refine wpAny_Call_Name_kw (ld_glob I hg hm ?_ hdb)
  exact ha.run (.ref f) [] pins s σ H env S _ W _ hk I hE hA hT hu fun us vs ws zs ds es' s1 H1 S1 I1 t a r rr rz re l1 l2 q => run_d F hr sh I1 (hE.keep t) a (tstep hT t) r rr rz re l1 l2 q fun v d H' S' t2 r2 a2 q2 => hk' _ _ _ _ (t.trans t2) r2 a2 q2⟩
theorem de_meth {pl : Sem Bool} (he : DE X o uo) (c : Cls X.K C) (hm : Meth X.K C m f) (F : FnD X.prog X.w X.K X.mg X.base k f fd ps sp) (hr : Room k X.A) (sh : Shp X.K fd ps (n + 1) ks gD) (ha : DArgs X es kws pos n ks ra)
    (ht : eval (.Call (.Attribute o m apos) es kws pos) X.env = (do
      let ov ← eval o X.env
      standAt apos.atName
      let (f, first) ← holding [ov] (getMethod ov m pl)
      callWith pos f first (backTo pos (starEach es X.env)) (backToKw pos (keywordEach kws X.env))) := by rfl) :
    DE X (.Call (.Attribute o m apos) es kws pos) (uMeth C m sp gD uo ra) := ⟨fun pins s σ H Q I ⟨env, S, Qd, W, hE, hA, hT, hu, hk'⟩ => by
  refine PySem.W.methodCall_KW (pl := pl) (thn (PE.run he pins s σ H (fun v H1 => ∃ d S1, TK X.K H H1 ∧ Rep X.K H1 d v ∧ AbsS X.K H1 S1 ∧ ∃ a fs, d = .ref a ∧ S1 a = some (.ins C fs) ∧ fs.lookup m = none ∧ ra env S1 (fun ds es S2 => sp (gD (d :: ds) es) S2 Qd (fun c fs S' => W c fs env S')) (fun c fs S' => W c fs env S')) I
    ⟨env, S, _, W, hE, hA, hT, hu, fun v d H1 S1 t r a q => ⟨d, S1, t, r, a, q⟩⟩) fun u s1 ⟨y, H1, I1, ry, d, S1, t1, rd, a1, a, fs, ed, es1, l, q⟩ => ?_) ht
  subst ed
  rw [rep_ref] at rd; subst rd
  obtain rfl : u = Value.ref a := ry
  obtain ⟨dx, vfs, eh, rf⟩ := a1.getI es1
  refine getmeth_ok I1 eh c hm (rf.lookup_none l) ?_
  refine ha.run (.ref f) [.ref a] pins s1 σ H1 env S1 _ W _ hm.kp I1 (hE.keep t1) a1 (tstep hT t1) q fun us vs ws zs ds es' s2 H2 S2 I2 t2 a2 r rr rz re l1 l2 q2 => ?_
  have tt := t1.trans t2
  exact run_d (us := .ref a :: us) (vs := .ref a :: vs) (ds := .ref a :: ds) F hr sh I2 (hE.keep tt) a2 (tstep hT tt) (.cons rfl r) (.cons (rep_ref.mpr rfl) rr) rz re (by rw [List.length_cons, l1]) l2 q2 fun v d H' S' t3 r3 a3 q3 => hk' _ _ _ _ (tt.trans t3) r3 a3 q3⟩
end
end SL

set_option Elab.async false
set_option linter.all false
set_option maxRecDepth 100000
set_option maxHeartbeats 4000000
/-! SL7: instances made, properties, classmethods; raise, try. -/
namespace SL
open PySem PySem.Spec L2 ClX
section
variable {X : Cx} {k n : Nat} {f C : Addr} {fd : FuncData} {ps ks : List Str} {sp : FS} {gD : List D → List D → List D} {x m : Str} {p pos apos : Pos} {e o : Expr} {es : List Expr} {kws : List Keyword} {ra : UAK} {uo : UE}
theorem AbsS.made {K : PySem.W.Frag} {H : Hp} {S : SS} {x dx : Addr} (h : AbsS K H S) (nx : H x = none) (nd : H dx = none) (ne : dx ≠ x) : AbsS K (upd (upd H dx (.own x)) x (.ins C dx [])) (sup S x (.ins C [])) := by
  have h1 : AbsS K (upd H dx (.own x)) S := h.same (Same.new nd)
  have n2 : (upd H dx (.own x)) x = none := by rw [upd_ne (Ne.symm ne)]; exact nx
  exact h1.new n2 (.mkI upd_same ⟨rfl, .nil⟩)
theorem TK.made {K : PySem.W.Frag} {H : Hp} {x dx : Addr} {o o' : HO} (nx : H x = none) (nd : H dx = none) (ne : dx ≠ x) : TK K H (upd (upd H dx o) x o') :=
  (TK.new nd).trans (.new (by rw [upd_ne (Ne.symm ne)]; exact nx))
theorem run_mk {pins : List (Addr × Obj)} {σ : L2.St} {H : Hp} {s : Shared} {Q : VK} {us ws : List Value} {vs zs : List V} {ds es : List D} {env : En} {S : SS} {Qd : QN} {W : QXE}
    (M : Mk X.K C f) (F : FnD X.prog X.w X.K X.mg X.base k f fd ps sp) (hr : Room (k + 1) X.A) (sh : Shp X.K fd ps (n + 1) ks gD) (I : Inv X pins σ H s) (hE : EnvR X.K H env σ) (hA : AbsS X.K H S) (hT : Takes X (lw X.K H W))
    (r : Vals vs us) (rv : RepL X.K H ds vs) (rz : Vals zs ws) (re : RepL X.K H es zs) (l1 : ds.length = n) (l2 : es.length = ks.length)
    (h : ∀ p, S p = none → sp (gD (.ref p :: ds) es) (sup S p (.ins C [])) (fun d S2 => d = .non ∧ Qd (.ref p) S2) (fun c fs S' => W c fs env S'))
    (hk : ∀ v d H' S', TK X.K H H' → Rep X.K H' d v → AbsS X.K H' S' → Qd d S' → Q v H') : wpAny (model X.prog X.w) X.A (call (.ref C) us (ks.zip ws)) (EP X pins σ Q) X.xe s := by
  obtain ⟨g, gV, hb, hg⟩ := sh.to
  have nx : H (s.heap.objs.size + 1) = none := I.hok.fresh (Nat.le_succ _)
  have nd : H s.heap.objs.size = none := I.hok.fresh (Nat.le_refl _)
  have ne : s.heap.objs.size ≠ s.heap.objs.size + 1 := Nat.ne_of_lt (Nat.lt_succ_self _)
  have I2 := Inv.made (C := C) I
  have t : TK X.K H (upd (upd H s.heap.objs.size (.own (s.heap.objs.size + 1))) (s.heap.objs.size + 1) (.ins C s.heap.objs.size [])) := .made nx nd ne
  have r' : Vals (V.ref (s.heap.objs.size + 1) :: vs) (Value.ref (s.heap.objs.size + 1) :: us) := .cons rfl r
  have r2 := hb.rel r' rz
  obtain ⟨g1, g2⟩ := hg _ (D.ref (s.heap.objs.size + 1) :: ds) (V.ref (s.heap.objs.size + 1) :: vs) es zs (.cons (rep_ref.mpr rfl) (rv.keep t)) (re.keep t) (by rw [List.length_cons, l1]) l2
  refine wpAny_call (make_map (f := f) I.kIn M.makes M.init (beq_iff_eq.mp M.fn) (codeAny_mono (F.run _ X.stack _ _ ⟨Value.ref (s.heap.objs.size + 1) :: us, ks.zip ws⟩ (g (Value.ref (s.heap.objs.size + 1) :: us) ws) (gV (V.ref (s.heap.objs.size + 1) :: vs) zs)
    (fun v H2 => v = .non ∧ Q (.ref (s.heap.objs.size + 1)) H2) (fun cls dd H' => lw X.K H W cls dd σ H') (hr.make C us (ks.zip ws)) (I2.env0.make C us (ks.zip ws)) (hb.to _ (Value.ref (s.heap.objs.size + 1) :: us) ws I2.kIn (by rw [← r'.length, List.length_cons, rv.length, l1]) (by rw [← rz.length, re.length, l2])) r2
    ⟨gD (.ref (s.heap.objs.size + 1) :: ds) es, _, _, _, g1, hA.made nx nd ne, g2, h _ (hA.fresh nx), fun v d H' S' t2 r2 a2 ⟨ed, q2⟩ => ⟨by subst ed; exact rep_non.mp r2, hk _ _ _ _ (t.trans t2) (rep_ref.mpr rfl) a2 q2⟩, fun cls dd fs H' S' t2 a x q => ⟨env, S', fs, t.trans t2, hE.keep (t.trans t2), a, x, q⟩⟩) fun r s' hq => ?_))
  cases r with
  | error e => exact hT _ _ (XE.of_call I2 (fun _ _ _ h => h) hq)
  | ok fl =>
    cases fl with
    | ret u =>
      obtain ⟨v, H', I3, rv, ev, q3⟩ := I2.after hq
      subst ev
      exact ⟨rv, ⟨V.ref (s.heap.objs.size + 1), H', I3, rfl, q3⟩⟩
    | next => exact False.elim hq
    | brk => exact False.elim hq
    | cont => exact False.elim hq
theorem de_make (M : Mk X.K C f) (F : FnD X.prog X.w X.K X.mg X.base k f fd ps sp) (hr : Room (k + 1) X.A) (hm : X.mg x = some (.ref C)) (sh : Shp X.K fd ps (n + 1) ks gD) (ha : DArgs X es kws pos n ks ra) (hg : Gl X x := by rfl) (hdb : (x == ("__debug__" : Str)) = false := by decide) :
    DE X (.Call (.Name x p) es kws pos) (uMake C sp gD ra) := ⟨fun pins s σ H Q I ⟨env, S, Qd, W, hE, hA, hT, hu, hk'⟩ => by
  refine wpAny_Call_Name_kw (ld_glob I hg hm ?_ hdb)
  exact ha.run (.ref C) [] pins s σ H env S _ W _ M.kp I hE hA hT hu fun us vs ws zs ds es' s1 H1 S1 I1 t a r rr rz re l1 l2 q => run_mk M F hr sh I1 (hE.keep t) a (tstep hT t) r rr rz re l1 l2 q fun v d H' S' t2 r2 a2 q2 => hk' _ _ _ _ (t.trans t2) r2 a2 q2⟩
/-- C(..), C by a local name: cls(..) -/
def uMakeV (i : Nat) (C : Addr) (sp : FS) (gD : List D → List D → List D) (ra : UAK) : UE := fun env S Q X => env[i]? = some (some (.ref C)) ∧ uMake C sp gD ra env S Q X
theorem de_makeV (i : Nat) (M : Mk X.K C f) (F : FnD X.prog X.w X.K X.mg X.base k f fd ps sp) (hr : Room (k + 1) X.A) (sh : Shp X.K fd ps (n + 1) ks gD) (ha : DArgs X es kws pos n ks ra) (hN : X.N[i]? = some x := by rfl) (hv : Vis X.env.scope x := by first | exact Or.inl rfl | exact Or.inr (Or.inl rfl) | exact Or.inr (Or.inr rfl)) (hd : (x == ("__debug__" : Str)) = false := by decide)
    (hcd : (x == ("__classdict__" : Str)) = false := by decide) :
    DE X (.Call (.Name x p) es kws pos) (uMakeV i C sp gD ra) := ⟨fun pins s σ H Q I ⟨env, S, Qd, W, hE, hA, hT, ⟨he, hu⟩, hk'⟩ => by
  refine wpAny_Call_Name_kw (thn ((pe_var hN hv hd hcd).run pins s σ H (fun v H1 => v = .ref C ∧ H1 = H) I ?_) fun u s1 ⟨v, H1, I1, r1, ev, eh⟩ => ?_)
  · obtain ⟨v, ev, r⟩ := hE.2 i _ he
    exact ⟨v, ev, rep_ref.mp r, rfl⟩
  · subst ev eh
    obtain rfl : u = Value.ref C := r1
    exact ha.run (.ref C) [] pins s1 σ H1 env S _ W _ M.kp I1 hE hA hT hu fun us vs ws zs ds es' s1 H1 S1 I1 t a r rr rz re l1 l2 q => run_mk M F hr sh I1 (hE.keep t) a (tstep hT t) r rr rz re l1 l2 q fun v d H' S' t2 r2 a2 q2 => hk' _ _ _ _ (t.trans t2) r2 a2 q2⟩
theorem de_prop {g pp : Addr} {fN : Str} (he : DE X o uo) (c : Cls X.K C) (hp : PropOf X.K C fN pp g) (F : FnD X.prog X.w X.K X.mg X.base k g fd ps sp) (hr : Room (k + 1) X.A) (hb : Binds X.K fd ps []) (h1 : ps.length = 1)
    (hab : attributeBase o fN X.env (eval o X.env) = eval o X.env := by rfl) : DE X (.Attribute o fN pos) (uProp C sp uo) :=
  pe_imp (pe_prop (E := E0) he c hp F hr hb .nil passL hab) fun σ H Q ⟨env, S, Qd, W, hE, hA, hT, hu, hk'⟩ => ⟨env, S, _, W, hE, hA, hT, hu, fun v d H1 S1 t1 r1 a1 ⟨a, fs, ed, es, q⟩ => by
    subst ed
    rw [rep_ref] at r1; subst r1
    obtain ⟨dx, vfs, eh, rf⟩ := a1.getI es
    exact ⟨a, dx, vfs, rfl, eh, [.ref a], S1, Qd, noX, .cons (rep_ref.mpr rfl) .nil, a1, h1.symm, q, fun v d H' S' t r a2 q2 => hk' _ _ _ _ (t1.trans t) r a2 q2, fun _ _ _ _ _ _ _ _ z => z.elim⟩⟩
theorem de_cmeth {pl : Sem Bool} {g pp : Addr} {mc : Value} {rb : UA} (he : DE X o uo) (r : CRead X.K C mc) (c : CMet X.K C mc m pp g) (F : FnD X.prog X.w X.K X.mg X.base k g fd ps sp) (hr : Room k X.A) (hb : Binds X.K fd ps []) (ha : DA X (e :: es) rb) (hl : es.length + 2 = ps.length)
    (hst : starEach (e :: es) X.env = (false, eval e X.env) :: starEach es X.env := by rfl) (hpl : (backTo pos (starEach es X.env)).any (·.1) = false := by rfl)
    (ht : eval (.Call (.Attribute o m apos) (e :: es) [] pos) X.env = (do
      let ov ← eval o X.env
      standAt apos.atName
      let (f, first) ← holding [ov] (getMethod ov m pl)
      callWith pos f first (backTo pos (starEach (e :: es) X.env)) (backToKw pos (keywordEach [] X.env))) := by rfl) :
    DE X (.Call (.Attribute o m apos) (e :: es) [] pos) (uCMeth C (fun ds S Q X => ds.length = ps.length ∧ sp ds S Q X) uo rb) := ⟨fun pins s σ H Q I ⟨env, S, Qd, W, hE, hA, hT, hu, hk'⟩ => by
  refine PySem.W.methodCall_KW (pl := pl) (thn (PE.run he pins s σ H (fun v H1 => ∃ d S1, TK X.K H H1 ∧ Rep X.K H1 d v ∧ AbsS X.K H1 S1 ∧ d = .ref C ∧ rb env S1 (fun ds S2 => (D.ref C :: ds).length = ps.length ∧ sp (.ref C :: ds) S2 Qd (fun c fs S' => W c fs env S')) (fun c fs S' => W c fs env S')) I
    ⟨env, S, _, W, hE, hA, hT, hu, fun v d H1 S1 t r a q => ⟨d, S1, t, r, a, q⟩⟩) fun u s1 ⟨y, H1, I1, ry, d, S1, t1, rd, a1, ed, q⟩ => ?_) ht
  subst ed
  rw [rep_ref] at rd; subst rd
  obtain rfl : u = Value.ref C := ry
  refine getmethcm_ok I1 r c fun s2 I2 => ?_
  refine callwith_cm I2 (base_none I1 (Nat.le_refl _)) c.fi (thn (PA.run ha pos _ s2 σ H1 (fun vs H2 => ∃ ds S2, TK X.K H1 H2 ∧ RepL X.K H2 ds vs ∧ AbsS X.K H2 S2 ∧ (D.ref C :: ds).length = ps.length ∧ sp (.ref C :: ds) S2 Qd (fun c fs S' => W c fs env S')) I2
    ⟨env, S1, _, W, hE.keep t1, a1, tstep hT t1, q, fun vs ds H2 S2 t r a q => ⟨ds, S2, t, r, a, q⟩⟩) fun us s3 ⟨vs, H2, I3, rv, ds, S2, t2, rr, a2, l, q2⟩ => ⟨⟨pin_at I3, I3.kIn⟩, ?_⟩) hst hpl
  have tt := t1.trans t2
  have z := run_dC (us := .ref C :: us) (vs := .ref C :: vs) (ds := .ref C :: ds) (ws := []) (zs := []) (es := []) F hr (shp_plain hb) I3 (hE.keep tt) a2 (tstep hT tt) (.cons rfl rv) (.cons (rep_ref.mpr rfl) rr) .nil .nil l rfl q2 fun v d H' S' t3 r3 a3 q3 => hk' _ _ _ _ (tt.trans t3) r3 a3 q3
  have z' : wpAny (model X.prog X.w) X.A (call (.ref s1.heap.objs.size) us) (EP X ((s1.heap.objs.size, PySem.W.methodObj (.ref g) (.ref C)) :: pins) σ Q) X.xe s3 := wpAny_call (PySem.W.method_call (pin_at I3) z)
  exact thn z' fun _ _ y => unpinE y⟩
end
end SL

set_option Elab.async false
set_option linter.all false
set_option maxRecDepth 100000
set_option maxHeartbeats 4000000
/-! SL8: raise, try. -/
namespace SL
open PySem PySem.Spec L2 ClX

/-- what the __init__ of an exception's class promises: its arguments become the attributes ns -/
def spIni (C : Addr) (ns : List Str) : Sp := fun vs H Q _ => ∃ (a : Addr) (ys : List V), vs = .ref a :: ys ∧ ys.length = ns.length ∧ H a = some (exo a C none) ∧
  ∀ (dx : Addr) (H' : Hp), H dx = none → dx ≠ a → (∀ b, b ≠ dx → b ≠ a → H' b = H b) → H' dx = some (exd dx ((ns.zip ys).reverse)) → H' a = some (exo a C (some dx)) → Q .non H'
/-- a class of exceptions that keeps its arguments as the attributes ns -/
structure ExF (P : Program) (w : World) (K : PySem.W.Frag) (mg : Str → Option Value) (base : Heap) (x : Str) (C : Addr) (ns : List Str) : Prop where
  oex : OexC K C
  gC : mg x = some (.ref C)
  ini : ∃ fI fd ps, PySem.W.findIn K (.ref C) "__init__" = some (some (.ref fI)) ∧ PySem.W.typeIn K (.ref fI) = some (.type "function") ∧ FnOk P w K mg base (L2.CX P w) 1 fI fd ps (spIni C ns) ∧ Binds K fd ps []
def usRaise (C : Addr) (ns : List Str) (ra : UA) : US := fun D env S => ra env S (fun ds S1 => ds.length = ns.length ∧ ns.length ≤ 1000 ∧ D.ex (.ref C) ((ns.zip ds).reverse) env S1) (fun c fs S1 => D.ex c fs env S1)
theorem fsr_zip {K : PySem.W.Frag} {H : Hp} : ∀ {ns : List Str} {ds : List D} {vs : List V}, RepL K H ds vs → ds.length = ns.length → FsR K H (ns.zip ds) (ns.zip vs)
  | [], ds, vs, r, l => ⟨rfl, .nil⟩
  | n :: ns, [], vs, r, l => by cases l
  | n :: ns, d :: ds, vs, r, l => by
    obtain ⟨v, t, e, h1, h2⟩ := repL_cons.mp r
    subst e
    have ih := fsr_zip (ns := ns) h2 (by simpa using l)
    exact ⟨by simp [ih.1], .cons h1 ih.2⟩
theorem FsR.rev {K : PySem.W.Frag} {H : Hp} {fs : Fs} {vfs : List (Str × V)} (h : FsR K H fs vfs) : FsR K H fs.reverse vfs.reverse :=
  ⟨by rw [List.map_reverse, List.map_reverse, h.1], by rw [List.map_reverse, List.map_reverse]; exact h.2.reverse⟩
section
variable {X : Cx} {k : Nat} {C : Addr} {x : Str} {ns : List Str} {p pos pos2 : Pos} {e : Expr} {es : List Expr} {ra : UA}
theorem ds_raise (hc : X.calm = true) (T : ExF X.prog X.w X.K X.mg X.base x C ns) (hr : Room 2 X.A) (ha : DA X (e :: es) ra) (hg : Gl X x := by rfl) (hdb : (x == ("__debug__" : Str)) = false := by decide)
    (he : starEach (e :: es) X.env = (false, eval e X.env) :: starEach es X.env := by rfl) (hpl : (backTo pos (starEach es X.env)).any (·.1) = false := by rfl) :
    DS X (.Raise (some (.Call (.Name x p) (e :: es) [] pos)) none pos2) (usRaise C ns ra) := by
  obtain ⟨fI, fd, ps, iC, tI, F1, hb⟩ := T.ini
  refine ⟨fun pins s σ H D I ⟨env, S, E, hE, hA, hT, hu, hn, hrt, hbk, hct⟩ => ?_⟩
  refine (ps_raise (W := lw X.K H E.ex) hc hT (pmk_oex (dvs := []) T.oex iC tI F1 hr hb .nil passL hg T.gC ha hdb he hpl)).run pins s σ H D I ?_
  refine ⟨env, S, _, E.ex, hE, hA, hT, hu, fun vs ds H1 S1 t1 r1 a1 ⟨l1, l2, q⟩ => ⟨by rw [r1.length, l1]; exact l2, fun a na => ?_⟩⟩
  refine ⟨a, vs, by simp, by rw [r1.length, l1], upd_same, fun dx H2 ndx hne hoth hdx ha2 => ⟨rfl, dx, _, ha2, hdx, ?_, ?_⟩⟩
  · rw [upd_ne hne] at ndx; exact ndx
  · rw [upd_ne hne] at ndx
    have hs : Same H1 (upd (del H2 a) dx (.xd ((ns.zip vs).reverse))) := fun b o eb => by
      have hb1 : b ≠ a := ne_of_none eb na
      have hb2 : b ≠ dx := ne_of_none eb ndx
      rw [upd_ne hb2, del_ne hb1, hoth b hb2 hb1, upd_ne hb1]
      exact eb
    have t2 : TK X.K H1 _ := .of_same hs
    exact ⟨env, S1, _, t1.trans t2, (hE.keep t1).keep t2, a1.same hs, ⟨_, upd_same, ((fsr_zip r1 l1).keep t2).rev⟩, q⟩
end

/-! ### try -/
/-- the readings of a suite: nothing is raised there -/
def LS0 (K : PySem.W.Frag) (u : US) : TS := fun D σ H => ∃ env S E, EnvR K H env σ ∧ AbsS K H S ∧ (∀ c fs env S, E.ex c fs env S → False) ∧ u E env S ∧
  (∀ σ' H' env' S', TK K H H' → EnvR K H' env' σ' → AbsS K H' S' → E.nx env' S' → D.nx σ' H') ∧
  (∀ v d H' S', TK K H H' → Rep K H' d v → AbsS K H' S' → E.rt d S' → D.rt v H') ∧
  (∀ σ' H' env' S', TK K H H' → EnvR K H' env' σ' → AbsS K H' S' → E.bk env' S' → D.bk σ' H') ∧
  (∀ σ' H' env' S', TK K H H' → EnvR K H' env' σ' → AbsS K H' S' → E.ct env' S' → D.ct σ' H')
theorem ls0 {X : Cx} {b : List Stmt} {u : US} (h : DB X b u) : PSs X b (LS0 X.K u) := pss_imp h fun D σ H ⟨env, S, E, hE, hA, hF, hu, r⟩ => ⟨env, S, E, hE, hA, fun u s' x => by
  obtain ⟨a, B, sI, pins, σ, H', cls, d, _, _, _, _, _, _, _, _, w⟩ := x
  obtain ⟨_, _, _, _, _, _, _, f⟩ := w
  exact (hF _ _ _ _ f).elim, hu, r⟩
/-- the readings of a try's body: W what its exceptions are to do -/
def LSt (K : PySem.W.Frag) (u : US) (W : WX) : TS := fun D σ H => ∃ env S E, EnvR K H env σ ∧ AbsS K H S ∧ (∀ c d σ' H', lw K H E.ex c d σ' H' → W c d σ' H') ∧ u E env S ∧
  (∀ σ' H' env' S', TK K H H' → EnvR K H' env' σ' → AbsS K H' S' → E.nx env' S' → D.nx σ' H') ∧
  (∀ v d H' S', TK K H H' → Rep K H' d v → AbsS K H' S' → E.rt d S' → D.rt v H') ∧
  (∀ σ' H' env' S', TK K H H' → EnvR K H' env' σ' → AbsS K H' S' → E.bk env' S' → D.bk σ' H') ∧
  (∀ σ' H' env' S', TK K H H' → EnvR K H' env' σ' → AbsS K H' S' → E.ct env' S' → D.ct σ' H')
theorem lst_of {X : Cx} {b : List Stmt} {u : US} {W : WX} (h : DB X b u) (tk : Takes X W) : PSs X b (LSt X.K u W) := pss_imp h fun D σ H ⟨env, S, E, hE, hA, hF, hu, r⟩ => ⟨env, S, E, hE, hA, tk.imp hF, hu, r⟩
/-- what becomes of an exception: h the suite -/
def tryX (K : PySem.W.Frag) (c : Value) (D : EndsS) (h : Addr → Value → Option Addr → Fs → En → SS → Prop) : QXE := fun cls fs env' S' =>
  ∃ b, PySem.W.exmOne K cls c = some b ∧ (b = true → ∀ a dd, h a cls dd fs env' S') ∧ (b = false → D.ex cls fs env' S')
def tryD (D : EndsS) (q : QXE) : EndsS := { nx := D.nx, rt := D.rt, bk := D.bk, ct := D.ct, ex := q }
def asD (i : Nat) (D : EndsS) : EndsS := { nx := fun env2 S2 => D.nx (env2.set i none) S2, rt := D.rt, bk := fun env2 S2 => D.bk (env2.set i none) S2, ct := fun env2 S2 => D.ct (env2.set i none) S2, ex := fun _ _ _ _ => False }
/-- try: ub except C as i: us -/
def usTryAs (K : PySem.W.Frag) (c : Value) (i : Nat) (ub : US) (us : Addr → Value → Option Addr → US) : US := fun D env S =>
  ub (tryD D (tryX K c D fun a cls dd fs env' S' => us a cls dd (asD i D) (env'.set i (some (.exc a dd (fs.map (·.1)) (fs.map (·.2))))) S')) env S
/-- try: ub except C: us -/
def usTry (K : PySem.W.Frag) (c : Value) (ub : US) (us : Addr → Value → Option Addr → US) : US := fun D env S =>
  ub (tryD D (tryX K c D fun a cls dd fs env' S' => us a cls dd (tryD D fun _ _ _ _ => False) env' S')) env S
/-- e.f, e the exception that is handled, its own dict dd -/
def uExF (a C : Addr) (cls : Value) (dd : Option Addr) (f : Str) (u : UE) : UE := fun env S Q X => cls = .ref C ∧ u env S (fun d S1 => ∃ ks ds y, d = .exc a dd ks ds ∧ (ks.zip ds).lookup f = some y ∧ Q y S1) X
theorem rep_exc {K : PySem.W.Frag} {H : Hp} {a : Addr} {d : Option Addr} {fs : Fs} (h : XR K H d fs) : Rep K H (.exc a d (fs.map (·.1)) (fs.map (·.2))) (.ref a) := by
  cases d with
  | none => subst h; exact ⟨[], rfl, (fun _ => rfl), (fun _ z => by cases z), rfl, .nil⟩
  | some dx =>
    obtain ⟨vfs, e, r⟩ := h
    exact ⟨vfs, rfl, (fun z => by cases z), (fun dx' ed => by cases ed; exact e), r.1, r.2⟩
section
variable {X : Cx} {x n : Str} {c : Value} {body suite : List Stmt} {b₀ : Stmt} {np pos pos' : Pos} {ub : US} {us : Addr → Value → Option Addr → US}
theorem ds_try_as (i : Nat) (hs : X.stack = X.env :: X.outer) (hf : X.env.frame = some X.env.locals) (hN : X.N.Nodup) (hc : Names X x c)
    (hb : ∀ (pn : List (Addr × Obj)) (xe : Value → Shared → Prop), PassesOwn (model X.prog X.w) X.A X.env xe → DB (X.tr pn xe) body ub)
    (hsu : ∀ (a : Addr) (oe : Obj) (cls : Value) (d : Option Addr) (pn : List (Addr × Obj)), Zc cls d oe → (∃ vs, oe.data = .fields vs) → DB (X.suite a ((a, oe) :: pn)) (b₀ :: suite) (us a cls d)) (hi : X.N[i]? = some n := by rfl) (hln : X.env.kindOf n = some .local := by rfl) :
    DS X (.Try body [.ExceptHandler (some (.Name x np)) (some n) (b₀ :: suite) pos'] [] [] pos) (usTryAs X.K c i ub us) := ⟨fun pins s σ H D I ⟨env, S, E, hE, hA, hT, hu, hn, hr, hbk, hct⟩ =>
  (ps_try_as (i := i) (tb := fun W => LSt X.K ub W) (ts := fun a cls d => LS0 X.K (us a cls d)) (Wout := lw X.K H E.ex) hs hf hN hi hln hc hT (fun W pn xe tk po => lst_of (X := X.tr pn xe) (hb pn xe po) tk) (fun a oe cls d pn hz hd => ls0 (hsu a oe cls d pn hz hd))).run pins s σ H D I
    ⟨env, S, _, hE, hA, fun cls d σ' H' ⟨env', S', fs, t, hE', hA', hX, hw⟩ => let ⟨b, eb, h1, h2⟩ := hw; ⟨b, eb, fun hb a na => ⟨_, S', _, hE'.set (rep_exc hX), hA', fun _ _ _ _ z => z, h1 hb a d,
        fun σ2 H2 env2 S2 t2 e2 a2 q => hn _ _ _ _ (t.trans t2) e2.unset a2 q, fun v d2 H2 S2 t2 r2 a2 q => hr _ _ _ _ (t.trans t2) r2 a2 q, fun σ2 H2 env2 S2 t2 e2 a2 q => hbk _ _ _ _ (t.trans t2) e2.unset a2 q, fun σ2 H2 env2 S2 t2 e2 a2 q => hct _ _ _ _ (t.trans t2) e2.unset a2 q⟩,
      fun hb => ⟨env', S', fs, t, hE', hA', hX, h2 hb⟩⟩, hu, hn, hr, hbk, hct⟩⟩
theorem ds_try (hs : X.stack = X.env :: X.outer) (hf : X.env.frame = some X.env.locals) (hc : Names X x c)
    (hb : ∀ (pn : List (Addr × Obj)) (xe : Value → Shared → Prop), PassesOwn (model X.prog X.w) X.A X.env xe → DB (X.tr pn xe) body ub)
    (hsu : ∀ (a : Addr) (oe : Obj) (cls : Value) (d : Option Addr) (pn : List (Addr × Obj)), Zc cls d oe → (∃ vs, oe.data = .fields vs) → DB (X.suite a ((a, oe) :: pn)) (b₀ :: suite) (us a cls d)) :
    DS X (.Try body [.ExceptHandler (some (.Name x np)) none (b₀ :: suite) pos'] [] [] pos) (usTry X.K c ub us) := ⟨fun pins s σ H D I ⟨env, S, E, hE, hA, hT, hu, hn, hr, hbk, hct⟩ =>
  (ps_try_only (tb := fun W => LSt X.K ub W) (ts := fun a cls d => LS0 X.K (us a cls d)) (Wout := lw X.K H E.ex) hs hf hc hT (fun W pn xe tk po => lst_of (X := X.tr pn xe) (hb pn xe po) tk) (fun a oe cls d pn hz hd => ls0 (hsu a oe cls d pn hz hd))).run pins s σ H D I
    ⟨env, S, _, hE, hA, fun cls d σ' H' ⟨env', S', fs, t, hE', hA', hX, hw⟩ => let ⟨b, eb, h1, h2⟩ := hw; ⟨b, eb, fun hb a na => ⟨_, S', _, hE', hA', fun _ _ _ _ z => z, h1 hb a d,
        fun σ2 H2 env2 S2 t2 e2 a2 q => hn _ _ _ _ (t.trans t2) e2 a2 q, fun v d2 H2 S2 t2 r2 a2 q => hr _ _ _ _ (t.trans t2) r2 a2 q, fun σ2 H2 env2 S2 t2 e2 a2 q => hbk _ _ _ _ (t.trans t2) e2 a2 q, fun σ2 H2 env2 S2 t2 e2 a2 q => hct _ _ _ _ (t.trans t2) e2 a2 q⟩,
      fun hb => ⟨env', S', fs, t, hE', hA', hX, h2 hb⟩⟩, hu, hn, hr, hbk, hct⟩⟩
/-- what the written part says of an exception's class, for reading attributes of one that is handled -/
structure ExG (K : PySem.W.Frag) (C : Addr) (f : Str) : Prop where
  ga : PySem.W.findIn K (.ref C) "__getattribute__" = some (some (.builtin "BaseException.__getattribute__"))
  gg : PySem.W.findIn K (.ref C) "__getattr__" = some none
  no : PySem.W.findIn K (.ref C) f = some none
  exC : PySem.W.subIn K (.ref C) (.type "BaseException") = some true
  hd : PySem.W.hasDictIn K C = true
/-- e.f in a suite -/
theorem de_exf {a C : Addr} {oe : Obj} {cls : Value} {d : Option Addr} {pn : List (Addr × Obj)} {e : Expr} {f : Str} {u : UE} {pos : Pos} (T : ExG X.K C f) (hz : Zc cls d oe) (hf : ∃ vs, oe.data = .fields vs) (he : DE (X.suite a ((a, oe) :: pn)) e u)
    (hb : attributeBase e f X.env (eval e X.env) = eval e X.env := by rfl) :
    DE (X.suite a ((a, oe) :: pn)) (.Attribute e f pos) (uExF a C cls d f u) := ⟨fun pins s σ H Q I ⟨env, S, Qd, W, hE, hA, hT, ⟨ec, hu⟩, hk⟩ => by
  refine attr_of hb (thn (PE.run he pins s σ H (fun v H1 => ∃ dv S1, TK X.K H H1 ∧ Rep X.K H1 dv v ∧ AbsS X.K H1 S1 ∧ ∃ ks ds y, dv = .exc a d ks ds ∧ (ks.zip ds).lookup f = some y ∧ Qd y S1) I ⟨env, S, _, W, hE, hA, hT, hu, fun v dv H1 S1 t r a q => ⟨dv, S1, t, r, a, q⟩⟩)
    fun w s1 ⟨x, H1, I1, rx, dv, S1, t1, rd, a1, ks, ds, y, ed, hl, q⟩ => ?_)
  subst ed ec
  obtain ⟨vfs, ex, h0, h1, h2, h3⟩ := rd
  subst ex
  obtain rfl : w = Value.ref a := rx
  obtain ⟨ha, _⟩ := I1.pin (a, oe) (List.mem_append_left _ List.mem_cons_self)
  obtain ⟨ws, hd⟩ := hf
  have hfs : FsR X.K H1 (ks.zip ds) vfs := by
    have l : ds.length = ks.length := by rw [← h2, ← h3.length]; simp
    refine ⟨?_, ?_⟩
    · rw [List.map_fst_zip (by omega), h2]
    · rw [List.map_snd_zip (by omega)]; exact h3
  obtain ⟨v, hv, rv⟩ := hfs.lookup hl
  cases d with
  | none =>
    have := h0 rfl
    subst this
    simp at hl
  | some dd =>
    have ea := h1 dd rfl
    have hx : ObjOk X.prog X.w H1 s1.heap dd (.xd vfs) := I1.hok dd _ ea
    obtain ⟨mA, hns, hr⟩ := hx
    obtain ⟨od, ho, hlk⟩ := lookIn_ns hns
    obtain ⟨u2, hu2, ru⟩ := RelO.some_of (v := v) (o := mA f) (by rw [← hv]; exact hr f)
    have J : PySem.W.InstAt s1.heap a oe C (some od) := ⟨ha, hz.1, by unfold PySem.W.notCls; rw [hd] <;> rfl, by rw [hz.2]; exact ho⟩
    exact HandSPX.exc_get I1.kIn J T.ga T.gg T.exC (PySem.W.findObj_own T.hd T.no rfl (by rw [hlk, hu2])) (handed_of ru) ⟨v, H1, I1.tok _, ru, hk _ _ _ _ t1 rv a1 q⟩⟩
end
end SL

set_option Elab.async false
set_option linter.all false
set_option maxRecDepth 100000
set_option maxHeartbeats 4000000
/-! SL9: built-in functions, methods of texts and lists. -/
namespace SL
open PySem PySem.Spec L2

/-! ### built-in functions -/
abbrev GF := List D → SS → QN → Prop
def rDV (K : PySem.W.Frag) (g : GF) : List V → Hp → VK → Prop := fun xs H Q => ∃ S ds Qd, AbsS K H S ∧ RepL K H ds xs ∧ g ds S Qd ∧ ∀ v d H' S', TK K H H' → Rep K H' d v → AbsS K H' S' → Qd d S' → Q v H'
def uFn (g : GF) (ra : UA) : UE := fun env S Q X => ra env S (fun ds S1 => g ds S1 Q) X
/-- a pure one -/
def gP (f : SS → List D → Option D) : GF := fun ds S Q => ∃ z, f S ds = some z ∧ Q z S
def lenD (S : SS) : D → Option Int
  | .str x => if x.length ≤ sizeLine then some x.length else none
  | .tup xs => some xs.length
  | .ref a => match S a with
    | some (.lst xs) => some xs.length
    | some (.rol xs) => some xs.length
    | _ => none
  | _ => none
def fLen : SS → List D → Option D
  | S, [d] => (lenD S d).map .int
  | _, _ => none
def fInt : SS → List D → Option D
  | _, [.int i] => some (.int i)
  | _, [.bl b] => some (.int (if b then 1 else 0))
  | _, [.str x] => if x.length ≤ 640 then (PySem.intText? (tx x)).map .int else none
  | _, _ => none
/-- the figures of a number -/
def dig (i : Int) : List Nat := cs (toString i)
def fStr : SS → List D → Option D
  | _, [.int i] => if i.natAbs.log2 < 1920 then some (.str (dig i)) else none
  | _, _ => none
def fTup : SS → List D → Option D
  | S, [d] => (seqOf S d).map .tup
  | _, _ => none
def gLst : GF := fun ds S Q => ∃ d xs, ds = [d] ∧ seqOf S d = some xs ∧ ∀ p, S p = none → Q (.ref p) (sup S p (.lst xs))
def fMin : SS → List D → Option D
  | _, [.int i, .int j] => some (.int (if j < i then j else i))
  | _, _ => none
def fMax : SS → List D → Option D
  | _, [.int i, .int j] => some (.int (if j > i then j else i))
  | _, _ => none
def fAbs : SS → List D → Option D
  | _, [.int i] => some (.int (if i < 0 then -i else i))
  | _, _ => none
def intsOf : List D → Option (List Int)
  | [] => some []
  | .int i :: r => (intsOf r).map (i :: ·)
  | _ => none
def fSum : SS → List D → Option D
  | S, [d] => ((seqOf S d).bind intsOf).map fun l => .int l.sum
  | _, _ => none
section
variable {X : Cx}
theorem gp_of {fv : Value} {f : SS → List D → Option D} (h : ∀ (pins : List (Addr × Obj)) (s : Shared) (σ : L2.St) (H : Hp) (xs : List V) (us : List Value) (Q : VK) (S : SS) (ds : List D) (z : D), Inv X pins σ H s → Vals xs us → AbsS X.K H S → RepL X.K H ds xs → f S ds = some z →
    (∀ v H', Same H H' → Rep X.K H' z v → Q v H') → wpAny (model X.prog X.w) X.A (call fv us) (EP X pins σ Q) X.xe s) : CallR X fv (rDV X.K (gP f)) := fun pins s σ H xs us Q I r ⟨S, ds, Qd, hA, rr, ⟨z, hz, q⟩, hk⟩ =>
  h pins s σ H xs us Q S ds z I r hA rr hz fun v H' sm rz => hk v z H' S (.of_same sm) rz (hA.same sm) q
theorem rep1 {K : PySem.W.Frag} {H : Hp} {d : D} {xs : List V} (h : RepL K H [d] xs) : ∃ v, xs = [v] ∧ Rep K H d v := by
  obtain ⟨v, r, e, h1, h2⟩ := repL_cons.mp h
  rw [repL_nil] at h2; subst h2
  exact ⟨v, e, h1⟩
theorem rep2 {K : PySem.W.Frag} {H : Hp} {d d' : D} {xs : List V} (h : RepL K H [d, d'] xs) : ∃ v v', xs = [v, v'] ∧ Rep K H d v ∧ Rep K H d' v' := by
  obtain ⟨v, r, e, h1, h2⟩ := repL_cons.mp h
  obtain ⟨v', e', h3⟩ := rep1 h2
  subst e'
  exact ⟨v, v', e, h1, h3⟩
theorem cd_len : CallR X (.builtin "len") (rDV X.K (gP fLen)) := gp_of fun pins s σ H xs us Q S ds z I r hA rr hz k => by
  unfold fLen at hz
  split at hz
  · rename_i S' d
    obtain ⟨v, rfl, rv⟩ := rep1 rr
    rw [Option.map_eq_some_iff] at hz
    obtain ⟨n, hn, rfl⟩ := hz
    cases d with
    | str x =>
      rw [rep_str] at rv; subst rv
      simp only [lenD] at hn
      split at hn
      · rename_i hl
        cases hn
        exact call_len_str pins s σ H _ us Q I r ⟨_, rfl, by rw [tx_len]; exact hl, k _ H (Same.refl H) (rep_int.mpr (by rw [tx_len]))⟩
      · cases hn
    | tup ys =>
      obtain ⟨a, vs, rfl, q, r2⟩ := rep_tup.mp rv
      cases hn
      exact call_len_seq pins s σ H _ us Q I r ⟨a, vs, rfl, .inr q, k _ H (Same.refl H) (rep_int.mpr (by rw [r2.length]))⟩
    | ref a =>
      rw [rep_ref] at rv; subst rv
      simp only [lenD] at hn
      split at hn
      · rename_i ys e
        cases hn
        obtain ⟨vs, q, r2⟩ := hA.getL e
        exact call_len_seq pins s σ H _ us Q I r ⟨a, vs, rfl, .inl (.of q), k _ H (Same.refl H) (rep_int.mpr (by rw [r2.length]))⟩
      · rename_i ys e
        cases hn
        obtain ⟨vs, q, r2⟩ := hA.getR e
        exact call_len_seq pins s σ H _ us Q I r ⟨a, vs, rfl, .inl (.inl q), k _ H (Same.refl H) (rep_int.mpr (by rw [r2.length]))⟩
      · cases hn
    | _ => simp [lenD] at hn
  · cases hz
theorem cd_int : CallR X (.type "int") (rDV X.K (gP fInt)) := gp_of fun pins s σ H xs us Q S ds z I r hA rr hz k => by
  unfold fInt at hz
  split at hz
  · cases hz
    obtain ⟨v, rfl, rv⟩ := rep1 rr
    rw [rep_int] at rv; subst rv
    exact call_int1 pins s σ H _ us Q I r (.inl ⟨_, rfl, k _ H (Same.refl H) (rep_int.mpr rfl)⟩)
  · cases hz
    obtain ⟨v, rfl, rv⟩ := rep1 rr
    rw [rep_bl] at rv; subst rv
    exact call_int1 pins s σ H _ us Q I r (.inr ⟨_, rfl, k _ H (Same.refl H) (rep_int.mpr rfl)⟩)
  · split at hz
    · rename_i hl
      rw [Option.map_eq_some_iff] at hz
      obtain ⟨n, hn, rfl⟩ := hz
      obtain ⟨v, rfl, rv⟩ := rep1 rr
      rw [rep_str] at rv; subst rv
      exact call_int_str pins s σ H _ us Q I r ⟨_, _, rfl, hn, by rw [tx_len]; exact hl, k _ H (Same.refl H) (rep_int.mpr rfl)⟩
    · cases hz
  · cases hz
theorem cd_str : CallR X (.type "str") (rDV X.K (gP fStr)) := gp_of fun pins s σ H xs us Q S ds z I r hA rr hz k => by
  unfold fStr at hz
  split at hz
  · split at hz
    · rename_i hl
      cases hz
      obtain ⟨v, rfl, rv⟩ := rep1 rr
      rw [rep_int] at rv; subst rv
      exact call_str_int pins s σ H _ us Q I r ⟨_, rfl, hl, k _ H (Same.refl H) (rep_str.mpr (by unfold dig; rw [tx_cs]))⟩
    · cases hz
  · cases hz
theorem cd_tup : CallR X (.type "tuple") (rDV X.K (gP fTup)) := gp_of fun pins s σ H xs us Q S ds z I r hA rr hz k => by
  unfold fTup at hz
  split at hz
  · rename_i S' d
    obtain ⟨v, rfl, rv⟩ := rep1 rr
    rw [Option.map_eq_some_iff] at hz
    obtain ⟨ys, hn, rfl⟩ := hz
    obtain ⟨a, vs, rfl, q, r2⟩ := seqOf_rep hA rv hn
    rcases q with q | q
    · exact call_tuple_of pins s σ H _ us Q I r ⟨a, vs, rfl, .inl ⟨q, fun l hl => k _ _ (Same.new hl) (.newTup hl r2)⟩⟩
    · exact call_tuple_of pins s σ H _ us Q I r ⟨a, vs, rfl, .inr ⟨q, k _ H (Same.refl H) (.tup q r2)⟩⟩
  · cases hz
theorem cd_list : CallR X (.type "list") (rDV X.K gLst) := fun pins s σ H xs us Q I r ⟨S, ds, Qd, hA, rr, ⟨d, ys, e, hn, q⟩, hk⟩ => by
  subst e
  obtain ⟨v, rfl, rv⟩ := rep1 rr
  obtain ⟨a, vs, rfl, q2, r2⟩ := seqOf_rep hA rv hn
  exact call_list_of pins s σ H _ us Q I r ⟨a, vs, rfl, q2, fun l hl => hk _ _ _ _ (.new hl) (rep_ref.mpr rfl) (hA.newL hl r2) (q l (hA.fresh hl))⟩
theorem cd_min (hc : X.calm = true) : CallR X (.builtin "min") (rDV X.K (gP fMin)) := gp_of fun pins s σ H xs us Q S ds z I r hA rr hz k => by
  unfold fMin at hz
  split at hz
  · cases hz
    obtain ⟨v, v', rfl, rv, rv'⟩ := rep2 rr
    rw [rep_int] at rv rv'; subst rv; subst rv'
    exact call_min2 hc pins s σ H _ us Q I r ⟨_, _, rfl, k _ H (Same.refl H) (rep_int.mpr rfl)⟩
  · cases hz
theorem cd_max (hc : X.calm = true) : CallR X (.builtin "max") (rDV X.K (gP fMax)) := gp_of fun pins s σ H xs us Q S ds z I r hA rr hz k => by
  unfold fMax at hz
  split at hz
  · cases hz
    obtain ⟨v, v', rfl, rv, rv'⟩ := rep2 rr
    rw [rep_int] at rv rv'; subst rv; subst rv'
    exact call_max2 hc pins s σ H _ us Q I r ⟨_, _, rfl, k _ H (Same.refl H) (rep_int.mpr rfl)⟩
  · cases hz
theorem cd_abs : CallR X (.builtin "abs") (rDV X.K (gP fAbs)) := gp_of fun pins s σ H xs us Q S ds z I r hA rr hz k => by
  unfold fAbs at hz
  split at hz
  · cases hz
    obtain ⟨v, rfl, rv⟩ := rep1 rr
    rw [rep_int] at rv; subst rv
    exact call_abs pins s σ H _ us Q I r ⟨_, rfl, k _ H (Same.refl H) (rep_int.mpr rfl)⟩
  · cases hz
variable {x : Str} {p pos apos cpos : Pos} {e o : Expr} {es : List Expr} {ra : UA} {uo u : UE} {g : GF} {id T : String}
theorem de_fnB (hc : CallR X (.builtin id) (rDV X.K g)) (hm : X.mg x = none) (hv : bootBuiltins x = some (.builtin id)) (ha : DA X (e :: es) ra) (hg : Gl X x := by rfl) (hn : x ≠ "__name__" := by decide) (hdb : (x == ("__debug__" : Str)) = false := by decide)
    (he : starEach (e :: es) X.env = (false, eval e X.env) :: starEach es X.env := by rfl) (hpl : (backTo pos (starEach es X.env)).any (·.1) = false := by rfl) : DE X (.Call (.Name x p) (e :: es) [] pos) (uFn g ra) :=
  pe_imp (pe_callB hc hg hm hv ha hn hdb he hpl) fun σ H Q ⟨env, S, Qd, W, hE, hA, hT, hu, hk⟩ => ⟨env, S, _, W, hE, hA, hT, hu, fun vs ds H1 S1 t1 r1 a1 q1 => ⟨S1, ds, Qd, a1, r1, q1, fun v d H' S' t r a q => hk _ _ _ _ (t1.trans t) r a q⟩⟩
theorem de_fnT (hc : CallR X (.type T) (rDV X.K g)) (hm : X.mg x = none) (hv : bootBuiltins x = some (.type T)) (ha : DA X (e :: es) ra) (hg : Gl X x := by rfl) (hn : x ≠ "__name__" := by decide) (hdb : (x == ("__debug__" : Str)) = false := by decide)
    (he : starEach (e :: es) X.env = (false, eval e X.env) :: starEach es X.env := by rfl) (hpl : (backTo pos (starEach es X.env)).any (·.1) = false := by rfl) : DE X (.Call (.Name x p) (e :: es) [] pos) (uFn g ra) :=
  pe_imp (pe_callTy hc hg hm hv ha hn hdb he hpl) fun σ H Q ⟨env, S, Qd, W, hE, hA, hT, hu, hk⟩ => ⟨env, S, _, W, hE, hA, hT, hu, fun vs ds H1 S1 t1 r1 a1 q1 => ⟨S1, ds, Qd, a1, r1, q1, fun v d H' S' t r a q => hk _ _ _ _ (t1.trans t) r a q⟩⟩
end

/-! ### isinstance of built-in types -/
def tyOf (S : SS) : D → Option String
  | .non => some "NoneType"
  | .bl _ => some "bool"
  | .int _ => some "int"
  | .str _ => some "str"
  | .tup _ => some "tuple"
  | .ref a => match S a with
    | some (.lst _) => some "list"
    | some (.rol _) => some "list"
    | _ => none
  | _ => none
def isT (t T : String) : Bool := t == T || (t == "bool" && T == "int")
def tyS : List String := ["NoneType", "bool", "int", "str", "list", "tuple", "dict"]
theorem kit_isT (T : String) (h2 : T ∈ ["int", "str", "bool", "tuple", "list"]) : ∀ t ∈ tyS, kitB t T = some (isT t T) := by
  have : ∀ T ∈ ["int", "str", "bool", "tuple", "list"], ∀ t ∈ tyS, kitB t T = some (isT t T) := by decide +kernel
  exact this T h2
theorem tyOf_rep {K : PySem.W.Frag} {H : Hp} {S : SS} {d : D} {v : V} {t : String} (hA : AbsS K H S) (r : Rep K H d v) (h : tyOf S d = some t) : TyX K H v (.type t) ∧ t ∈ tyS := by
  have lst : ∀ {a : Addr} {vs : List V}, Rd H a (.lst vs) → TyX K H (.ref a) (.type "list") := fun {a vs} h => by
    rcases h with h | ⟨o, h⟩
    · exact .base (.lst h)
    · exact .base (.frz h)
  cases d with
  | non => rw [rep_non] at r; subst r; cases h; exact ⟨.base .non, by decide⟩
  | bl b => rw [rep_bl] at r; subst r; cases h; exact ⟨.base (.bl _), by decide⟩
  | int b => rw [rep_int] at r; subst r; cases h; exact ⟨.base (.int _), by decide⟩
  | str b => rw [rep_str] at r; subst r; cases h; exact ⟨.base (.str _), by decide⟩
  | tup xs =>
    obtain ⟨a, vs, rfl, q, rr⟩ := rep_tup.mp r
    cases h
    refine ⟨?_, by decide⟩
    rcases q with (q | ⟨o, q⟩) | ⟨o, its, n, q, hc, _⟩
    · exact .base (.tup q)
    · exact .fTuple q
    · exact .kTuple q hc
  | ref a =>
    rw [rep_ref] at r; subst r
    simp only [tyOf] at h
    split at h
    · rename_i xs e
      cases h
      obtain ⟨vs, q, _⟩ := hA.getL e
      exact ⟨lst (.inl q), by decide⟩
    · rename_i xs e
      cases h
      obtain ⟨vs, q, _⟩ := hA.getR e
      exact ⟨lst q, by decide⟩
    · cases h
  | exc _ _ _ _ => cases h
  | kl _ => cases h
def uIsi (Ts : List String) (u : UE) : UE := fun env S Q X => u env S (fun d S1 => ∃ t, tyOf S1 d = some t ∧ Q (.bl (Ts.any (isT t))) S1) X
section
variable {X : Cx} {p p2 p3 pos : Pos} {e : Expr} {u : UE} {T T2 : String} {x x2 : Str}
theorem de_isi (he : DE X e u) (hm : X.mg "isinstance" = none) (hmT : X.mg x = none) (hv : bootBuiltins x = some (.type T)) (hT : T ∈ ["int", "str", "bool", "tuple", "list"] := by decide) (hg : Gl X "isinstance" := by rfl) (hgT : Gl X x := by rfl) (hn : x ≠ "__name__" := by decide) (hd : (x == ("__debug__" : Str)) = false := by decide)
    (hs1 : starEach [e, .Name x p2] X.env = (false, eval e X.env) :: starEach [.Name x p2] X.env := by rfl) (hs2 : starEach [.Name x p2] X.env = (false, eval (.Name x p2) X.env) :: starEach [] X.env := by rfl) (hpl : (backTo pos (starEach [.Name x p2] X.env)).any (·.1) = false := by rfl) :
    DE X (.Call (.Name "isinstance" p) [e, .Name x p2] [] pos) (uIsi [T] u) :=
  pe_imp (pe_callB call_isi hg hm (by decide +kernel) (pa_cons he (pa_cons (pe_bltn (v := .ty T) hgT hmT hv rfl hn hd) pa_nil hs2) hs1) (by decide) (by decide) hs1 hpl) fun σ H Q ⟨env, S, Qd, W, hE, hA, hT', hu, hk⟩ =>
    ⟨env, S, _, W, hE, hA, hT', hu, fun v d H1 S1 t1 r1 a1 ⟨t, ht, q⟩ => ⟨v, .ty T, .type t, .type T, isT t T, rfl, .ty T, (tyOf_rep a1 r1 ht).1, kit_ty (kit_isT T hT t (tyOf_rep a1 r1 ht).2), hk _ _ _ _ t1 (rep_bl.mpr (by simp)) a1 q⟩⟩
theorem de_isi2 (he : DE X e u) (hm : X.mg "isinstance" = none) (hmT : X.mg x = none) (hv : bootBuiltins x = some (.type T)) (hmT2 : X.mg x2 = none) (hv2 : bootBuiltins x2 = some (.type T2)) (hT : T ∈ ["int", "str", "bool", "tuple", "list"] := by decide) (hT2 : T2 ∈ ["int", "str", "bool", "tuple", "list"] := by decide)
    (hg : Gl X "isinstance" := by rfl) (hgT : Gl X x := by rfl) (hgT2 : Gl X x2 := by rfl) (hn : x ≠ "__name__" := by decide) (hd : (x == ("__debug__" : Str)) = false := by decide) (hn2 : x2 ≠ "__name__" := by decide) (hd2 : (x2 == ("__debug__" : Str)) = false := by decide) {k : Nat} {p4 : Pos}
    (hs1 : starEach [e, .Tuple [.Name x p2, .Name x2 p3] k p4] X.env = (false, eval e X.env) :: starEach [.Tuple [.Name x p2, .Name x2 p3] k p4] X.env := by rfl)
    (hs2 : starEach [.Tuple [.Name x p2, .Name x2 p3] k p4] X.env = (false, eval (.Tuple [.Name x p2, .Name x2 p3] k p4) X.env) :: starEach [] X.env := by rfl)
    (hs3 : starEach [.Name x p2, .Name x2 p3] X.env = (false, eval (.Name x p2) X.env) :: starEach [.Name x2 p3] X.env := by rfl) (hs4 : starEach [.Name x2 p3] X.env = (false, eval (.Name x2 p3) X.env) :: starEach [] X.env := by rfl) (hpl : (backTo pos (starEach [.Tuple [.Name x p2, .Name x2 p3] k p4] X.env)).any (·.1) = false := by rfl) :
    DE X (.Call (.Name "isinstance" p) [e, .Tuple [.Name x p2, .Name x2 p3] k p4] [] pos) (uIsi [T, T2] u) :=
  pe_imp (pe_callB call_isiT hg hm (by decide +kernel) (pa_cons he (pa_cons (pe_tup (pa_cons (pe_bltn (v := .ty T) hgT hmT hv rfl hn hd) (pa_cons (pe_bltn (v := .ty T2) hgT2 hmT2 hv2 rfl hn2 hd2) pa_nil hs4) hs3)) pa_nil hs2) hs1) (by decide) (by decide) hs1 hpl) fun σ H Q ⟨env, S, Qd, W, hE, hA, hT', hu, hk⟩ =>
    ⟨env, S, _, W, hE, hA, hT', hu, fun v d H1 S1 t1 r1 a1 ⟨t, ht, q⟩ => ⟨(by show 2 ≤ sizeLine; rw [sizeLine_eq]; decide), fun tp htp => by
      have sm := Same.new (o := HO.tup [V.ty T, V.ty T2]) htp
      have z := tyOf_rep (a1.same sm) (r1.keep (.of_same sm)) ht
      exact ⟨v, tp, _, .type t, [.type T, .type T2], [T, T2].any (isT t), rfl, upd_same, .cons (.ty T) (.cons (.ty T2) .nil), z.1, kitAny_cons (kit_ty (kit_isT T hT t z.2)) (fun hb => by
        rw [List.any_cons, hb, Bool.false_or]
        exact kitAny_cons (kit_ty (kit_isT T2 hT2 t z.2)) (fun hb => by rw [List.any_cons, hb]; exact kitAny_nil) (fun hb => by rw [List.any_cons, hb]; rfl)) (fun hb => by rw [List.any_cons, hb]; rfl), hk _ _ _ _ (t1.trans (.of_same sm)) (rep_bl.mpr rfl) (a1.same sm) q⟩⟩⟩
end

/-! ### methods of built-in types -/
abbrev GM := D → List D → SS → QN → Prop
def rDM (K : PySem.W.Frag) (g : GM) : V → List V → Hp → VK → Prop := fun x xs H Q => ∃ S d ds Qd, AbsS K H S ∧ Rep K H d x ∧ RepL K H ds xs ∧ g d ds S Qd ∧ ∀ v d' H' S', TK K H H' → Rep K H' d' v → AbsS K H' S' → Qd d' S' → Q v H'
def isTy (S : SS) (T : String) : D → Prop
  | .str _ => T = "str"
  | .ref a => match S a with
    | some (.lst _) => T = "list"
    | some (.rol _) => T = "list"
    | _ => False
  | _ => False
theorem isTy_rep {K : PySem.W.Frag} {H : Hp} {S : SS} {d : D} {v : V} {T : String} (hA : AbsS K H S) (r : Rep K H d v) (h : isTy S T d) : tyV K T v H := by
  cases d with
  | str x => rw [rep_str] at r; subst r; exact h
  | ref a =>
    rw [rep_ref] at r; subst r
    simp only [isTy] at h
    split at h
    · rename_i xs e
      obtain ⟨vs, q, _⟩ := hA.getL e
      exact .inl ⟨h, vs, .of q⟩
    · rename_i xs e
      obtain ⟨vs, q, _⟩ := hA.getR e
      exact .inl ⟨h, vs, .inl q⟩
    · exact h.elim
  | _ => exact h.elim
def uBM0 (T : String) (g : GM) (uo : UE) : UE := fun env S Q X => uo env S (fun d S1 => isTy S1 T d ∧ g d [] S1 Q) X
def uBM (T : String) (g : GM) (uo : UE) (ra : UA) : UE := fun env S Q X => uo env S (fun d S1 => isTy S1 T d ∧ ra env S1 (fun ds S2 => g d ds S2 Q) X) X
section
variable {X : Cx} {o e : Expr} {es : List Expr} {uo : UE} {ra : UA} {name : Str} {apos cpos : Pos} {T id : String} {g : GM}
theorem de_bm0 (pa : PlainAttrs T) (slot : Slot T name id) (hty : typeOf (.builtin id) = pure (.type "method_descriptor")) (hm : MtR X id (rDM X.K g)) (ho : DE X o uo)
    (hbase : attributeBase o name X.env (eval o X.env) = eval o X.env := by rfl) (hline : (apos.endLine == cpos.line) = true := by rfl) : DE X (.Call (.Attribute o name apos) [] [] cpos) (uBM0 T g uo) :=
  pe_imp (pe_bm0 pa slot hty hm ho hbase hline) fun σ H Q ⟨env, S, Qd, W, hE, hA, hT, hu, hk⟩ => ⟨env, S, _, W, hE, hA, hT, hu, fun v d H1 S1 t1 r1 a1 ⟨ht, q1⟩ => ⟨isTy_rep a1 r1 ht, S1, d, [], Qd, a1, r1, .nil, q1, fun v d H' S' t r a q => hk _ _ _ _ (t1.trans t) r a q⟩⟩
theorem de_bm (pa : PlainAttrs T) (slot : Slot T name id) (hty : typeOf (.builtin id) = pure (.type "method_descriptor")) (hm : MtR X id (rDM X.K g)) (ho : DE X o uo) (ha : DA X (e :: es) ra)
    (hbase : attributeBase o name X.env (eval o X.env) = eval o X.env := by rfl)
    (hfew : ((backTo cpos (starEach (e :: es) X.env)).all (fun x => !x.1) && (backToKw cpos (keywordEach [] X.env)).all (fun x => x.1.isSome)
      && decide ((e :: es).length + ([] : List Keyword).length + (if ([] : List Keyword).isEmpty then 0 else 1) < 30)) = true := by rfl)
    (hline : (apos.endLine == cpos.line) = true := by rfl) (hs : starEach (e :: es) X.env = (false, eval e X.env) :: starEach es X.env := by rfl) (hplain : (backTo cpos (starEach es X.env)).any (·.1) = false := by rfl) :
    DE X (.Call (.Attribute o name apos) (e :: es) [] cpos) (uBM T g uo ra) :=
  pe_imp (pe_bm pa slot hty hm ho ha hbase hfew hline hs hplain) fun σ H Q ⟨env, S, Qd, W, hE, hA, hT, hu, hk⟩ => ⟨env, S, _, W, hE, hA, hT, hu, fun v d H1 S1 t1 r1 a1 ⟨ht, q1⟩ => ⟨isTy_rep a1 r1 ht, env, S1, _, W, hE.keep t1, a1, tstep hT t1, q1, fun vs ds H2 S2 t2 r2 a2 q2 =>
    ⟨S2, d, ds, Qd, a2, r1.keep t2, r2, q2, fun v d H' S' t r a q => hk _ _ _ _ ((t1.trans t2).trans t) r a q⟩⟩⟩
/-! lists -/
def gAppend : GM := fun d ds S Q => ∃ a xs y, d = .ref a ∧ ds = [y] ∧ S a = some (.lst xs) ∧ xs.length < sizeLine ∧ Q .non (sup S a (.lst (xs ++ [y])))
def gExtend : GM := fun d ds S Q => ∃ a b xs ys, d = .ref a ∧ ds = [.ref b] ∧ S a = some (.lst xs) ∧ S b = some (.lst ys) ∧ xs.length + ys.length ≤ sizeLine ∧ Q .non (sup S a (.lst (xs ++ ys)))
def gPop : GM := fun d ds S Q => ∃ a xs y, d = .ref a ∧ ds = [] ∧ S a = some (.lst xs) ∧ xs[xs.length - 1]? = some y ∧ Q y (sup S a (.lst xs.dropLast))
def gPopAt : GM := fun d ds S Q => ∃ a xs i k y, d = .ref a ∧ ds = [.int i] ∧ S a = some (.lst xs) ∧ -(2 ^ 63) ≤ i ∧ i < 2 ^ 63 ∧ seqIndex? i xs.length = some k ∧ xs[k]? = some y ∧ Q y (sup S a (.lst (xs.eraseIdx k)))
theorem RepL.dropLast {K : PySem.W.Frag} {H : Hp} {ds : List D} {vs : List V} (r : RepL K H ds vs) : RepL K H ds.dropLast vs.dropLast := by
  rw [List.dropLast_eq_take, List.dropLast_eq_take, r.length]
  exact r.take _
theorem RepL.eraseIdx {K : PySem.W.Frag} {H : Hp} : ∀ {ds : List D} {vs : List V} (k : Nat), RepL K H ds vs → RepL K H (ds.eraseIdx k) (vs.eraseIdx k)
  | [], vs, _, h => by rw [repL_nil.mp h]; simp [RepL]
  | d :: ds, vs, k, h => by
    obtain ⟨v, r, ev, h1, h2⟩ := repL_cons.mp h
    subst ev
    cases k with
    | zero => exact h2
    | succ k => exact .cons h1 (RepL.eraseIdx k h2)
theorem md_append : MtR X "list.append" (rDM X.K gAppend) := fun pins s σ H x xs v us Q I rx rv ⟨S, d, ds, Qd, hA, r, rr, ⟨a, ys, y, ed, eds, es, hl, q⟩, hk⟩ => by
  subst ed eds
  rw [rep_ref] at r; subst r
  obtain ⟨w, rfl, rw'⟩ := rep1 rr
  obtain ⟨vs, eh, r2⟩ := hA.getL es
  have m : Mut (H a) := by rw [eh]; exact True.intro
  have t : TK X.K H (upd H a (.lst (vs ++ [w]))) := .mut m
  exact mt_append pins s σ H _ _ v us Q I rx rv ⟨a, vs, w, rfl, rfl, eh, by rw [r2.length]; exact hl, hk _ _ _ _ t (rep_non.mpr rfl) (hA.put m (.mkL upd_same ((r2.append (.cons rw' .nil)).keep t))) q⟩
theorem md_extend : MtR X "list.extend" (rDM X.K gExtend) := fun pins s σ H x xs v us Q I rx rv ⟨S, d, ds, Qd, hA, r, rr, ⟨a, b, ys, zs, ed, eds, es, eb, hl, q⟩, hk⟩ => by
  subst ed eds
  rw [rep_ref] at r; subst r
  obtain ⟨w, rfl, rw'⟩ := rep1 rr
  rw [rep_ref] at rw'; subst rw'
  obtain ⟨vs, eh, r2⟩ := hA.getL es
  obtain ⟨ws, ew, r3⟩ := hA.getL eb
  have m : Mut (H a) := by rw [eh]; exact True.intro
  have t : TK X.K H (upd H a (.lst (vs ++ ws))) := .mut m
  exact mt_extend pins s σ H _ _ v us Q I rx rv ⟨a, b, vs, ws, rfl, rfl, eh, ew, by rw [r2.length, r3.length]; exact hl, hk _ _ _ _ t (rep_non.mpr rfl) (hA.put m (.mkL upd_same ((r2.append r3).keep t))) q⟩
theorem md_pop : MtR X "list.pop" (rDM X.K gPop) := fun pins s σ H x xs v us Q I rx rv ⟨S, d, ds, Qd, hA, r, rr, ⟨a, ys, y, ed, eds, es, hy, q⟩, hk⟩ => by
  subst ed eds
  rw [rep_ref] at r; subst r
  rw [repL_nil] at rr; subst rr
  obtain ⟨vs, eh, r2⟩ := hA.getL es
  obtain ⟨w, hw, rw'⟩ := r2.get hy
  have m : Mut (H a) := by rw [eh]; exact True.intro
  have t : TK X.K H (upd H a (.lst vs.dropLast)) := .mut m
  exact mt_pop pins s σ H _ _ v us Q I rx rv ⟨a, vs, w, rfl, rfl, eh, by rw [r2.length]; exact hw, hk _ _ _ _ t (rw'.keep t) (hA.put m (.mkL upd_same (r2.dropLast.keep t))) q⟩
theorem md_popAt : MtR X "list.pop" (rDM X.K gPopAt) := fun pins s σ H x xs v us Q I rx rv ⟨S, d, ds, Qd, hA, r, rr, ⟨a, ys, i, k, y, ed, eds, es, h1, h2, h3, hy, q⟩, hk⟩ => by
  subst ed eds
  rw [rep_ref] at r; subst r
  obtain ⟨w0, rfl, rw0⟩ := rep1 rr
  rw [rep_int] at rw0; subst rw0
  obtain ⟨vs, eh, r2⟩ := hA.getL es
  obtain ⟨w, hw, rw'⟩ := r2.get hy
  have m : Mut (H a) := by rw [eh]; exact True.intro
  have t : TK X.K H (upd H a (.lst (vs.eraseIdx k))) := .mut m
  exact mt_popAt pins s σ H _ _ v us Q I rx rv ⟨a, vs, i, k, w, rfl, rfl, eh, h1, h2, by rw [r2.length]; exact h3, hw, hk _ _ _ _ t (rw'.keep t) (hA.put m (.mkL upd_same ((r2.eraseIdx k).keep t))) q⟩
/-! texts -/
def gM (f : D → List D → Option D) : GM := fun d ds S Q => ∃ z, f d ds = some z ∧ Q z S
def sFind (x y : List Nat) : Int := Txt.find (tx x) (tx y)
def sRfind (x y : List Nat) : Int := Txt.rfind (tx x) (tx y)
def sSplit (x y : List Nat) : List (List Nat) := (Txt.split (tx x) (tx y)).map (·.cps.toList)
def sPart (x y : List Nat) : List Nat × List Nat × List Nat := ((Txt.partition (tx x) (tx y)).1.cps.toList, (Txt.partition (tx x) (tx y)).2.1.cps.toList, (Txt.partition (tx x) (tx y)).2.2.cps.toList)
def sLstrip (x y : List Nat) : List Nat := (Txt.lstripChars (tx x) (tx y)).cps.toList
def mFind : D → List D → Option D
  | .str x, [.str y] => some (.int (sFind x y))
  | _, _ => none
def mRfind : D → List D → Option D
  | .str x, [.str y] => some (.int (sRfind x y))
  | _, _ => none
def mPart : D → List D → Option D
  | .str x, [.str y] => if y ≠ [] ∧ x.length ≤ sizeLine then some (.tup [.str (sPart x y).1, .str (sPart x y).2.1, .str (sPart x y).2.2]) else none
  | _, _ => none
def mLstrip : D → List D → Option D
  | .str x, [.str y] => if x.length ≤ sizeLine then some (.str (sLstrip x y)) else none
  | _, _ => none
def gSplit : GM := fun d ds S Q => ∃ x y, d = .str x ∧ ds = [.str y] ∧ y ≠ [] ∧ x.length + 2 ≤ sizeLine ∧ ∀ p, S p = none → Q (.ref p) (sup S p (.lst ((sSplit x y).map .str)))
def strsOf : List D → Option (List (List Nat))
  | [] => some []
  | .str x :: r => (strsOf r).map (x :: ·)
  | _ => none
def sJoin (x : List Nat) (ys : List (List Nat)) : List Nat := (Txt.join (tx x) (ys.map tx)).cps.toList
end
end SL

set_option Elab.async false
set_option linter.all false
set_option maxRecDepth 100000
set_option maxHeartbeats 4000000
/-! SL10: methods of texts. -/
namespace SL
open PySem PySem.Spec L2
section
variable {X : Cx}
theorem gm_of {id : String} {f : D → List D → Option D} (h : ∀ (pins : List (Addr × Obj)) (s : Shared) (σ : L2.St) (H : Hp) (x : V) (xs : List V) (v : Value) (us : List Value) (Q : VK) (d : D) (ds : List D) (z : D), Inv X pins σ H s → RelV x v → Vals xs us → Rep X.K H d x → RepL X.K H ds xs → f d ds = some z →
    (∀ w H', Same H H' → Rep X.K H' z w → Q w H') → wpAny (model X.prog X.w) X.A (call (.builtin id) (v :: us)) (EP X pins σ Q) X.xe s) : MtR X id (rDM X.K (gM f)) := fun pins s σ H x xs v us Q I rx rv ⟨S, d, ds, Qd, hA, r, rr, ⟨z, hz, q⟩, hk⟩ =>
  h pins s σ H x xs v us Q d ds z I rx rv r rr hz fun w H' sm rz => hk w z H' S (.of_same sm) rz (hA.same sm) q
theorem md_find : MtR X "str.find" (rDM X.K (gM mFind)) := gm_of fun pins s σ H x xs v us Q d ds z I rx rv r rr hz k => by
  unfold mFind at hz
  split at hz
  · cases hz
    rw [rep_str] at r; subst r
    obtain ⟨w, rfl, rw'⟩ := rep1 rr
    rw [rep_str] at rw'; subst rw'
    exact mt_find pins s σ H _ _ v us Q I rx rv ⟨_, _, rfl, rfl, k _ H (Same.refl H) (rep_int.mpr rfl)⟩
  · cases hz
theorem md_rfind : MtR X "str.rfind" (rDM X.K (gM mRfind)) := gm_of fun pins s σ H x xs v us Q d ds z I rx rv r rr hz k => by
  unfold mRfind at hz
  split at hz
  · cases hz
    rw [rep_str] at r; subst r
    obtain ⟨w, rfl, rw'⟩ := rep1 rr
    rw [rep_str] at rw'; subst rw'
    exact mt_rfind pins s σ H _ _ v us Q I rx rv ⟨_, _, rfl, rfl, k _ H (Same.refl H) (rep_int.mpr rfl)⟩
  · cases hz
theorem md_lstrip : MtR X "str.lstrip" (rDM X.K (gM mLstrip)) := gm_of fun pins s σ H x xs v us Q d ds z I rx rv r rr hz k => by
  unfold mLstrip at hz
  split at hz
  · split at hz
    · rename_i hl
      cases hz
      rw [rep_str] at r; subst r
      obtain ⟨w, rfl, rw'⟩ := rep1 rr
      rw [rep_str] at rw'; subst rw'
      exact mt_lstripChars pins s σ H _ _ v us Q I rx rv ⟨_, _, rfl, rfl, by rw [tx_len]; exact hl, k _ H (Same.refl H) (rep_str.mpr (by unfold sLstrip; rw [tx_of]))⟩
    · cases hz
  · cases hz
theorem tx_ne {y : List Nat} (h : y ≠ []) : ((tx y).length == 0) = false := by
  rw [tx_len, beq_eq_false_iff_ne]
  exact fun e => h (List.length_eq_zero_iff.mp e)
theorem md_part : MtR X "str.partition" (rDM X.K (gM mPart)) := gm_of fun pins s σ H x xs v us Q d ds z I rx rv r rr hz k => by
  unfold mPart at hz
  split at hz
  · split at hz
    · rename_i hl
      cases hz
      rw [rep_str] at r; subst r
      obtain ⟨w, rfl, rw'⟩ := rep1 rr
      rw [rep_str] at rw'; subst rw'
      refine mt_partition pins s σ H _ _ v us Q I rx rv ⟨_, _, rfl, rfl, tx_ne hl.1, by rw [tx_len]; exact hl.2, fun p hp => k _ _ (Same.new hp) (.newTup hp ?_)⟩
      refine .cons (rep_str.mpr ?_) (.cons (rep_str.mpr ?_) (.cons (rep_str.mpr ?_) .nil)) <;> (unfold sPart; rw [tx_of])
    · cases hz
  · cases hz
theorem rep_strs {K : PySem.W.Frag} {H : Hp} : ∀ l : List Str, RepL K H ((l.map (·.cps.toList)).map D.str) (l.map V.str)
  | [] => .nil
  | x :: r => .cons (rep_str.mpr (by rw [tx_of])) (rep_strs r)
theorem md_split : MtR X "str.split" (rDM X.K gSplit) := fun pins s σ H x xs v us Q I rx rv ⟨S, d, ds, Qd, hA, r, rr, ⟨y, z, ed, eds, hne, hl, q⟩, hk⟩ => by
  subst ed eds
  rw [rep_str] at r; subst r
  obtain ⟨w, rfl, rw'⟩ := rep1 rr
  rw [rep_str] at rw'; subst rw'
  refine mt_split pins s σ H _ _ v us Q I rx rv ⟨_, _, rfl, rfl, tx_ne hne, by rw [tx_len]; exact hl, fun p hp => hk _ _ _ _ (.new hp) (rep_ref.mpr rfl) (hA.newL hp ?_) (q p (hA.fresh hp))⟩
  exact rep_strs _
theorem strs_rep {K : PySem.W.Frag} {H : Hp} : ∀ {ds : List D} {vs : List V} {l : List (List Nat)}, RepL K H ds vs → strsOf ds = some l → vs = (l.map tx).map V.str
  | [], vs, l, r, h => by cases h; exact repL_nil.mp r
  | d :: ds, vs, l, r, h => by
    obtain ⟨v, t, e, h1, h2⟩ := repL_cons.mp r
    subst e
    cases d with
    | str x =>
      simp only [strsOf, Option.map_eq_some_iff] at h
      obtain ⟨m, hm, rfl⟩ := h
      rw [rep_str] at h1; subst h1
      rw [strs_rep h2 hm]
      rfl
    | _ => simp [strsOf] at h
/-- sep.join(xs) -/
def gJoin : GM := fun d ds S Q => ∃ x e xs l, d = .str x ∧ ds = [e] ∧ seqOf S e = some xs ∧ strsOf xs = some l ∧ (l.map List.length).sum + x.length * l.length ≤ 16777216 ∧ Q (.str (sJoin x l)) S
end
end SL
namespace SL
open PySem PySem.Spec L2
section
variable {X : Cx}
def gJoin' : GM := fun d ds S Q => ∃ x e xs l, d = .str x ∧ ds = [e] ∧ seqOf S e = some xs ∧ strsOf xs = some l ∧ (l.map List.length).sum + l.length * x.length ≤ 16777216 ∧ Q (.str (sJoin x l)) S
theorem md_join : MtR X "str.join" (rDM X.K gJoin') := fun pins s σ H x xs v us Q I rx rv ⟨S, d, ds, Qd, hA, r, rr, ⟨y, e, zs, l, ed, eds, hs, hl, hz, q⟩, hk⟩ => by
  subst ed eds
  rw [rep_str] at r; subst r
  obtain ⟨w, rfl, rw'⟩ := rep1 rr
  obtain ⟨a, vs, rfl, hq, r2⟩ := seqOf_rep hA rw' hs
  have ev := strs_rep r2 hl
  subst ev
  refine mt_join pins s σ H _ _ v us Q I rx rv ⟨_, a, l.map tx, rfl, rfl, hq, ?_, hk _ _ _ _ (.refl _ _) (rep_str.mpr (by unfold sJoin; rw [tx_of])) hA q⟩
  rw [tx_len, List.length_map, List.map_map]
  have e2 : ((fun s : Str => s.length) ∘ tx) = List.length := by funext z; exact tx_len z
  rw [e2]
  exact hz
end
end SL

set_option Elab.async false
set_option linter.all false
set_option maxRecDepth 100000
set_option maxHeartbeats 4000000
/-! SL11: facts of a text's defs and classes, as one uses them. -/
namespace SL
open PySem PySem.Spec L2 ClX
abbrev gId : List D → List D → List D := fun ds _ => ds
abbrev gApp : List D → List D → List D := fun ds es => ds ++ es
abbrev gNon : List D → List D → List D := fun ds _ => ds ++ [.non]
section
variable (P : Program) (w : World) (K : PySem.W.Frag) (mg : Str → Option Value) (base : Heap)
/-- the def x keeps sp; called by n values and keywords ks -/
def FF (x : Str) (k : Nat) (ps : List Str) (sp : FS) (n : Nat) (ks : List Str) (gD : List D → List D → List D) : Prop :=
  ∃ f fd, mg x = some (.ref f) ∧ PySem.W.keepIn K (.ref f) = true ∧ FnD P w K mg base k f fd ps sp ∧ Shp K fd ps n ks gD
/-- the method m of C -/
def MF (C : Addr) (m : Str) (k : Nat) (ps : List Str) (sp : FS) (n : Nat) (ks : List Str) (gD : List D → List D → List D) : Prop :=
  ∃ f fd, Cls K C ∧ Meth K C m f ∧ FnD P w K mg base k f fd ps sp ∧ Shp K fd ps (n + 1) ks gD
/-- the class x, made -/
def KF (x : Str) (C : Addr) (k : Nat) (ps : List Str) (sp : FS) (n : Nat) (ks : List Str) (gD : List D → List D → List D) : Prop :=
  ∃ f fd, mg x = some (.ref C) ∧ Mk K C f ∧ FnD P w K mg base k f fd ps sp ∧ Shp K fd ps (n + 1) ks gD
/-- the property m of C -/
def PF (C : Addr) (m : Str) (k : Nat) (ps : List Str) (sp : FS) : Prop :=
  ∃ pp g fd, Cls K C ∧ PropOf K C m pp g ∧ FnD P w K mg base k g fd ps sp ∧ Binds K fd ps [] ∧ ps.length = 1
/-- the classmethod m of C -/
def CF (C : Addr) (m : Str) (k : Nat) (ps : List Str) (sp : FS) (n : Nat) : Prop :=
  ∃ mc pp g fd, CRead K C mc ∧ CMet K C mc m pp g ∧ FnD P w K mg base k g fd ps sp ∧ Binds K fd ps [] ∧ n + 1 = ps.length
/-- the constant x -/
def GC (x : Str) (d : D) : Prop := ∃ v u, mg x = some u ∧ RelV v u ∧ ∀ H, Rep K H d v
end
section
variable {X : Cx} {k j n : Nat} {C : Addr} {ps ks : List Str} {sp : FS} {gD : List D → List D → List D} {x m : Str} {p pos apos : Pos} {e o : Expr} {es : List Expr} {kws : List Keyword} {ra : UAK} {uo : UE}
theorem hu64 (hr : Room k X.A) : X.A.units + 64 < cLine := hr.units
theorem hu65 (hr : Room k X.A) : X.A.units + 65 < cLine := by have := hr.un; omega
theorem de_ff (h : FF X.prog X.w X.K X.mg X.base x k ps sp n ks gD) (hr : Room j X.A) (ha : DArgs X es kws pos n ks ra) (hk : k ≤ j := by decide) (hg : Gl X x := by rfl) (hdb : (x == ("__debug__" : Str)) = false := by decide) : DE X (.Call (.Name x p) es kws pos) (uCall sp gD ra) := by
  obtain ⟨f, fd, h1, h2, h3, h4⟩ := h
  exact de_call h3 (hr.mono hk) h1 h2 h4 ha hg hdb
theorem de_mf {pl : Sem Bool} (he : DE X o uo) (h : MF X.prog X.w X.K X.mg X.base C m k ps sp n ks gD) (hr : Room j X.A) (ha : DArgs X es kws pos n ks ra) (hk : k ≤ j := by decide)
    (ht : eval (.Call (.Attribute o m apos) es kws pos) X.env = (do
      let ov ← eval o X.env
      standAt apos.atName
      let (f, first) ← holding [ov] (getMethod ov m pl)
      callWith pos f first (backTo pos (starEach es X.env)) (backToKw pos (keywordEach kws X.env))) := by rfl) : DE X (.Call (.Attribute o m apos) es kws pos) (uMeth C m sp gD uo ra) := by
  obtain ⟨f, fd, h1, h2, h3, h4⟩ := h
  exact de_meth he h1 h2 h3 (hr.mono hk) h4 ha ht
theorem de_kf (h : KF X.prog X.w X.K X.mg X.base x C k ps sp n ks gD) (hr : Room j X.A) (ha : DArgs X es kws pos n ks ra) (hk : k + 1 ≤ j := by decide) (hg : Gl X x := by rfl) (hdb : (x == ("__debug__" : Str)) = false := by decide) : DE X (.Call (.Name x p) es kws pos) (uMake C sp gD ra) := by
  obtain ⟨f, fd, h1, h2, h3, h4⟩ := h
  exact de_make h2 h3 (hr.mono hk) h1 h4 ha hg hdb
theorem de_kfv (i : Nat) {y : Str} (h : KF X.prog X.w X.K X.mg X.base x C k ps sp n ks gD) (hr : Room j X.A) (ha : DArgs X es kws pos n ks ra) (hk : k + 1 ≤ j := by decide) (hN : X.N[i]? = some y := by rfl) (hv : Vis X.env.scope y := by first | exact Or.inl rfl | exact Or.inr (Or.inl rfl) | exact Or.inr (Or.inr rfl)) (hd : (y == ("__debug__" : Str)) = false := by decide)
    (hcd : (y == ("__classdict__" : Str)) = false := by decide) : DE X (.Call (.Name y p) es kws pos) (uMakeV i C sp gD ra) := by
  obtain ⟨f, fd, h1, h2, h3, h4⟩ := h
  exact de_makeV i h2 h3 (hr.mono hk) h4 ha hN hv hd hcd
theorem de_pf (he : DE X o uo) (h : PF X.prog X.w X.K X.mg X.base C m k ps sp) (hr : Room j X.A) (hk : k + 1 ≤ j := by decide) (hab : attributeBase o m X.env (eval o X.env) = eval o X.env := by rfl) : DE X (.Attribute o m pos) (uProp C sp uo) := by
  obtain ⟨pp, g, fd, h1, h2, h3, h4, h5⟩ := h
  exact de_prop he h1 h2 h3 (hr.mono hk) h4 h5 hab
theorem de_cf {pl : Sem Bool} {rb : UA} (he : DE X o uo) (h : CF X.prog X.w X.K X.mg X.base C m k ps sp n) (hr : Room j X.A) (ha : DA X (e :: es) rb) (hl : es.length + 1 = n := by rfl) (hk : k ≤ j := by decide)
    (hst : starEach (e :: es) X.env = (false, eval e X.env) :: starEach es X.env := by rfl) (hpl : (backTo pos (starEach es X.env)).any (·.1) = false := by rfl)
    (ht : eval (.Call (.Attribute o m apos) (e :: es) [] pos) X.env = (do
      let ov ← eval o X.env
      standAt apos.atName
      let (f, first) ← holding [ov] (getMethod ov m pl)
      callWith pos f first (backTo pos (starEach (e :: es) X.env)) (backToKw pos (keywordEach [] X.env))) := by rfl) :
    DE X (.Call (.Attribute o m apos) (e :: es) [] pos) (uCMeth C (fun ds S Q X => ds.length = ps.length ∧ sp ds S Q X) uo rb) := by
  obtain ⟨mc, pp, g, fd, h1, h2, h3, h4, h5⟩ := h
  exact de_cmeth he h1 h2 h3 (hr.mono hk) h4 ha (by omega) hst hpl ht
theorem de_gc {d : D} (h : GC X.K X.mg x d) (hg : Gl X x := by rfl) (hd : (x == ("__debug__" : Str)) = false := by decide) : DE X (.Name x pos) (uC d) := by
  obtain ⟨v, u, h1, h2, h3⟩ := h
  exact de_glob hg h1 h2 h3 hd
/-- a class as a value -/
theorem de_cls (hm : X.mg x = some (.ref C)) (hg : Gl X x := by rfl) (hd : (x == ("__debug__" : Str)) = false := by decide) : DE X (.Name x pos) (uC (.ref C)) := de_glob hg hm (v := .ref C) rfl (fun _ => rep_ref.mpr rfl) hd
end
section
variable {P : Program} {w : World} {K : PySem.W.Frag} {mg : Str → Option Value} {base : Heap}
theorem ff_of {x : Str} {f : Addr} {fd : FuncData} {k n : Nat} {ps ks : List Str} {sp : FS} {gD : List D → List D → List D} (hm : mg x = some (.ref f)) (hk : PySem.W.keepIn K (.ref f) = true) (F : FnD P w K mg base k f fd ps sp) (sh : Shp K fd ps n ks gD) : FF P w K mg base x k ps sp n ks gD := ⟨f, fd, hm, hk, F, sh⟩
end
end SL

set_option Elab.async false
set_option linter.all false
set_option maxRecDepth 100000
set_option maxHeartbeats 4000000
/-! SL12: dicts of ints and texts, a text many times, isinstance of an error. -/
namespace SL
open PySem PySem.Spec L2 ClX

/-! ### dicts -/
def dvl (k : Key) : List (Key × D) → Option D
  | [] => none
  | (j, d) :: r => if j = k then some d else dvl k r
def dhas (k : Key) (kvs : List (Key × D)) : Bool := kvs.any fun kv => decide (kv.1 = k)
def dput (k : Key) (d : D) (kvs : List (Key × D)) : List (Key × D) :=
  if dhas k kvs = true then kvs.map (fun kv => if kv.1 = k then (kv.1, d) else kv) else kvs ++ [(k, d)]
theorem dhas_dvl {k : Key} : ∀ {kvs : List (Key × D)}, dhas k kvs = (dvl k kvs).isSome
  | [] => rfl
  | (j, d) :: r => by
    unfold dhas dvl
    rw [List.any_cons]
    by_cases e : j = k
    · simp [e]
    · rw [if_neg e]
      simp only [e, decide_false, Bool.false_or]
      exact dhas_dvl (kvs := r)
section
variable {K : PySem.W.Frag} {H : Hp} {k : Key}
theorem dicR_cons {j : Key} {d : D} {r : List (Key × D)} {vk : List (Key × V)} : DicR K H ((j, d) :: r) vk ↔ ∃ v t, vk = (j, v) :: t ∧ Rep K H d v ∧ DicR K H r t := by
  constructor
  · rintro ⟨h1, h2⟩
    cases vk with
    | nil => simp at h1
    | cons p t =>
      obtain ⟨j', v⟩ := p
      simp only [List.map_cons, List.cons.injEq] at h1
      obtain ⟨e1, h1⟩ := h1
      simp only [List.map_cons] at h2
      obtain ⟨r1, r2⟩ := h2.uncons
      subst e1
      exact ⟨v, t, rfl, r1, h1, r2⟩
  · rintro ⟨v, t, rfl, r1, r2⟩
    exact ⟨by simp [r2.1], .cons r1 r2.2⟩
theorem dicR_nil {vk : List (Key × V)} : DicR K H [] vk ↔ vk = [] := by
  constructor
  · rintro ⟨h1, h2⟩; simpa using h1
  · rintro rfl; exact ⟨rfl, .nil⟩
theorem DicR.val : ∀ {kvs : List (Key × D)} {vk : List (Key × V)} {d : D}, DicR K H kvs vk → dvl k kvs = some d → ∃ v, valV vk k = some v ∧ Rep K H d v
  | [], vk, d, h, e => by cases e
  | (j, x) :: r, vk, d, h, e => by
    obtain ⟨v, t, rfl, r1, r2⟩ := dicR_cons.mp h
    unfold dvl at e
    by_cases q : j = k
    · rw [if_pos q] at e; cases e; exact ⟨v, valV_pos q, r1⟩
    · rw [if_neg q] at e; rw [valV_neg q]; exact DicR.val r2 e
theorem DicR.any : ∀ {kvs : List (Key × D)} {vk : List (Key × V)}, DicR K H kvs vk → (vk.any fun kv => decide (kv.1 = k)) = dhas k kvs
  | [], vk, h => by rw [dicR_nil.mp h]; rfl
  | (j, x) :: r, vk, h => by
    obtain ⟨v, t, rfl, r1, r2⟩ := dicR_cons.mp h
    unfold dhas
    rw [List.any_cons, List.any_cons, DicR.any r2]
    rfl
theorem DicR.repl {y : D} {v : V} (ry : Rep K H y v) : ∀ {kvs : List (Key × D)} {vk : List (Key × V)}, DicR K H kvs vk → DicR K H (kvs.map fun kv => if kv.1 = k then (kv.1, y) else kv) (vk.map fun kv => if kv.1 = k then (kv.1, v) else kv)
  | [], vk, h => by rw [dicR_nil.mp h]; exact dicR_nil.mpr rfl
  | (j, x) :: r, vk, h => by
    obtain ⟨w, t, rfl, r1, r2⟩ := dicR_cons.mp h
    rw [List.map_cons, List.map_cons]
    have ih := DicR.repl ry r2
    by_cases q : j = k
    · simp only [q, if_true]; exact dicR_cons.mpr ⟨_, _, rfl, ry, by simpa [q] using ih⟩
    · simp only [q, if_false]; exact dicR_cons.mpr ⟨_, _, rfl, r1, by simpa [q] using ih⟩
theorem DicR.app : ∀ {kvs kvs' : List (Key × D)} {vk vk' : List (Key × V)}, DicR K H kvs vk → DicR K H kvs' vk' → DicR K H (kvs ++ kvs') (vk ++ vk')
  | [], _, vk, _, h, h' => by rw [dicR_nil.mp h]; exact h'
  | (j, x) :: r, _, vk, _, h, h' => by
    obtain ⟨w, t, rfl, r1, r2⟩ := dicR_cons.mp h
    exact dicR_cons.mpr ⟨_, _, rfl, r1, r2.app h'⟩
theorem DicR.put {y : D} {v : V} {kvs : List (Key × D)} {vk : List (Key × V)} (ry : Rep K H y v) (h : DicR K H kvs vk) : DicR K H (dput k y kvs) (putK vk k v) := by
  unfold dput putK
  rw [h.any]
  split
  · exact h.repl ry
  · exact h.app (dicR_cons.mpr ⟨_, _, rfl, ry, dicR_nil.mpr rfl⟩)
theorem DicR.length {kvs : List (Key × D)} {vk : List (Key × V)} (h : DicR K H kvs vk) : vk.length = kvs.length := by
  have := congrArg List.length h.1
  simpa using this
end
theorem AbsS.getD {K : PySem.W.Frag} {H : Hp} {S : SS} {a : Addr} {kvs : List (Key × D)} (h : AbsS K H S) (e : S a = some (.dic kvs)) : ∃ vk, H a = some (.dK vk) ∧ DicR K H kvs vk := h a _ e
theorem ObR.mkD {K : PySem.W.Frag} {H : Hp} {a : Addr} {kvs : List (Key × D)} {vk : List (Key × V)} (e : H a = some (.dK vk)) (r : DicR K H kvs vk) : ObR K H a (.dic kvs) := ⟨vk, e, r⟩
def keyOf : D → Option Key
  | .int i => some (.inl i)
  | .str x => some (.inr (tx x))
  | _ => none
theorem keyOf_rep {K : PySem.W.Frag} {H : Hp} {d : D} {v : V} {k : Key} (r : Rep K H d v) (h : keyOf d = some k) : v = kV k := by
  cases d <;> simp only [keyOf] at h <;> cases h
  · rw [rep_int] at r; exact r
  · rw [rep_str] at r; exact r
/-- o[k], o a dict -/
def uDGet (uo uk : UE) : UE := fun env S Q X => uo env S (fun o S1 => uk env S1 (fun i S2 => ∃ a kvs k d, o = .ref a ∧ S2 a = some (.dic kvs) ∧ keyOf i = some k ∧ dvl k kvs = some d ∧ Q d S2) X) X
/-- o[k] = e -/
def usDPut (uo uk ue : UE) : US := fun D env S => ue env S (fun d S1 => uo env S1 (fun o S2 => uk env S2 (fun i S3 => ∃ a kvs k, o = .ref a ∧ S3 a = some (.dic kvs) ∧ keyOf i = some k ∧ kvs.length < 1000 ∧ D.nx env (sup S3 a (.dic (dput k d kvs)))) (fun c fs S1 => D.ex c fs env S1)) (fun c fs S1 => D.ex c fs env S1)) (fun c fs S1 => D.ex c fs env S1)
/-- the pairs of a display with written keys -/
def uDsp (ks : List Key) (ra : UA) : UE := fun env S Q X => ∀ p, S p = none → ra env (sup S p (.dic [])) (fun ds S1 => S1 p = some (.dic []) ∧ ds.length = ks.length ∧ Q (.ref p) (sup S1 p (.dic ((ks.zip ds).foldl (fun a kv => dput kv.1 kv.2 a) [])))) X
section
variable {X : Cx} {k : Nat} {o i e : Expr} {uo ui u : UE} {pos pos' : Pos}
theorem hu1 (hr : Room k X.A) : X.A.units + 1 < cLine := by have := hr.un; omega
theorem de_dget (hr : Room k X.A) (ho : DE X o uo) (hi : DE X i ui) (hs : NoSl i := by intro _ _; rfl) : DE X (.Subscript o i pos) (uDGet uo ui) :=
  pe_imp (pe_dget (hu1 hr) ho hi hs) fun σ H Q ⟨env, S, Qd, W, hE, hA, hT, hu, hk⟩ => ⟨env, S, _, W, hE, hA, hT, hu, fun v od H1 S1 t1 r1 a1 q1 => ⟨env, S1, _, W, hE.keep t1, a1, tstep hT t1, q1, fun v2 id H2 S2 t2 r2 a2 ⟨a, kvs, k, d, eo, es, ek, ed, q2⟩ => by
    subst eo
    rw [rep_ref] at r1; subst r1
    obtain ⟨vk, eh, rk⟩ := a2.getD es
    obtain ⟨w, ew, rw'⟩ := rk.val ed
    have := keyOf_rep r2 ek
    subst this
    exact ⟨a, w, rfl, by rw [← ew]; exact .k eh, hk _ _ _ _ (t1.trans t2) rw' a2 q2⟩⟩⟩
theorem ds_dput (hr : Room k X.A) (ho : DE X o uo) (hi : DE X i ui) (he : DE X e u) (hs : swapsWith e (some (.Subscript o i pos')) pos.line X.env = pure false := by rfl) : DS X (.Assign [.Subscript o i pos'] e pos) (usDPut uo ui u) :=
  ps_imp (ps_dput (hu1 hr) ho hi he hs) fun D σ H ⟨env, S, E, hE, hA, hT, hu, hn, hr, hb, hc⟩ => ⟨env, S, _, E.ex, hE, hA, hT, hu, fun v d H1 S1 t1 r1 a1 q1 => ⟨env, S1, _, E.ex, hE.keep t1, a1, tstep hT t1, q1, fun vo od H2 S2 t2 r2 a2 q2 =>
    ⟨env, S2, _, E.ex, hE.keep (t1.trans t2), a2, tstep hT (t1.trans t2), q2, fun vi id H3 S3 t3 r3 a3 ⟨a, kvs, k, eo, es, ek, hl, q3⟩ => by
    subst eo
    rw [rep_ref] at r2; subst r2
    obtain ⟨vk, eh, rk⟩ := a3.getD es
    have := keyOf_rep r3 ek
    subst this
    have m : Mut (H3 a) := by rw [eh]; exact True.intro
    have tt := (t1.trans t2).trans t3
    have t4 : TK X.K H3 (upd H3 a (.dK (putK vk k v))) := .mut m
    refine ⟨a, _, rfl, .k eh (by rw [rk.length, sizeLine_eq]; omega), hn _ _ _ _ (tt.trans t4) (hE.keep (tt.trans t4)) (a3.put m (.mkD upd_same ((rk.put (r1.keep (t2.trans t3))).keep t4))) q3⟩⟩⟩⟩
end
/-- the values of a display, each behind a key that is written -/
structure DPs (X : Cx) (pos : Pos) (keys : List (Option Expr)) (es : List Expr) (ks : List Key) (u : UA) : Prop where
  run : ∃ trs, PPs X pos keys es trs ∧ keys.all (·.isSome) = true ∧ keys.length = es.length ∧ ks.length = keys.length ∧ ∀ σ H (Q : List (V × V) → Hp → Prop), LA X u σ H (fun vs H' => Q ((ks.map kV).zip vs) H') → tPairs trs σ H Q
section
variable {X : Cx} {pos : Pos} {p : Nat} {keys : List (Option Expr)} {es : List Expr} {ks : List Key} {ra : UA} {e : Expr} {u : UE}
theorem dps_nil : DPs X pos [] [] [] uNil := ⟨[], pps_nil, rfl, rfl, rfl, fun σ H Q ⟨env, S, Qd, W, hE, hA, hT, hu, hk⟩ => hk _ _ _ _ (.refl _ _) .nil hA hu⟩
theorem dps_str {x : Str} {pp : Pos} (he : DE X e u) (h : DPs X pos keys es ks ra) : DPs X pos (some (.Constant (.str x) p pp) :: keys) (e :: es) (Sum.inr x :: ks) (uCons u ra) := by
  obtain ⟨trs, h1, h2, h3, h4, h5⟩ := h.run
  refine ⟨_, pps_cons pe_str he h1, by simpa using h2, by simp [h3], by simp [h4], fun σ H Q ⟨env, S, Qd, W, hE, hA, hT, hu, hk⟩ => ?_⟩
  refine ⟨env, S, _, W, hE, hA, hT, hu, fun v d H1 S1 t1 r1 a1 q1 => h5 _ _ _ ⟨env, S1, _, W, hE.keep t1, a1, tstep hT t1, q1, fun vs ds H2 S2 t2 r2 a2 q2 => hk _ _ _ _ (t1.trans t2) (.cons (r1.keep t2) r2) a2 q2⟩⟩
theorem DicR.merge {K : PySem.W.Frag} {H : Hp} : ∀ {ks : List Key} {ds : List D} {vs : List V} {kvs : List (Key × D)} {vk : List (Key × V)}, RepL K H ds vs → DicR K H kvs vk → DicR K H ((ks.zip ds).foldl (fun a kv => dput kv.1 kv.2 a) kvs) (mergeK vk (ks.zip vs))
  | [], ds, vs, kvs, vk, r, h => h
  | k :: ks, [], vs, kvs, vk, r, h => by rw [repL_nil.mp r]; exact h
  | k :: ks, d :: ds, vs, kvs, vk, r, h => by
    obtain ⟨v, t, rfl, r1, r2⟩ := repL_cons.mp r
    exact DicR.merge (ks := ks) r2 (h.put r1)
theorem de_dsp (h : DPs X pos keys es ks ra) (h0 : keys ≠ [] := by intro z; cases z) (h15 : ks.length ≤ 15 := by decide) : DE X (.Dict keys es pos) (uDsp ks ra) := by
  obtain ⟨trs, h1, h2, h3, h4, h5⟩ := h.run
  refine pe_imp (pe_disp h1 h2 h3 h0 (by omega)) fun σ H Q ⟨env, S, Qd, W, hE, hA, hT, hu, hk⟩ => fun p hp => ?_
  have t0 : TK X.K H (upd H p (.dK [])) := .new hp
  have hu := hu p (hA.fresh hp)
  refine h5 _ _ _ ⟨env, _, _, W, hE.keep t0, hA.new hp (.mkD upd_same (dicR_nil.mpr rfl)), tstep hT t0, hu, fun vs ds H2 S2 t2 r2 a2 ⟨es2, l2, q2⟩ => ?_⟩
  obtain ⟨vk, eh, rk⟩ := a2.getD es2
  rw [dicR_nil.mp rk] at eh
  have m : Mut (H2 p) := by rw [eh]; exact True.intro
  have t3 : TK X.K H2 (upd H2 p (.dK (mergeK [] (ks.zip vs)))) := .mut m
  refine ⟨eh, ks.zip vs, ?_, by rw [List.length_zip]; omega, hk _ _ _ _ ((t0.trans t2).trans t3) (rep_ref.mpr rfl) (a2.put m (.mkD upd_same (((dicR_nil.mpr rfl).merge (ks := ks) r2).keep t3))) q2⟩
  · rw [List.zip_map_left]; rfl
end

/-! ### a text many times -/
def dMulS : F2
  | _, .str x, .int n => if n.toNat ≤ 1000 ∧ x.length ≤ 1000 ∧ -(2 ^ 62) ≤ n then some (.str (List.replicate n.toNat x).flatten) else none
  | _, _, _ => none
def rMulS : R2 := fun x y H Q => ∃ (a : List Nat) (n : Int), x = .str (tx a) ∧ y = .int n ∧ n.toNat ≤ 1000 ∧ a.length ≤ 1000 ∧ -(2 ^ 62) ≤ n ∧ Q (.str (tx (List.replicate n.toNat a).flatten)) H
theorem foldl_app {a : List Nat} : ∀ {n : Nat} {acc : List Nat}, List.foldl (fun (x1 x2 : Array Nat) => x1 ++ x2) acc.toArray (List.replicate n a.toArray) = (acc ++ (List.replicate n a).flatten).toArray
  | 0, acc => by simp
  | n + 1, acc => by
    rw [List.replicate_succ, List.foldl_cons, List.replicate_succ, List.flatten_cons, ← List.append_assoc]
    have e : acc.toArray ++ a.toArray = (acc ++ a).toArray := by simp
    rw [e]
    exact foldl_app
theorem op_mulS {X : Cx} : OpR X (binaryOp .Mult) rMulS := by
  intro pins s σ H x y v u Q I rx ry h
  obtain ⟨a, n, rfl, rfl, hn, ha, hlo, q⟩ := h
  obtain ⟨t, rfl⟩ := rx
  obtain ⟨tu, rfl⟩ := ry
  refine P.mul_str (x := tx a) (n := n) (t := t) (u := tu) ?_ ?_ ?_ ?_
  · rw [decide_eq_false (by omega), decide_eq_false (by omega)]; rfl
  · intro h1 h2
    rw [tx_len]
    have h3 : (2 ^ 63 - 1 : Int) / 1000 ≤ (2 ^ 63 - 1) / n := by
      rw [Int.le_ediv_iff_mul_le (by omega)]
      have : (2 ^ 63 - 1 : Int) / 1000 * n ≤ (2 ^ 63 - 1 : Int) / 1000 * 1000 := Int.mul_le_mul_of_nonneg_left (by omega) (by decide)
      omega
    omega
  · intro h1 h2
    rw [tx_len]
    have : a.length * n.toNat ≤ 1000 * 1000 := Nat.mul_le_mul ha hn
    exact decide_eq_false (by rw [sizeLine_eq]; omega)
  · by_cases h1 : n < 1
    · rw [if_pos h1]
      have e : n.toNat = 0 := by omega
      rw [e] at q
      refine ⟨by decide, .str _, H, I.tok _, ⟨_, rfl⟩, q⟩
    · rw [if_neg h1]
      split
      · rename_i h2
        simp only [Bool.or_eq_true, beq_iff_eq, tx_len] at h2
        have e : (List.replicate n.toNat a).flatten = a := by
          rcases h2 with h2 | h2
          · subst h2; simp
          · have := List.length_eq_zero_iff.mp h2; subst this; simp
        rw [e] at q
        exact ⟨.str (tx a), H, I, ⟨_, rfl⟩, q⟩
      · have e : (⟨(List.replicate n.toNat (tx a).cps).foldl (· ++ ·) #[]⟩ : Str) = tx (List.replicate n.toNat a).flatten := by
          unfold tx
          have := foldl_app (a := a) (n := n.toNat) (acc := [])
          simp only [List.nil_append] at this
          exact congrArg Str.mk this
        rw [e]
        have hz : (tx (List.replicate n.toNat a).flatten).length ≤ 1000 * 1000 := by
          rw [tx_len]
          have e : (List.replicate n.toNat a).flatten.length = n.toNat * a.length := by simp
          rw [e]
          exact Nat.mul_le_mul hn ha
        refine ⟨by rw [sizeLine_eq]; omega, .str _, H, I.tok _, ⟨_, rfl⟩, q⟩
theorem od_mulS {X : Cx} : OpR X (binaryOp .Mult) (rD2 X.K dMulS) := by
  intro pins s σ H x y v u Q I rx ry ⟨S, d1, d2, z, hA, r1, r2, hz, k⟩
  unfold dMulS at hz
  split at hz
  · split at hz
    · rename_i c
      cases hz
      rw [rep_str] at r1; rw [rep_int] at r2; subst r1; subst r2
      exact op_mulS pins s σ H _ _ v u Q I rx ry ⟨_, _, rfl, rfl, c.1, c.2.1, c.2.2, k _ H (Same.refl H) (rep_str.mpr rfl)⟩
    · cases hz
  · cases hz

/-! ### isinstance of an error -/
theorem excC_kit {K : PySem.W.Frag} {D x : Addr} {ox : Obj} {od : Option Obj} (C : ExcC K D) : PySem.W.KitX K (.ref x) (.ref D) (fun h => PySem.W.InstAt h x ox D od) :=
  PySem.W.kitx_exc (by obtain ⟨cd, hc, _⟩ := PySem.W.any_some C.hd; rw [hc]; rfl) C.hg C.hk C.hs C.ha C.hn C.ht C.hm
/-- isinstance(e, c), e the exception that is handled, its class the one at C -/
def uIsE (K : PySem.W.Frag) (a C : Addr) (dd : Option Addr) (cls cv : Value) (u : UE) : UE := fun env S Q X => cls = .ref C ∧ u env S (fun d S1 => ∃ ks ds b, d = .exc a dd ks ds ∧ PySem.W.kitOne K (.ref C) cv = some b ∧ Q (.bl b) S1) X
def rIsEx (K : PySem.W.Frag) (D a : Addr) : List V → Hp → VK → Prop := fun xs H Q => ∃ (c : V) (cv : Value) (b : Bool), xs = [.ref a, c] ∧ (∀ u, RelV c u → u = cv) ∧ PySem.W.kitOne K (.ref D) cv = some b ∧ Q (.bl b) H
theorem call_isEx {X : Cx} {a D : Addr} {dd : Option Addr} {oe : Obj} {pn : List (Addr × Obj)} {r : List V → Hp → VK → Prop} (C : ExcC X.K D) (hz : Zc (.ref D) dd oe) (hf : ∃ vs, oe.data = .fields vs)
    (hr : ∀ xs H Q, r xs H Q → rIsEx X.K D a xs H Q ∧ ∀ dx, dd = some dx → ∃ vfs, H dx = some (.xd vfs)) : CallR (X.suite a ((a, oe) :: pn)) (.builtin "isinstance") r := by
  intro pins s σ H xs us Q I r h
  obtain ⟨⟨c, cv, b, rfl, hcv, e, q⟩, hxd⟩ := hr _ _ _ h
  cases r with
  | cons rx rr =>
    cases rr with
    | cons rt rr =>
      cases rr
      cases rx
      have ec := hcv _ rt
      subst ec
      obtain ⟨hget, _⟩ := I.pin (a, oe) (List.mem_append.mpr (.inl List.mem_cons_self))
      obtain ⟨vs, hv⟩ := hf
      have J : ∃ od, PySem.W.InstAt s.heap a oe D od := by
        cases dd with
        | none => exact ⟨none, hget, hz.1, by unfold PySem.W.notCls; rw [hv] <;> rfl, by rw [hz.2]; trivial⟩
        | some dx =>
          obtain ⟨vfs, ea⟩ := hxd dx rfl
          have hx : ObjOk X.prog X.w H s.heap dx (.xd vfs) := I.hok dx _ ea
          obtain ⟨mA, hns, hr⟩ := hx
          obtain ⟨od, ho, hlk⟩ := lookIn_ns hns
          exact ⟨some od, hget, hz.1, by unfold PySem.W.notCls; rw [hv] <;> rfl, by rw [hz.2]; exact ho⟩
      obtain ⟨od, J⟩ := J
      exact PySem.W.kia_one (excC_kit C) I.kIn J e (fun z => nomatch z) fun tk => ⟨.bl b, H, I.kept (t' := tk) fun _ _ z => z, rfl, q⟩
section
variable {X : Cx} {a D : Addr} {dd : Option Addr} {oe : Obj} {cls : Value} {pn : List (Addr × Obj)} {e : Expr} {u : UE} {p p2 pos : Pos} {x : Str}
theorem de_isE (hC : ExcC X.K D) (hz : Zc cls dd oe) (hf : ∃ vs, oe.data = .fields vs) (he : DE (X.suite a ((a, oe) :: pn)) e u) (hm : X.mg "isinstance" = none) {cv : Value} {c : V} (hc : PE (X.suite a ((a, oe) :: pn)) (.Name x p2) (tC c)) (hcv : ∀ u, RelV c u ↔ u = cv)
    (hg : Gl X "isinstance" := by rfl)
    (hs1 : starEach [e, .Name x p2] X.env = (false, eval e X.env) :: starEach [.Name x p2] X.env := by rfl) (hs2 : starEach [.Name x p2] X.env = (false, eval (.Name x p2) X.env) :: starEach [] X.env := by rfl) (hpl : (backTo pos (starEach [.Name x p2] X.env)).any (·.1) = false := by rfl) :
    DE (X.suite a ((a, oe) :: pn)) (.Call (.Name "isinstance" p) [e, .Name x p2] [] pos) (uIsE X.K a D dd cls cv u) := by
  by_cases hcl : cls = .ref D
  · subst hcl
    refine pe_imp (pe_callB (X := X.suite a ((a, oe) :: pn)) (call_isEx (r := fun xs H Q => rIsEx X.K D a xs H Q ∧ ∀ dx, dd = some dx → ∃ vfs, H dx = some (.xd vfs)) hC hz hf fun _ _ _ z => z) hg hm (by decide +kernel) (pa_cons he (pa_cons hc pa_nil hs2) hs1) (by decide) (by decide) hs1 hpl) fun σ H Q ⟨env, S, Qd, W, hE, hA, hT', ⟨_, hu⟩, hk⟩ =>
      ⟨env, S, _, W, hE, hA, hT', hu, fun v d H1 S1 t1 r1 a1 ⟨ks, ds, b, ed, ek, q⟩ => ?_⟩
    subst ed
    obtain ⟨vfs, ev, h0, h1, h2, h3⟩ := r1
    subst ev
    exact ⟨⟨c, cv, b, rfl, fun u hu => (hcv u).mp hu, ek, hk _ _ _ _ t1 (rep_bl.mpr rfl) a1 q⟩, fun dx ed => ⟨vfs, h1 dx ed⟩⟩
  · exact ⟨fun pins s σ H Q I ⟨env, S, Qd, W, hE, hA, hT', ⟨z, _⟩, hk⟩ => absurd z hcl⟩
/-- a class of the text, a built-in one -/
theorem de_isEo {C : Addr} (hC : ExcC X.K D) (hz : Zc cls dd oe) (hf : ∃ vs, oe.data = .fields vs) (he : DE (X.suite a ((a, oe) :: pn)) e u) (hm : X.mg "isinstance" = none) (hc : X.mg x = some (.ref C)) (hgx : Gl X x := by rfl) (hd : (x == ("__debug__" : Str)) = false := by decide)
    (hg : Gl X "isinstance" := by rfl)
    (hs1 : starEach [e, .Name x p2] X.env = (false, eval e X.env) :: starEach [.Name x p2] X.env := by rfl) (hs2 : starEach [.Name x p2] X.env = (false, eval (.Name x p2) X.env) :: starEach [] X.env := by rfl) (hpl : (backTo pos (starEach [.Name x p2] X.env)).any (·.1) = false := by rfl) :
    DE (X.suite a ((a, oe) :: pn)) (.Call (.Name "isinstance" p) [e, .Name x p2] [] pos) (uIsE X.K a D dd cls (.ref C) u) :=
  de_isE hC hz hf he hm (c := .ref C) (pe_glob hgx hc (v := .ref C) rfl hd) (fun u => ⟨fun h => h, fun h => h⟩) hg hs1 hs2 hpl
theorem de_isEb {T : String} (hC : ExcC X.K D) (hz : Zc cls dd oe) (hf : ∃ vs, oe.data = .fields vs) (he : DE (X.suite a ((a, oe) :: pn)) e u) (hm : X.mg "isinstance" = none) (hmT : X.mg x = none) (hv : bootBuiltins x = some (.type T)) (hgx : Gl X x := by rfl) (hn : x ≠ "__name__" := by decide) (hd : (x == ("__debug__" : Str)) = false := by decide)
    (hg : Gl X "isinstance" := by rfl)
    (hs1 : starEach [e, .Name x p2] X.env = (false, eval e X.env) :: starEach [.Name x p2] X.env := by rfl) (hs2 : starEach [.Name x p2] X.env = (false, eval (.Name x p2) X.env) :: starEach [] X.env := by rfl) (hpl : (backTo pos (starEach [.Name x p2] X.env)).any (·.1) = false := by rfl) :
    DE (X.suite a ((a, oe) :: pn)) (.Call (.Name "isinstance" p) [e, .Name x p2] [] pos) (uIsE X.K a D dd cls (.type T) u) :=
  de_isE hC hz hf he hm (c := .ty T) (pe_bltn (v := .ty T) hgx hmT hv rfl hn hd) (fun u => ⟨fun h => h, fun h => h⟩) hg hs1 hs2 hpl
theorem names_own {X : Cx} {C : Addr} {x : Str} (hm : X.mg x = some (.ref C)) (hg : Gl X x := by rfl) (hd : (x == ("__debug__" : Str)) = false := by decide) : Names X x (.ref C) := ⟨hg, hd, .inl hm⟩
end

/-! ### comprehensions, their names told first -/
section
variable {X : Cx} {tg iter : Expr} {src : IS} {g : UG} {u : UE} {pos : Pos} {vs : List Nat}
theorem de_lcv (own : List (Str × Nat)) {elt : Expr} {ifs : List Expr} {scope : Scope} {ct : UT} {GG : TG} (hc : X.calm = true) (hN : X.N.Nodup) (hi : DI X tg iter src) (ok : BlkOk X.N X.env.scope scope own) (hG : GR X.K g GG vs)
    (hg : ∀ (s : Shared) (H : Hp) (C : Addr) (cl : List (Str × Addr)) (fp : List Addr), PG (X.blk s H scope (compEnvC scope cl C X.env) fp) tg GG)
    (ht : ∀ (s : Shared) (H : Hp) (C : Addr) (cl : List (Str × Addr)) (fp : List Addr), DTs (X.blk s H scope (compEnvC scope cl C X.env) fp) ifs ct)
    (he : ∀ (s : Shared) (H : Hp) (C : Addr) (cl : List (Str × Addr)) (fp : List Addr), DE (X.blk s H scope (compEnvC scope cl C X.env) fp) elt u) (hvs : own.map (·.2) = vs := by rfl) (hs : ∀ x, foldedSetIterable iter X.env x = pure x := by intro _; rfl) :
    DE X (.ListComp elt [⟨tg, iter, ifs, 0⟩] scope pos) (uLc src g ct u vs) := by
  subst hvs
  exact de_lc hc hN hi ok hG hg ht he hs
theorem ds_setLcv (own : List (Str × Nat)) (i : Nat) {y : Str} {py spos : Pos} {elt : Expr} {ifs : List Expr} {scope : Scope} {ct : UT} {GG : TG} (hc : X.calm = true) (hN : X.N.Nodup) (hi : DI X tg iter src) (ok : BlkOk X.N X.env.scope scope own) (hG : GR X.K g GG vs)
    (hg : ∀ (s : Shared) (H : Hp) (C : Addr) (cl : List (Str × Addr)) (fp : List Addr), PG (X.blk s H scope (compEnvC scope cl C X.env) fp) tg GG)
    (ht : ∀ (s : Shared) (H : Hp) (C : Addr) (cl : List (Str × Addr)) (fp : List Addr), DTs (X.blk s H scope (compEnvC scope cl C X.env) fp) ifs ct)
    (he : ∀ (s : Shared) (H : Hp) (C : Addr) (cl : List (Str × Addr)) (fp : List Addr), DE (X.blk s H scope (compEnvC scope cl C X.env) fp) elt u)
    (hsw : swapsWith (.ListComp elt [⟨tg, iter, ifs, 0⟩] scope pos) (some (.Name y py)) spos.line X.env = pure true) (hvs : own.map (·.2) = vs := by rfl)
    (hy : X.N[i]? = some y := by rfl) (hyl : X.env.scope.names.lookup y = some .local := by rfl) (hs : ∀ x, foldedSetIterable iter X.env x = pure x := by intro _; rfl) :
    DS X (.Assign [.Name y py] (.ListComp elt [⟨tg, iter, ifs, 0⟩] scope pos) spos) (usSet i (uLc src g ct u vs)) := by
  subst hvs
  exact ds_setLc i hc hN hi ok hG hg ht he hsw hy hyl hs
end
end SL

set_option Elab.async false
set_option linter.all false
set_option maxRecDepth 100000
set_option maxHeartbeats 4000000
/-! SL13: words for the proofs of promises. -/
namespace SL
open PySem PySem.Spec L2
theorem cut_int {α : Type} {l : List α} {a b : Int} (ha : 0 ≤ a) (hb : 0 ≤ b) : cut l (some a) (some b) = (l.drop a.toNat).take (b.toNat - a.toNat) := by
  simp only [cut, HT.sIx]
  rw [if_neg (by omega), if_neg (by omega)]
  rcases Nat.le_total a.toNat l.length with h | h
  · rw [Nat.min_eq_left h]
    rcases Nat.le_total b.toNat l.length with h2 | h2
    · rw [Nat.min_eq_left h2]
    · rw [Nat.min_eq_right h2, List.take_of_length_le (by rw [List.length_drop]; omega), List.take_of_length_le (by rw [List.length_drop]; omega)]
  · rw [Nat.min_eq_right h]
    simp [List.drop_of_length_le h]
theorem cut_to {α : Type} {l : List α} {b : Int} (hb : 0 ≤ b) : cut l none (some b) = l.take b.toNat := by
  simp only [cut, HT.sIx]
  rw [if_neg (by omega)]
  simp only [Nat.sub_zero, List.drop_zero]
  rcases Nat.le_total b.toNat l.length with h | h
  · rw [Nat.min_eq_left h]
  · rw [Nat.min_eq_right h, List.take_of_length_le (Nat.le_refl _), List.take_of_length_le h]
theorem cut_from {α : Type} {l : List α} {a : Int} (ha : 0 ≤ a) : cut l (some a) none = l.drop a.toNat := by
  simp only [cut, HT.sIx]
  rw [if_neg (by omega)]
  rcases Nat.le_total a.toNat l.length with h | h
  · rw [Nat.min_eq_left h, List.take_of_length_le (by rw [List.length_drop]; omega)]
  · rw [Nat.min_eq_right h]; simp [List.drop_of_length_le h]
theorem Le.chg {S0 S : SS} {a : Addr} {o : Ob} (l : Le S0 S) (n : S0 a = none) : Le S0 (SL.sup S a o) := fun b u e => by
  rw [sup_ne (fun z => by rw [z, n] at e; cases e)]; exact l b u e
theorem Le.none_of {S0 S : SS} {a : Addr} (l : Le S0 S) (n : S a = none) : S0 a = none := by
  cases e : S0 a with
  | none => rfl
  | some o => rw [l a o e] at n; cases n
theorem atI_nat {α : Type} {xs : List α} {n : Nat} : L2.atI xs (n : Int) = xs[n]? := by
  unfold L2.atI
  by_cases h : n < xs.length
  · have : ixN xs.length (n : Int) = some n := by unfold ixN; simp; omega
    rw [this]; rfl
  · have : ixN xs.length (n : Int) = none := by unfold ixN; simp; omega
    rw [this]; simp; omega
theorem atI_last {α : Type} {xs : List α} : L2.atI xs (-1) = xs.getLast? := by
  unfold L2.atI
  cases xs with
  | nil => rfl
  | cons a r =>
    have : ixN (a :: r).length (-1) = some r.length := by unfold ixN; rw [if_neg (by omega), if_pos (by simp only [List.length_cons]; omega)]; simp only [List.length_cons]; congr 1; omega
    rw [this, List.getLast?_eq_getElem?]; rfl
theorem lstrip_len {x y : List Nat} : (sLstrip x y).length = x.length - (x.takeWhile fun c => decide (c ∈ y)).length := by
  unfold sLstrip
  rw [Txt.lstripChars, PySem.W.stripBy_eq]
  unfold PySem.W.stripped
  simp only [if_true]
  show (PySem.Builtin.Str.strSub (tx x) _ _).cps.toList.length = _
  unfold PySem.Builtin.Str.strSub
  have e : (tx y).cps.contains = fun c => decide (c ∈ y) := by funext c; simp [tx]
  rw [e, tx_cps]
  simp [tx, Str.length]
end SL

set_option Elab.async false
set_option linter.all false
set_option maxRecDepth 100000
set_option maxHeartbeats 4000000
/-! SL14: the end: defs and errors as the top has written them. -/
namespace SL
open PySem PySem.Spec L2 ClX
section
variable {P : Program} {w : World} {K : PySem.W.Frag} {mg : Str → Option Value} {base h : Heap}
/-- a def of the top -/
def D0 (K : PySem.W.Frag) (mg : Str → Option Value) (x : Str) (st : Stmt) : Prop := ∃ f fd, mg x = some (.ref f) ∧ FunD K x x (defArgs st) (defBody st) (defScope st) [] [] f fd
theorem d0_mk {x : Str} {st : Stmt} {f : Addr} {oc : Value} {od an : Option Addr} {osl : Array (Option Value)} {kV doc pm cdv ct : Value} (X : K.In h) (G : h.Ns mainGlobals mg) (a : PySem.W.nsIn K mainGlobals x = some (some (.ref f)))
    (l : K.lookup f = some ⟨oc, od, .func (PySem.W.fnOf x x (defArgs st) (defBody st) (defScope st) .none kV doc pm an cdv ct), osl⟩) (c : PySem.W.codeIn K cdv x = true) (k : PySem.W.keepIn K (.ref f) = true) : D0 K mg x st :=
  ⟨f, _, PySem.W.mg_of X G a, ⟨⟨oc, od, .none, kV, doc, pm, an, cdv, ct, osl, rfl, l, c, .inl ⟨rfl, rfl⟩, .inl rfl⟩, k⟩⟩
theorem ff_d0 {x : Str} {st : Stmt} {N ps : List Str} {k : Nat} {sp : FS} (d : D0 K mg x st) (S : FnScope N ps (defScope st)) (u : US)
    (hb : ∀ (kV doc pm : Value) (an : Option Addr) (cdv ct : Value) (us : List Value), us.length = ps.length → bindArgs (PySem.W.fnOf x x (defArgs st) (defBody st) (defScope st) .none kV doc pm an cdv ct) ⟨us, []⟩ = pure (ps.zip us))
    (hder : ∀ (f : Addr) (cdv : Value) (A : Around) (outer : List Env) (s : Shared) (H : Hp) (E : XK), Room k (A.deeper (PyProof.Rows.envOfC x (defScope st) s.heap.objs.size f cdv)) → DB (cxOf (L2.CX P w) P w K mg base N x (defScope st) f cdv A outer s H E) (defBody st) u)
    (hsp : ∀ ds S Q Xq, sp ds S Q Xq → u (bodyE Q Xq) (startE N ds) S) : FF P w K mg base x (k + 1) ps sp ps.length [] gId := by
  obtain ⟨f, fd, hm, F⟩ := d
  exact ff_of hm F.kp (fn_d F S u (hder f) fun ds S Q Xq _ h => hsp ds S Q Xq h) (shp_plain (F.bindsN hb))
/-- of a promise that nobody asks for -/
theorem ff_void {x : Str} {st : Stmt} {ps : List Str} {k : Nat} {sp : FS} (d : D0 K mg x st)
    (hb : ∀ (kV doc pm : Value) (an : Option Addr) (cdv ct : Value) (us : List Value), us.length = ps.length → bindArgs (PySem.W.fnOf x x (defArgs st) (defBody st) (defScope st) .none kV doc pm an cdv ct) ⟨us, []⟩ = pure (ps.zip us))
    (hn : ∀ ds S Q X, ¬ sp ds S Q X) : FF P w K mg base x k ps sp ps.length [] gId := by
  obtain ⟨f, fd, hm, F⟩ := d
  refine ff_of hm F.kp ⟨fun vs H Q E hh => ?_, fun A outer s H args us vs Q E hr e0 hb r hh => ?_⟩ (shp_plain (F.bindsN hb))
  · obtain ⟨ds, S, Qd, Xd, _, _, _, h, _⟩ := hh
    exact (hn _ _ _ _ h).elim
  · obtain ⟨ds, S, Qd, Xd, _, _, _, h, _⟩ := hh
    exact (hn _ _ _ _ h).elim
theorem ff_up {x : Str} {k k' n : Nat} {ps ks : List Str} {sp : FS} {gD : List D → List D → List D} (h : FF P w K mg base x k ps sp n ks gD) (hk : k ≤ k') : FF P w K mg base x k' ps sp n ks gD := by
  obtain ⟨f, fd, h1, h2, h3, h4⟩ := h
  exact ⟨f, fd, h1, h2, ⟨h3.len, fun A outer s H args us vs Q E hr => h3.run A outer s H args us vs Q E (hr.mono hk)⟩, h4⟩

/-! ### errors -/
theorem ini1 {q : Str} {st : Stmt} {f : Addr} {fd : FuncData} {a1 : Str} {C : Addr} (F : FunD K "__init__" q (defArgs st) (defBody st) (defScope st) [] [] f fd) {p1 p2 p3 p4 : Pos} {sf pa : Str} (hbody : defBody st = [.Assign [.Attribute (.Name sf p1) a1 p2] (.Name pa p3) p4])
    (S : FnScope [sf, pa] [sf, pa] (defScope st)) (T : OexC K C) (no : PySem.W.findIn K (.ref C) a1 = some none)
    (hd : ∀ (cdv : Value) (A : Around) (outer : List Env) (s : Shared) (H : Hp) (E : XK), PS (cxOf (L2.CX P w) P w K mg base [sf, pa] q (defScope st) f cdv A outer s H E) (.Assign [.Attribute (.Name sf p1) a1 p2] (.Name pa p3) p4) (tOst K a1 (tVar 0) (tVar 1))) :
    FnOk P w K mg base (L2.CX P w) 1 f fd [sf, pa] (spIni C [a1]) := by
  refine F.ok S (fun vs H Q E h => ?_) (fun cdv A outer s H vs Q E hr h => ?_)
  · obtain ⟨a, ys, rfl, hl, _⟩ := h
    simp at hl ⊢; exact hl
  · obtain ⟨a, ys, rfl, hl, ha, k⟩ := h
    obtain ⟨y, rfl⟩ : ∃ y, ys = [y] := by
      cases ys with
      | nil => simp at hl
      | cons y r => cases r with
        | nil => exact ⟨y, rfl⟩
        | cons _ _ => simp at hl
    rw [hbody]
    refine ⟨_, pss_one (hd cdv A outer s H E), ?_⟩
    refine ⟨y, rfl, .ref a, rfl, a, C, rfl, T, no, .inl ⟨ha, fun dx hdx hne => ?_⟩⟩
    exact k dx _ hdx hne (fun b h1 h2 => by rw [upd_ne h2, upd_ne h1]) (by rw [upd_ne hne, upd_same]; rfl) upd_same
theorem ini2 {q : Str} {st : Stmt} {f : Addr} {fd : FuncData} {a1 a2 : Str} {C : Addr} (F : FunD K "__init__" q (defArgs st) (defBody st) (defScope st) [] [] f fd) {p1 p2 p3 p4 q1 q2 q3 q4 : Pos} {sf pa pb : Str} (hbody : defBody st = [.Assign [.Attribute (.Name sf p1) a1 p2] (.Name pa p3) p4, .Assign [.Attribute (.Name sf q1) a2 q2] (.Name pb q3) q4])
    (S : FnScope [sf, pa, pb] [sf, pa, pb] (defScope st)) (T : OexC K C) (no : PySem.W.findIn K (.ref C) a1 = some none) (no2 : PySem.W.findIn K (.ref C) a2 = some none)
    (hd : ∀ (cdv : Value) (A : Around) (outer : List Env) (s : Shared) (H : Hp) (E : XK), PS (cxOf (L2.CX P w) P w K mg base [sf, pa, pb] q (defScope st) f cdv A outer s H E) (.Assign [.Attribute (.Name sf p1) a1 p2] (.Name pa p3) p4) (tOst K a1 (tVar 0) (tVar 1)))
    (hd2 : ∀ (cdv : Value) (A : Around) (outer : List Env) (s : Shared) (H : Hp) (E : XK), PS (cxOf (L2.CX P w) P w K mg base [sf, pa, pb] q (defScope st) f cdv A outer s H E) (.Assign [.Attribute (.Name sf q1) a2 q2] (.Name pb q3) q4) (tOst K a2 (tVar 0) (tVar 2))) :
    FnOk P w K mg base (L2.CX P w) 1 f fd [sf, pa, pb] (spIni C [a1, a2]) := by
  refine F.ok S (fun vs H Q E h => ?_) (fun cdv A outer s H vs Q E hr h => ?_)
  · obtain ⟨a, ys, rfl, hl, _⟩ := h
    simp at hl ⊢; exact hl
  · obtain ⟨a, ys, rfl, hl, ha, k⟩ := h
    obtain ⟨y, z, rfl⟩ : ∃ y z, ys = [y, z] := by
      cases ys with
      | nil => simp at hl
      | cons y r => cases r with
        | nil => simp at hl
        | cons z r => cases r with
          | nil => exact ⟨y, z, rfl⟩
          | cons _ _ => simp at hl
    rw [hbody]
    refine ⟨_, pss_cons (hd cdv A outer s H E) (pss_one (hd2 cdv A outer s H E)), ?_⟩
    refine ⟨y, rfl, .ref a, rfl, a, C, rfl, T, no, .inl ⟨ha, fun dx hdx hne => ?_⟩⟩
    refine ⟨z, rfl, .ref a, rfl, a, C, rfl, T, no2, .inr ⟨dx, _, upd_same, by rw [upd_ne hne, upd_same], by simp, ?_⟩⟩
    exact k dx _ hdx hne (fun b h1 h2 => by rw [upd_ne h1, upd_ne h2, upd_ne h1]) (by rw [upd_same]; rfl) (by rw [upd_ne hne.symm, upd_same])
theorem kit_ref {C C2 : Addr} {b : Bool} (h1 : PySem.W.subIn K (.ref C) (.ref C2) = some b) (h2 : PySem.W.isClsIn K C2 = true) (h3 : PySem.W.typeIn K (.ref C2) = some (.type "type")) (h4 : PySem.W.subIn K (.ref C) (.ref C) = some true) : PySem.W.kitOne K (.ref C) (.ref C2) = some b := by
  have e2 : ((PySem.W.clsIn K C2).isSome && PySem.W.typeIn K (.ref C2) == some (.type "type")) = true := by
    have h2' : (PySem.W.clsIn K C2).isSome = true := h2
    rw [h2', h3] <;> rfl
  unfold PySem.W.kitOne
  by_cases e : C = C2
  · subst e
    rw [h4] at h1
    cases h1
    rw [if_pos (by simp)]
  · rw [if_neg (by simpa using e)]
    show (if _ then _ else _) = _
    rw [if_pos e2]; exact h1
theorem kit_type {C : Addr} {T : String} {b : Bool} (h1 : PySem.W.subIn K (.ref C) (.type T) = some b) (hm : PySem.W.kitMeta T = true := by decide +kernel) : PySem.W.kitOne K (.ref C) (.type T) = some b := by
  unfold PySem.W.kitOne
  rw [if_neg (by simp)]
  show (if _ then _ else _) = _
  rw [if_pos hm]; exact h1
theorem repL_ints {H : Hp} : ∀ {ns : List Int}, RepL K H (ns.map D.int) (ns.map V.int)
  | [] => .nil
  | n :: r => .cons (rep_int.mpr rfl) repL_ints
/-- the script as law gets it -/
theorem lsp_law {H : Hp} {a : Addr} {ns : List Int} {sp : FS} (hS : SqL K H a (ns.map V.int)) (k : ∀ (sd : D) (S : SS), ((∃ a, sd = .ref a ∧ S a = some (.rol (ns.map .int))) ∨ sd = .kl (ns.map .int)) → sp [sd] S (fun d _ => d = .bl true) (fun _ _ _ => False)) :
    lsp K 1 sp [.ref a] H (fun v _ => v = .bl true) fun _ _ _ => False := by
  have rl : RepL K H (ns.map D.int) (ns.map V.int) := repL_ints
  rcases hS with hS | hS
  · refine ⟨[.ref a], fun b => if b = a then some (.rol (ns.map .int)) else none, fun d _ => d = .bl true, fun _ _ _ => False, .cons (rep_ref.mpr rfl) .nil, fun b o e => ?_, rfl, k _ _ (.inl ⟨a, rfl, by simp⟩), fun v d H' S' t r _ e => ?_, fun _ _ _ _ _ _ _ _ f => f⟩
    · simp only at e
      split at e
      · rename_i hb; subst hb; cases e; exact ⟨_, hS, rl⟩
      · cases e
    · subst e; exact rep_bl.mp r
  · refine ⟨[.kl (ns.map .int)], fun _ => none, fun d _ => d = .bl true, fun _ _ _ => False, .cons (rep_kl.mpr ⟨a, _, rfl, hS, rl⟩) .nil, fun b o e => (by cases e), rfl, k _ _ (.inr rfl), fun v d H' S' t r _ e => ?_, fun _ _ _ _ _ _ _ _ f => f⟩
    subst e; exact rep_bl.mp r
theorem cx_no {H : Hp} {s s' : Shared} {e : Value} (h : L2.CX P w [] H s (fun _ _ _ => False) e s') : False := by
  obtain ⟨_, _, _, _, _, _, _, _, _, _, _, _, f⟩ := h
  exact f
end
end SL

set_option Elab.async false
set_option linter.all false
set_option maxRecDepth 100000
set_option maxHeartbeats 4000000
/-! written by gen.py: what each def asks, and its derivation -/
namespace K00
open PySem PySem.Spec L2 ClX SL
def top (i : Nat) : Stmt := PySem.Challenge.pw_oncecoin_k00_next_signs_of_texts.main.body.getD i (.Pass ⟨0, 0, 0, 0⟩)
abbrev gv_LETTERS : D := (.str (cs "abcdefghijklmnopqrstuvwxyz"))
abbrev gv_FIGURES : D := (.str (cs "0123456789"))
abbrev gv_TOKEN_SIGNS : D := (.str (cs "abcdefghijklmnopqrstuvwxyz0123456789"))
abbrev gv_MOST_FIGURES : D := (.int 12)
abbrev gv_MOST_SIGNS : D := (.int 12)
abbrev gv_MOST_DEEP : D := (.int 20)
abbrev gv_LIMIT : D := (.int 1000000000000)
abbrev s_run_end : Stmt := (top 13)
abbrev N_run_end : List Str := ["text", "start", "most", "signs", "run"]
abbrev ps_run_end : List Str := ["text", "start", "most", "signs"]
theorem sc_run_end : FnScope N_run_end ps_run_end (defScope s_run_end) := ⟨rfl, rfl, rfl, by decide +kernel, rfl, by decide +kernel, by decide +kernel⟩
abbrev s_is_token : Stmt := (top 14)
abbrev N_is_token : List Str := ["value"]
abbrev ps_is_token : List Str := ["value"]
theorem sc_is_token : FnScope N_is_token ps_is_token (defScope s_is_token) := ⟨rfl, rfl, rfl, by decide +kernel, rfl, by decide +kernel, by decide +kernel⟩
abbrev s_is_plain_within : Stmt := (top 15)
abbrev N_is_plain_within : List Str := ["value", "room", "part"]
abbrev ps_is_plain_within : List Str := ["value", "room"]
theorem sc_is_plain_within : FnScope N_is_plain_within ps_is_plain_within (defScope s_is_plain_within) := ⟨rfl, rfl, rfl, by decide +kernel, rfl, by decide +kernel, by decide +kernel⟩
abbrev s_is_plain : Stmt := (top 16)
abbrev N_is_plain : List Str := ["value"]
abbrev ps_is_plain : List Str := ["value"]
theorem sc_is_plain : FnScope N_is_plain ps_is_plain (defScope s_is_plain) := ⟨rfl, rfl, rfl, by decide +kernel, rfl, by decide +kernel, by decide +kernel⟩
abbrev s_text_of : Stmt := (top 17)
abbrev N_text_of : List Str := ["value", "part"]
abbrev ps_text_of : List Str := ["value"]
theorem sc_text_of : FnScope N_text_of ps_text_of (defScope s_text_of) := ⟨rfl, rfl, rfl, by decide +kernel, rfl, by decide +kernel, by decide +kernel⟩
abbrev s_write_value : Stmt := (top 18)
abbrev N_write_value : List Str := ["value"]
abbrev ps_write_value : List Str := ["value"]
theorem sc_write_value : FnScope N_write_value ps_write_value (defScope s_write_value) := ⟨rfl, rfl, rfl, by decide +kernel, rfl, by decide +kernel, by decide +kernel⟩
abbrev s_integer_end : Stmt := (top 19)
abbrev N_integer_end : List Str := ["text", "start"]
abbrev ps_integer_end : List Str := ["text", "start"]
theorem sc_integer_end : FnScope N_integer_end ps_integer_end (defScope s_integer_end) := ⟨rfl, rfl, rfl, by decide +kernel, rfl, by decide +kernel, by decide +kernel⟩
abbrev s_word_end : Stmt := (top 20)
abbrev N_word_end : List Str := ["text", "start", "sign"]
abbrev ps_word_end : List Str := ["text", "start"]
theorem sc_word_end : FnScope N_word_end ps_word_end (defScope s_word_end) := ⟨rfl, rfl, rfl, by decide +kernel, rfl, by decide +kernel, by decide +kernel⟩
abbrev s_value_of_word : Stmt := (top 21)
abbrev N_value_of_word : List Str := ["word"]
abbrev ps_value_of_word : List Str := ["word"]
theorem sc_value_of_word : FnScope N_value_of_word ps_value_of_word (defScope s_value_of_word) := ⟨rfl, rfl, rfl, by decide +kernel, rfl, by decide +kernel, by decide +kernel⟩
abbrev s_read_value : Stmt := (top 22)
abbrev N_read_value : List Str := ["text", "opened", "at", "end", "parts"]
abbrev ps_read_value : List Str := ["text"]
theorem sc_read_value : FnScope N_read_value ps_read_value (defScope s_read_value) := ⟨rfl, rfl, rfl, by decide +kernel, rfl, by decide +kernel, by decide +kernel⟩
abbrev s__law_jar : Stmt := (top 24)
abbrev N__law_jar : List Str := ["script", "cell"]
abbrev ps__law_jar : List Str := ["script"]
theorem sc__law_jar : FnScope N__law_jar ps__law_jar (defScope s__law_jar) := ⟨rfl, rfl, rfl, by decide +kernel, rfl, by decide +kernel, by decide +kernel⟩
abbrev s__law_draw : Stmt := (top 25)
abbrev N__law_draw : List Str := ["jar", "many", "cell", "told", "mixed"]
abbrev ps__law_draw : List Str := ["jar", "many"]
theorem sc__law_draw : FnScope N__law_draw ps__law_draw (defScope s__law_draw) := ⟨rfl, rfl, rfl, by decide +kernel, rfl, by decide +kernel, by decide +kernel⟩
abbrev s__law_first : Stmt := (top 26)
abbrev N__law_first : List Str := ["sign", "depth"]
abbrev ps__law_first : List Str := ["sign", "depth"]
theorem sc__law_first : FnScope N__law_first ps__law_first (defScope s__law_first) := ⟨rfl, rfl, rfl, by decide +kernel, rfl, by decide +kernel, by decide +kernel⟩
abbrev s__law_step : Stmt := (top 27)
abbrev N__law_step : List Str := ["state", "sign", "mode", "count", "depth"]
abbrev ps__law_step : List Str := ["state", "sign"]
theorem sc__law_step : FnScope N__law_step ps__law_step (defScope s__law_step) := ⟨rfl, rfl, rfl, by decide +kernel, rfl, by decide +kernel, by decide +kernel⟩
abbrev s__law_whole : Stmt := (top 28)
abbrev N__law_whole : List Str := ["state"]
abbrev ps__law_whole : List Str := ["state"]
theorem sc__law_whole : FnScope N__law_whole ps__law_whole (defScope s__law_whole) := ⟨rfl, rfl, rfl, by decide +kernel, rfl, by decide +kernel, by decide +kernel⟩
abbrev s__law_atom : Stmt := (top 29)
abbrev N__law_atom : List Str := ["jar", "kind", "size", "text", "k"]
abbrev ps__law_atom : List Str := ["jar"]
theorem sc__law_atom : FnScope N__law_atom ps__law_atom (defScope s__law_atom) := ⟨rfl, rfl, rfl, by decide +kernel, rfl, by decide +kernel, by decide +kernel⟩
abbrev s__law_text : Stmt := (top 30)
abbrev N__law_text : List Str := ["jar", "depth", "atom", "k", "text"]
abbrev ps__law_text : List Str := ["jar"]
theorem sc__law_text : FnScope N__law_text ps__law_text (defScope s__law_text) := ⟨rfl, rfl, rfl, by decide +kernel, rfl, by decide +kernel, by decide +kernel⟩
abbrev s__law_atom_value : Stmt := (top 31)
abbrev N__law_atom_value : List Str := ["word"]
abbrev ps__law_atom_value : List Str := ["word"]
theorem sc__law_atom_value : FnScope N__law_atom_value ps__law_atom_value (defScope s__law_atom_value) := ⟨rfl, rfl, rfl, by decide +kernel, rfl, by decide +kernel, by decide +kernel⟩
abbrev s__law_value : Stmt := (top 32)
abbrev N__law_value : List Str := ["text", "rows", "word", "sign", "row", "outer"]
abbrev ps__law_value : List Str := ["text"]
theorem sc__law_value : FnScope N__law_value ps__law_value (defScope s__law_value) := ⟨rfl, rfl, rfl, by decide +kernel, rfl, by decide +kernel, by decide +kernel⟩
abbrev s__law_same : Stmt := (top 33)
abbrev N__law_same : List Str := ["told", "due", "k"]
abbrev ps__law_same : List Str := ["told", "due"]
theorem sc__law_same : FnScope N__law_same ps__law_same (defScope s__law_same) := ⟨rfl, rfl, rfl, by decide +kernel, rfl, by decide +kernel, by decide +kernel⟩
abbrev s__law_told : Stmt := (top 34)
abbrev N__law_told : List Str := ["text", "e", "kind"]
abbrev ps__law_told : List Str := ["text"]
theorem sc__law_told : FnScope N__law_told ps__law_told (defScope s__law_told) := ⟨rfl, rfl, rfl, by decide +kernel, rfl, by decide +kernel, by decide +kernel⟩
abbrev s__law_judge : Stmt := (top 35)
abbrev N__law_judge : List Str := ["head", "state", "signs", "text", "now", "at", "k", "told", "value"]
abbrev ps__law_judge : List Str := ["head", "state", "signs"]
theorem sc__law_judge : FnScope N__law_judge ps__law_judge (defScope s__law_judge) := ⟨rfl, rfl, rfl, by decide +kernel, rfl, by decide +kernel, by decide +kernel⟩
abbrev s__law_signs : Stmt := (top 36)
abbrev N__law_signs : List Str := ["signs"]
abbrev ps__law_signs : List Str := []
theorem sc__law_signs : FnScope N__law_signs ps__law_signs (defScope s__law_signs) := ⟨rfl, rfl, rfl, by decide +kernel, rfl, by decide +kernel, by decide +kernel⟩
abbrev s_law : Stmt := (top 37)
abbrev N_law : List Str := ["script", "jar", "text", "states", "sign", "places", "k", "signs", "limits", "place", "head", "turn", "tail", "more"]
abbrev ps_law : List Str := ["script"]
theorem sc_law : FnScope N_law ps_law (defScope s_law) := ⟨rfl, rfl, rfl, by decide +kernel, rfl, by decide +kernel, by decide +kernel⟩
/-- the classes -/
structure Cs where
  ShopError : Addr
  InvalidDeed : Addr
  InvalidValue : Addr
  InvalidText : Addr
/-- what the top has written, as the derivations ask it -/
structure Bs (K : PySem.W.Frag) (mg : Str → Option Value) (c : Cs) : Prop where
  n_ValueError : mg "ValueError" = none
  n_bool : mg "bool" = none
  n_int : mg "int" = none
  n_isinstance : mg "isinstance" = none
  n_len : mg "len" = none
  n_min : mg "min" = none
  n_range : mg "range" = none
  n_str : mg "str" = none
  n_tuple : mg "tuple" = none
  g_FIGURES : GC K mg "FIGURES" gv_FIGURES
  g_LETTERS : GC K mg "LETTERS" gv_LETTERS
  g_LIMIT : GC K mg "LIMIT" gv_LIMIT
  g_MOST_DEEP : GC K mg "MOST_DEEP" gv_MOST_DEEP
  g_MOST_FIGURES : GC K mg "MOST_FIGURES" gv_MOST_FIGURES
  g_MOST_SIGNS : GC K mg "MOST_SIGNS" gv_MOST_SIGNS
  g_TOKEN_SIGNS : GC K mg "TOKEN_SIGNS" gv_TOKEN_SIGNS
  c_ShopError : mg "ShopError" = some (.ref c.ShopError)
  c_InvalidDeed : mg "InvalidDeed" = some (.ref c.InvalidDeed)
  c_InvalidValue : mg "InvalidValue" = some (.ref c.InvalidValue)
  c_InvalidText : mg "InvalidText" = some (.ref c.InvalidText)
  x_InvalidText_at : ExG K c.InvalidText "at"
  x_InvalidText_text : ExG K c.InvalidText "text"
  xc_InvalidText : ExcC K c.InvalidText
section
variable {P : Program} {w : World} {K : PySem.W.Frag} {mg : Str → Option Value} {base : Heap} {c : Cs}
def u_run_end (K : PySem.W.Frag) (c : Cs) : US := (usSeq (usSet 4 (uSl (uVar 0) (uPart (uVar 1)) (uPart (uBin dAdd (uVar 1) (uVar 2)))))
  (usRet (uBin dSub (uBin dAdd (uVar 1) (uFn (gP fLen) (uCons (uVar 4) uNil))) (uFn (gP fLen) (uCons (uBM "str" (gM mLstrip) (uVar 4) (uCons (uVar 3) uNil)) uNil)))))
theorem der_run_end {cdv : Value} {A : Around} {outer : List Env} {s : Shared} {H : Hp} {E : XK} {f : Addr} (B : Bs K mg c) (hr : Room 0 (A.deeper (PyProof.Rows.envOfC "run_end" (defScope s_run_end) s.heap.objs.size f cdv))) :
    DB (cxOf (L2.CX P w) P w K mg base N_run_end "run_end" (defScope s_run_end) f cdv A outer s H E) (defBody s_run_end) (u_run_end K c) :=
  (db_cons (ds_set 4 sc_run_end.nd (de_slice (de_var 0) (do_some (de_var 1)) (do_some (de_bin od_add (de_var 1) (de_var 2)))))
  (db_one (ds_ret (de_bin od_sub (de_bin od_add (de_var 1) (de_fnB cd_len B.n_len (by decide +kernel) (da_cons (de_var 4) da_nil))) (de_fnB cd_len B.n_len (by decide +kernel) (da_cons (de_bm PySem.F.plainAttrs_str PySem.F.slot_str_lstrip PySem.F.type_str_lstrip md_lstrip (de_var 4) (da_cons (de_var 3) da_nil)) da_nil))))))
def u_is_token (K : PySem.W.Frag) (c : Cs) (sp_run_end : FS) : US := (usSeq (usIf (uOr (uTb (uBin dEq (uVar 0) (uC (.str (cs ""))))) (uTb (uBin dNotIn1 (uBin dIx (uVar 0) (uC (.int 0))) (uC gv_LETTERS)))) (usRet (uC (.bl false))) usNil)
  (usRet (uBin dEq (uCall (sp_run_end) gId (uA1 4 (uCons (uVar 0) (uCons (uC (.int 0)) (uCons (uC gv_MOST_SIGNS) (uCons (uC gv_TOKEN_SIGNS) uNil)))))) (uFn (gP fLen) (uCons (uVar 0) uNil)))))
theorem der_is_token {cdv : Value} {A : Around} {outer : List Env} {s : Shared} {H : Hp} {E : XK} {f : Addr} {sp_run_end : FS} (B : Bs K mg c) (h_run_end : FF P w K mg base "run_end" 1 ps_run_end (sp_run_end) 4 [] gId) (hr : Room 1 (A.deeper (PyProof.Rows.envOfC "is_token" (defScope s_is_token) s.heap.objs.size f cdv))) :
    DB (cxOf (L2.CX P w) P w K mg base N_is_token "is_token" (defScope s_is_token) f cdv A outer s H E) (defBody s_is_token) (u_is_token K c sp_run_end) :=
  (db_cons (ds_if (dt_bool (dw_or (dt_cmp (od_eq (hu64 hr)) (de_var 0) (de_str (s := ""))) (dw_or1 (dt_cmp (od_notin (hu65 hr)) (de_ix (de_var 0) de_int) (de_gc B.g_LETTERS))))) (db_one (ds_ret de_bl)) db_nil)
  (db_one (ds_ret (de_cmp (od_eq (hu64 hr)) (de_ff h_run_end hr (dar1 (da_cons (de_var 0) (da_cons de_int (da_cons (de_gc B.g_MOST_SIGNS) (da_cons (de_gc B.g_TOKEN_SIGNS) da_nil)))))) (de_fnB cd_len B.n_len (by decide +kernel) (da_cons (de_var 0) da_nil))))))
def u_is_plain_within (K : PySem.W.Frag) (c : Cs) (sp_is_token : FS) (sp_is_plain_within : FS) : US := (usSeq (usIf (uOr (uTb (uBin dIs (uVar 0) (uC .non))) (uTru (uIsi ["bool"] (uVar 0)))) (usRet (uC (.bl true))) usNil)
  (usSeq (usIf (uTru (uIsi ["int"] (uVar 0))) (usRet (uChain dLt dLt (uUn dNeg (uC gv_LIMIT)) (uVar 0) (uC gv_LIMIT))) usNil)
  (usSeq (usIf (uTru (uIsi ["str"] (uVar 0))) (usRet (uCall (sp_is_token) gId (uA1 1 (uCons (uVar 0) uNil)))) usNil)
  (usSeq (usIf (uOr (uNot (uTru (uIsi ["tuple"] (uVar 0)))) (uTb (uBin dEq (uVar 1) (uC (.int 0))))) (usRet (uC (.bl false))) usNil)
  (usSeq (usFor (isSeq (uVar 0)) (ugName 2) (usIf (uNot (uTru (uCall (sp_is_plain_within) gId (uA1 2 (uCons (uVar 2) (uCons (uBin dSub (uVar 1) (uC (.int 1))) uNil)))))) (usRet (uC (.bl false))) usNil))
  (usRet (uC (.bl true))))))))
theorem der_is_plain_within {cdv : Value} {A : Around} {outer : List Env} {s : Shared} {H : Hp} {E : XK} {f : Addr} {sp_is_token : FS} {sp_is_plain_within : FS} (B : Bs K mg c) {m : Nat} (hm : 2 ≤ m) (h_is_token : FF P w K mg base "is_token" 2 ps_is_token (sp_is_token) 1 [] gId) (h_is_plain_within : FF P w K mg base "is_plain_within" m ps_is_plain_within (sp_is_plain_within) 2 [] gId) (hr : Room m (A.deeper (PyProof.Rows.envOfC "is_plain_within" (defScope s_is_plain_within) s.heap.objs.size f cdv))) :
    DB (cxOf (L2.CX P w) P w K mg base N_is_plain_within "is_plain_within" (defScope s_is_plain_within) f cdv A outer s H E) (defBody s_is_plain_within) (u_is_plain_within K c sp_is_token sp_is_plain_within) :=
  (db_cons (ds_if (dt_bool (dw_or (dt_cmp od_is (de_var 0) de_non) (dw_or1 (dt_val (de_isi (de_var 0) B.n_isinstance B.n_bool (by decide +kernel)))))) (db_one (ds_ret de_bl)) db_nil)
  (db_cons (ds_if (dt_val (de_isi (de_var 0) B.n_isinstance B.n_int (by decide +kernel))) (db_one (ds_ret (de_chain od_lt od_lt (de_neg (de_gc B.g_LIMIT)) (de_var 0) (de_gc B.g_LIMIT)))) db_nil)
  (db_cons (ds_if (dt_val (de_isi (de_var 0) B.n_isinstance B.n_str (by decide +kernel))) (db_one (ds_ret (de_ff h_is_token hr (dar1 (da_cons (de_var 0) da_nil)) (hk := Nat.le_trans (by decide) hm)))) db_nil)
  (db_cons (ds_if (dt_bool (dw_or (dt_not (dt_val (de_isi (de_var 0) B.n_isinstance B.n_tuple (by decide +kernel)))) (dw_or1 (dt_cmp (od_eq (hu64 hr)) (de_var 1) de_int)))) (db_one (ds_ret de_bl)) db_nil)
  (db_cons (ds_for (passes_of rfl) rfl (di_seq (de_var 0)) (dg_name 2 sc_is_plain_within.nd) (db_one (ds_if (dt_not (dt_val (de_ff h_is_plain_within hr (dar1 (da_cons (de_var 2) (da_cons (de_bin od_sub (de_var 1) de_int) da_nil))) (hk := Nat.le_refl _)))) (db_one (ds_ret de_bl)) db_nil)))
  (db_one (ds_ret de_bl)))))))
def u_is_plain (K : PySem.W.Frag) (c : Cs) (sp_is_plain_within : FS) : US := (usRet (uCall (sp_is_plain_within) gId (uA1 2 (uCons (uVar 0) (uCons (uC gv_MOST_DEEP) uNil)))))
theorem der_is_plain {cdv : Value} {A : Around} {outer : List Env} {s : Shared} {H : Hp} {E : XK} {f : Addr} {sp_is_plain_within : FS} (B : Bs K mg c) (h_is_plain_within : FF P w K mg base "is_plain_within" 30 ps_is_plain_within (sp_is_plain_within) 2 [] gId) (hr : Room 30 (A.deeper (PyProof.Rows.envOfC "is_plain" (defScope s_is_plain) s.heap.objs.size f cdv))) :
    DB (cxOf (L2.CX P w) P w K mg base N_is_plain "is_plain" (defScope s_is_plain) f cdv A outer s H E) (defBody s_is_plain) (u_is_plain K c sp_is_plain_within) :=
  (db_one (ds_ret (de_ff h_is_plain_within hr (dar1 (da_cons (de_var 0) (da_cons (de_gc B.g_MOST_DEEP) da_nil))))))
def u_text_of (K : PySem.W.Frag) (c : Cs) (sp_text_of : FS) : US := (usSeq (usIf (uTb (uBin dIs (uVar 0) (uC .non))) (usRet (uC (.str (cs "N")))) usNil)
  (usSeq (usIf (uTru (uIsi ["bool"] (uVar 0))) (usRet (uIte (uTru (uVar 0)) (uC (.str (cs "T"))) (uC (.str (cs "F"))))) usNil)
  (usSeq (usIf (uTru (uIsi ["int"] (uVar 0))) (usRet (uFn (gP fStr) (uCons (uVar 0) uNil))) usNil)
  (usSeq (usIf (uTru (uIsi ["str"] (uVar 0))) (usRet (uVar 0)) usNil)
  (usRet (uBin dAdd (uBin dAdd (uC (.str (cs "("))) (uBM "str" gJoin' (uC (.str (cs ","))) (uCons (uLc (isSeq (uVar 0)) (ugName 1) utYes (uCall (sp_text_of) gId (uA1 1 (uCons (uVar 1) uNil))) [1]) uNil))) (uC (.str (cs ")")))))))))
theorem der_text_of {cdv : Value} {A : Around} {outer : List Env} {s : Shared} {H : Hp} {E : XK} {f : Addr} {sp_text_of : FS} (B : Bs K mg c) {m : Nat} (hm : 2 ≤ m) (h_text_of : FF P w K mg base "text_of" m ps_text_of (sp_text_of) 1 [] gId) (hr : Room m (A.deeper (PyProof.Rows.envOfC "text_of" (defScope s_text_of) s.heap.objs.size f cdv))) :
    DB (cxOf (L2.CX P w) P w K mg base N_text_of "text_of" (defScope s_text_of) f cdv A outer s H E) (defBody s_text_of) (u_text_of K c sp_text_of) :=
  (db_cons (ds_if (dt_cmp od_is (de_var 0) de_non) (db_one (ds_ret (de_str (s := "N")))) db_nil)
  (db_cons (ds_if (dt_val (de_isi (de_var 0) B.n_isinstance B.n_bool (by decide +kernel))) (db_one (ds_ret (de_ite (dt_val (de_var 0)) (de_str (s := "T")) (de_str (s := "F"))))) db_nil)
  (db_cons (ds_if (dt_val (de_isi (de_var 0) B.n_isinstance B.n_int (by decide +kernel))) (db_one (ds_ret (de_fnT cd_str B.n_str (by decide +kernel) (da_cons (de_var 0) da_nil)))) db_nil)
  (db_cons (ds_if (dt_val (de_isi (de_var 0) B.n_isinstance B.n_str (by decide +kernel))) (db_one (ds_ret (de_var 0))) db_nil)
  (db_one (ds_ret (de_bin od_add (de_bin od_add (de_str (s := "(")) (de_bm PySem.F.plainAttrs_str PySem.F.slot_str_join PySem.F.type_str_join md_join (de_str (s := ",")) (da_cons (de_lcv [(("part" : Str), 1)] rfl sc_text_of.nd (di_seq (de_var 0)) (blkOk_by (N := N_text_of) (sc := defScope s_text_of) (by decide +kernel)) (gr_name (i := 1)) (fun _ _ _ _ _ => (pg_name (i := 1) sc_text_of.nd rfl (Or.inl rfl))) (fun _ _ _ _ _ => dts_nil) (fun _ _ _ _ _ => (de_ff h_text_of hr (dar1 (da_cons (de_var 1) da_nil)) (hk := Nat.le_refl _)))) da_nil))) (de_str (s := ")")))))))))
def u_write_value (K : PySem.W.Frag) (c : Cs) (sp_is_plain : FS) (sp_text_of : FS) : US := (usSeq (usIf (uNot (uTru (uCall (sp_is_plain) gId (uA1 1 (uCons (uVar 0) uNil))))) (usRaise c.InvalidValue ["given"] (uCons (uVar 0) uNil)) usNil)
  (usRet (uCall (sp_text_of) gId (uA1 1 (uCons (uVar 0) uNil)))))
theorem der_write_value {cdv : Value} {A : Around} {outer : List Env} {s : Shared} {H : Hp} {E : XK} {f : Addr} {sp_is_plain : FS} {sp_text_of : FS} (B : Bs K mg c) (h_is_plain : FF P w K mg base "is_plain" 31 ps_is_plain (sp_is_plain) 1 [] gId) (x_InvalidValue : ExF P w K mg base "InvalidValue" c.InvalidValue ["given"]) (h_text_of : FF P w K mg base "text_of" 30 ps_text_of (sp_text_of) 1 [] gId) (hr : Room 31 (A.deeper (PyProof.Rows.envOfC "write_value" (defScope s_write_value) s.heap.objs.size f cdv))) :
    DB (cxOf (L2.CX P w) P w K mg base N_write_value "write_value" (defScope s_write_value) f cdv A outer s H E) (defBody s_write_value) (u_write_value K c sp_is_plain sp_text_of) :=
  (db_cons (ds_if (dt_not (dt_val (de_ff h_is_plain hr (dar1 (da_cons (de_var 0) da_nil))))) (db_one (ds_raise rfl x_InvalidValue (hr.mono (by decide)) (da_cons (de_var 0) da_nil))) db_nil)
  (db_one (ds_ret (de_ff h_text_of hr (dar1 (da_cons (de_var 0) da_nil))))))
def u_integer_end (K : PySem.W.Frag) (c : Cs) (sp_run_end : FS) : US := (usSeq (usIf (uTb (uBin dEq (uSl (uVar 0) (uPart (uVar 1)) (uPart (uBin dAdd (uVar 1) (uC (.int 1))))) (uC (.str (cs "-"))))) (usSeq (usIf (uTb (uBin dEq (uSl (uVar 0) (uPart (uBin dAdd (uVar 1) (uC (.int 1)))) (uPart (uBin dAdd (uVar 1) (uC (.int 2))))) (uC (.str (cs "0"))))) (usRet (uBin dAdd (uVar 1) (uC (.int 1)))) usNil)
  (usRet (uCall (sp_run_end) gId (uA1 4 (uCons (uVar 0) (uCons (uBin dAdd (uVar 1) (uC (.int 1))) (uCons (uC gv_MOST_FIGURES) (uCons (uC gv_FIGURES) uNil)))))))) usNil)
  (usSeq (usIf (uTb (uBin dEq (uSl (uVar 0) (uPart (uVar 1)) (uPart (uBin dAdd (uVar 1) (uC (.int 1))))) (uC (.str (cs "0"))))) (usRet (uBin dAdd (uVar 1) (uC (.int 1)))) usNil)
  (usRet (uCall (sp_run_end) gId (uA1 4 (uCons (uVar 0) (uCons (uVar 1) (uCons (uC gv_MOST_FIGURES) (uCons (uC gv_FIGURES) uNil)))))))))
theorem der_integer_end {cdv : Value} {A : Around} {outer : List Env} {s : Shared} {H : Hp} {E : XK} {f : Addr} {sp_run_end : FS} (B : Bs K mg c) (h_run_end : FF P w K mg base "run_end" 1 ps_run_end (sp_run_end) 4 [] gId) (hr : Room 1 (A.deeper (PyProof.Rows.envOfC "integer_end" (defScope s_integer_end) s.heap.objs.size f cdv))) :
    DB (cxOf (L2.CX P w) P w K mg base N_integer_end "integer_end" (defScope s_integer_end) f cdv A outer s H E) (defBody s_integer_end) (u_integer_end K c sp_run_end) :=
  (db_cons (ds_if (dt_cmp (od_eq (hu64 hr)) (de_slice (de_var 0) (do_some (de_var 1)) (do_some (de_bin od_add (de_var 1) de_int))) (de_str (s := "-"))) (db_cons (ds_if (dt_cmp (od_eq (hu64 hr)) (de_slice (de_var 0) (do_some (de_bin od_add (de_var 1) de_int)) (do_some (de_bin od_add (de_var 1) de_int))) (de_str (s := "0"))) (db_one (ds_ret (de_bin od_add (de_var 1) de_int))) db_nil)
  (db_one (ds_ret (de_ff h_run_end hr (dar1 (da_cons (de_var 0) (da_cons (de_bin od_add (de_var 1) de_int) (da_cons (de_gc B.g_MOST_FIGURES) (da_cons (de_gc B.g_FIGURES) da_nil))))))))) db_nil)
  (db_cons (ds_if (dt_cmp (od_eq (hu64 hr)) (de_slice (de_var 0) (do_some (de_var 1)) (do_some (de_bin od_add (de_var 1) de_int))) (de_str (s := "0"))) (db_one (ds_ret (de_bin od_add (de_var 1) de_int))) db_nil)
  (db_one (ds_ret (de_ff h_run_end hr (dar1 (da_cons (de_var 0) (da_cons (de_var 1) (da_cons (de_gc B.g_MOST_FIGURES) (da_cons (de_gc B.g_FIGURES) da_nil))))))))))
def u_word_end (K : PySem.W.Frag) (c : Cs) (sp_run_end : FS) (sp_integer_end : FS) : US := (usSeq (usSet 2 (uSl (uVar 0) (uPart (uVar 1)) (uPart (uBin dAdd (uVar 1) (uC (.int 1))))))
  (usSeq (usIf (uTb (uBin dIn1 (uVar 2) (uTup (uCons (uC (.str (cs "N"))) (uCons (uC (.str (cs "T"))) (uCons (uC (.str (cs "F"))) uNil)))))) (usRet (uBin dAdd (uVar 1) (uC (.int 1)))) usNil)
  (usSeq (usIf (uAnd (uTb (uBin dNe (uVar 2) (uC (.str (cs ""))))) (uTb (uBin dIn1 (uVar 2) (uC gv_LETTERS)))) (usRet (uCall (sp_run_end) gId (uA1 4 (uCons (uVar 0) (uCons (uVar 1) (uCons (uC gv_MOST_SIGNS) (uCons (uC gv_TOKEN_SIGNS) uNil))))))) usNil)
  (usRet (uCall (sp_integer_end) gId (uA1 2 (uCons (uVar 0) (uCons (uVar 1) uNil))))))))
theorem der_word_end {cdv : Value} {A : Around} {outer : List Env} {s : Shared} {H : Hp} {E : XK} {f : Addr} {sp_run_end : FS} {sp_integer_end : FS} (B : Bs K mg c) (h_run_end : FF P w K mg base "run_end" 1 ps_run_end (sp_run_end) 4 [] gId) (h_integer_end : FF P w K mg base "integer_end" 2 ps_integer_end (sp_integer_end) 2 [] gId) (hr : Room 2 (A.deeper (PyProof.Rows.envOfC "word_end" (defScope s_word_end) s.heap.objs.size f cdv))) :
    DB (cxOf (L2.CX P w) P w K mg base N_word_end "word_end" (defScope s_word_end) f cdv A outer s H E) (defBody s_word_end) (u_word_end K c sp_run_end sp_integer_end) :=
  (db_cons (ds_set 2 sc_word_end.nd (de_slice (de_var 0) (do_some (de_var 1)) (do_some (de_bin od_add (de_var 1) de_int))))
  (db_cons (ds_if (dt_cmp (od_in (hu65 hr)) (de_var 2) (de_tup (da_cons (de_str (s := "N")) (da_cons (de_str (s := "T")) (da_cons (de_str (s := "F")) da_nil))))) (db_one (ds_ret (de_bin od_add (de_var 1) de_int))) db_nil)
  (db_cons (ds_if (dt_bool (dw_and (dt_cmp (od_ne (hu64 hr)) (de_var 2) (de_str (s := ""))) (dw_and1 (dt_cmp (od_in (hu65 hr)) (de_var 2) (de_gc B.g_LETTERS))))) (db_one (ds_ret (de_ff h_run_end hr (dar1 (da_cons (de_var 0) (da_cons (de_var 1) (da_cons (de_gc B.g_MOST_SIGNS) (da_cons (de_gc B.g_TOKEN_SIGNS) da_nil)))))))) db_nil)
  (db_one (ds_ret (de_ff h_integer_end hr (dar1 (da_cons (de_var 0) (da_cons (de_var 1) da_nil)))))))))
def u_value_of_word (K : PySem.W.Frag) (c : Cs) : US := (usSeq (usIf (uTb (uBin dEq (uVar 0) (uC (.str (cs "N"))))) (usRet (uC .non)) usNil)
  (usSeq (usIf (uTb (uBin dIn1 (uVar 0) (uTup (uCons (uC (.str (cs "T"))) (uCons (uC (.str (cs "F"))) uNil))))) (usRet (uBin dEq (uVar 0) (uC (.str (cs "T"))))) usNil)
  (usSeq (usIf (uTb (uBin dIn1 (uBin dIx (uVar 0) (uC (.int 0))) (uC gv_LETTERS))) (usRet (uVar 0)) usNil)
  (usRet (uFn (gP fInt) (uCons (uVar 0) uNil))))))
theorem der_value_of_word {cdv : Value} {A : Around} {outer : List Env} {s : Shared} {H : Hp} {E : XK} {f : Addr} (B : Bs K mg c) (hr : Room 0 (A.deeper (PyProof.Rows.envOfC "value_of_word" (defScope s_value_of_word) s.heap.objs.size f cdv))) :
    DB (cxOf (L2.CX P w) P w K mg base N_value_of_word "value_of_word" (defScope s_value_of_word) f cdv A outer s H E) (defBody s_value_of_word) (u_value_of_word K c) :=
  (db_cons (ds_if (dt_cmp (od_eq (hu64 hr)) (de_var 0) (de_str (s := "N"))) (db_one (ds_ret de_non)) db_nil)
  (db_cons (ds_if (dt_cmp (od_in (hu65 hr)) (de_var 0) (de_tup (da_cons (de_str (s := "T")) (da_cons (de_str (s := "F")) da_nil)))) (db_one (ds_ret (de_cmp (od_eq (hu64 hr)) (de_var 0) (de_str (s := "T"))))) db_nil)
  (db_cons (ds_if (dt_cmp (od_in (hu65 hr)) (de_ix (de_var 0) de_int) (de_gc B.g_LETTERS)) (db_one (ds_ret (de_var 0))) db_nil)
  (db_one (ds_ret (de_fnT cd_int B.n_int (by decide +kernel) (da_cons (de_var 0) da_nil)))))))
def u_read_value (K : PySem.W.Frag) (c : Cs) (sp_word_end : FS) (sp_value_of_word : FS) : US := (usSeq (usIf (uNot (uTru (uIsi ["str"] (uVar 0)))) (usRaise c.InvalidText ["text", "at"] (uCons (uVar 0) (uCons (uC (.int 0)) uNil))) usNil)
  (usSeq (usSet 1 (uLst (uCons (uLst uNil) uNil)))
  (usSeq (usSet 2 (uC (.int 0)))
  (usWh (uTru (uC (.bl true))) (usSeq (usWh (uAnd (uTb (uBin dEq (uSl (uVar 0) (uPart (uVar 2)) (uPart (uBin dAdd (uVar 2) (uC (.int 1))))) (uC (.str (cs "("))))) (uTb (uBin dLe (uFn (gP fLen) (uCons (uVar 1) uNil)) (uC gv_MOST_DEEP)))) (usSeq (usExpr (uBM "list" gAppend (uVar 1) (uCons (uLst uNil) uNil)))
  (usAug 2 dAddI (uC (.int 1)))))
  (usSeq (usIf (uTb (uBin dNe (uSl (uVar 0) (uPart (uBin dSub (uVar 2) (uC (.int 1)))) (uPart (uBin dAdd (uVar 2) (uC (.int 1))))) (uC (.str (cs "()"))))) (usSeq (usSet 3 (uCall (sp_word_end) gId (uA1 2 (uCons (uVar 0) (uCons (uVar 2) uNil)))))
  (usSeq (usIf (uTb (uBin dIn1 (uSl (uVar 0) (uPart (uVar 2)) (uPart (uVar 3))) (uTup (uCons (uC (.str (cs ""))) (uCons (uC (.str (cs "-"))) uNil))))) (usRaise c.InvalidText ["text", "at"] (uCons (uVar 0) (uCons (uVar 3) uNil))) usNil)
  (usSeq (usExpr (uBM "list" gAppend (uBin dIx (uVar 1) (uUn dNeg (uC (.int 1)))) (uCons (uCall (sp_value_of_word) gId (uA1 1 (uCons (uSl (uVar 0) (uPart (uVar 2)) (uPart (uVar 3))) uNil))) uNil)))
  (usSet 2 (uVar 3))))) usNil)
  (usSeq (usWh (uAnd (uTb (uBin dEq (uSl (uVar 0) (uPart (uVar 2)) (uPart (uBin dAdd (uVar 2) (uC (.int 1))))) (uC (.str (cs ")"))))) (uTb (uBin dGt (uFn (gP fLen) (uCons (uVar 1) uNil)) (uC (.int 1))))) (usSeq (usSet 4 (uBM0 "list" gPop (uVar 1)))
  (usSeq (usExpr (uBM "list" gAppend (uBin dIx (uVar 1) (uUn dNeg (uC (.int 1)))) (uCons (uFn (gP fTup) (uCons (uVar 4) uNil)) uNil)))
  (usAug 2 dAddI (uC (.int 1))))))
  (usSeq (usIf (uAnd (uTb (uBin dEq (uFn (gP fLen) (uCons (uVar 1) uNil)) (uC (.int 1)))) (uTb (uBin dEq (uVar 2) (uFn (gP fLen) (uCons (uVar 0) uNil))))) (usRet (uBin dIx (uBin dIx (uVar 1) (uC (.int 0))) (uC (.int 0)))) usNil)
  (usSeq (usIf (uOr (uTb (uBin dEq (uFn (gP fLen) (uCons (uVar 1) uNil)) (uC (.int 1)))) (uTb (uBin dNe (uSl (uVar 0) (uPart (uVar 2)) (uPart (uBin dAdd (uVar 2) (uC (.int 1))))) (uC (.str (cs ",")))))) (usRaise c.InvalidText ["text", "at"] (uCons (uVar 0) (uCons (uVar 2) uNil))) usNil)
  (usAug 2 dAddI (uC (.int 1))))))))))))
theorem der_read_value {cdv : Value} {A : Around} {outer : List Env} {s : Shared} {H : Hp} {E : XK} {f : Addr} {sp_word_end : FS} {sp_value_of_word : FS} (B : Bs K mg c) (x_InvalidText : ExF P w K mg base "InvalidText" c.InvalidText ["text", "at"]) (h_word_end : FF P w K mg base "word_end" 3 ps_word_end (sp_word_end) 2 [] gId) (h_value_of_word : FF P w K mg base "value_of_word" 1 ps_value_of_word (sp_value_of_word) 1 [] gId) (hr : Room 3 (A.deeper (PyProof.Rows.envOfC "read_value" (defScope s_read_value) s.heap.objs.size f cdv))) :
    DB (cxOf (L2.CX P w) P w K mg base N_read_value "read_value" (defScope s_read_value) f cdv A outer s H E) (defBody s_read_value) (u_read_value K c sp_word_end sp_value_of_word) :=
  (db_cons (ds_if (dt_not (dt_val (de_isi (de_var 0) B.n_isinstance B.n_str (by decide +kernel)))) (db_one (ds_raise rfl x_InvalidText (hr.mono (by decide)) (da_cons (de_var 0) (da_cons de_int da_nil)))) db_nil)
  (db_cons (ds_set 1 sc_read_value.nd (de_lst (da_cons (de_lst da_nil) da_nil)))
  (db_cons (ds_set 2 sc_read_value.nd de_int)
  (db_one (ds_wh (passes_of rfl) (dt_val de_bl) (db_cons (ds_wh (passes_of rfl) (dt_bool (dw_and (dt_cmp (od_eq (hu64 hr)) (de_slice (de_var 0) (do_some (de_var 2)) (do_some (de_bin od_add (de_var 2) de_int))) (de_str (s := "("))) (dw_and1 (dt_cmp od_le (de_fnB cd_len B.n_len (by decide +kernel) (da_cons (de_var 1) da_nil)) (de_gc B.g_MOST_DEEP))))) (db_cons (ds_expr (de_bm PySem.F.plainAttrs_list PySem.F.slot_list_append PySem.F.type_list_append md_append (de_var 1) (da_cons (de_lst da_nil) da_nil)))
  (db_one (ds_aug 2 sc_read_value.nd oi_add de_int))))
  (db_cons (ds_if (dt_cmp (od_ne (hu64 hr)) (de_slice (de_var 0) (do_some (de_bin od_sub (de_var 2) de_int)) (do_some (de_bin od_add (de_var 2) de_int))) (de_str (s := "()"))) (db_cons (ds_set 3 sc_read_value.nd (de_ff h_word_end hr (dar1 (da_cons (de_var 0) (da_cons (de_var 2) da_nil)))))
  (db_cons (ds_if (dt_cmp (od_in (hu65 hr)) (de_slice (de_var 0) (do_some (de_var 2)) (do_some (de_var 3))) (de_tup (da_cons (de_str (s := "")) (da_cons (de_str (s := "-")) da_nil)))) (db_one (ds_raise rfl x_InvalidText (hr.mono (by decide)) (da_cons (de_var 0) (da_cons (de_var 3) da_nil)))) db_nil)
  (db_cons (ds_expr (de_bm PySem.F.plainAttrs_list PySem.F.slot_list_append PySem.F.type_list_append md_append (de_ix (de_var 1) (de_neg de_int)) (da_cons (de_ff h_value_of_word hr (dar1 (da_cons (de_slice (de_var 0) (do_some (de_var 2)) (do_some (de_var 3))) da_nil))) da_nil)))
  (db_one (ds_set 2 sc_read_value.nd (de_var 3)))))) db_nil)
  (db_cons (ds_wh (passes_of rfl) (dt_bool (dw_and (dt_cmp (od_eq (hu64 hr)) (de_slice (de_var 0) (do_some (de_var 2)) (do_some (de_bin od_add (de_var 2) de_int))) (de_str (s := ")"))) (dw_and1 (dt_cmp od_gt (de_fnB cd_len B.n_len (by decide +kernel) (da_cons (de_var 1) da_nil)) de_int)))) (db_cons (ds_set 4 sc_read_value.nd (de_bm0 PySem.F.plainAttrs_list PySem.F.slot_list_pop PySem.F.type_list_pop md_pop (de_var 1)))
  (db_cons (ds_expr (de_bm PySem.F.plainAttrs_list PySem.F.slot_list_append PySem.F.type_list_append md_append (de_ix (de_var 1) (de_neg de_int)) (da_cons (de_fnT cd_tup B.n_tuple (by decide +kernel) (da_cons (de_var 4) da_nil)) da_nil)))
  (db_one (ds_aug 2 sc_read_value.nd oi_add de_int)))))
  (db_cons (ds_if (dt_bool (dw_and (dt_cmp (od_eq (hu64 hr)) (de_fnB cd_len B.n_len (by decide +kernel) (da_cons (de_var 1) da_nil)) de_int) (dw_and1 (dt_cmp (od_eq (hu64 hr)) (de_var 2) (de_fnB cd_len B.n_len (by decide +kernel) (da_cons (de_var 0) da_nil)))))) (db_one (ds_ret (de_ix (de_ix (de_var 1) de_int) de_int))) db_nil)
  (db_cons (ds_if (dt_bool (dw_or (dt_cmp (od_eq (hu64 hr)) (de_fnB cd_len B.n_len (by decide +kernel) (da_cons (de_var 1) da_nil)) de_int) (dw_or1 (dt_cmp (od_ne (hu64 hr)) (de_slice (de_var 0) (do_some (de_var 2)) (do_some (de_bin od_add (de_var 2) de_int))) (de_str (s := ",")))))) (db_one (ds_raise rfl x_InvalidText (hr.mono (by decide)) (da_cons (de_var 0) (da_cons (de_var 2) da_nil)))) db_nil)
  (db_one (ds_aug 2 sc_read_value.nd oi_add de_int))))))))))))
def u__law_jar (K : PySem.W.Frag) (c : Cs) : US := (usRet (uDsp [Sum.inr "cells", Sum.inr "at", Sum.inr "great", Sum.inr "left", Sum.inr "salt", Sum.inr "turn"] (uCons (uLc (isSeq (uSl (uVar 0) uNoPart (uPart (uC (.int 63))))) (ugName 1) utYes (uFn (gP fInt) (uCons (uVar 1) uNil)) [1]) (uCons (uC (.int 0)) (uCons (uC (.int 0)) (uCons (uC (.int 0)) (uCons (uC (.int 5)) (uCons (uC (.int 0)) uNil))))))))
theorem der__law_jar {cdv : Value} {A : Around} {outer : List Env} {s : Shared} {H : Hp} {E : XK} {f : Addr} (B : Bs K mg c) (hr : Room 0 (A.deeper (PyProof.Rows.envOfC "_law_jar" (defScope s__law_jar) s.heap.objs.size f cdv))) :
    DB (cxOf (L2.CX P w) P w K mg base N__law_jar "_law_jar" (defScope s__law_jar) f cdv A outer s H E) (defBody s__law_jar) (u__law_jar K c) :=
  (db_one (ds_ret (de_dsp (dps_str (de_lcv [(("cell" : Str), 1)] rfl sc__law_jar.nd (di_seq (de_slice (de_var 0) do_none (do_some de_int))) (blkOk_by (N := N__law_jar) (sc := defScope s__law_jar) (by decide +kernel)) (gr_name (i := 1)) (fun _ _ _ _ _ => (pg_name (i := 1) sc__law_jar.nd rfl (Or.inl rfl))) (fun _ _ _ _ _ => dts_nil) (fun _ _ _ _ _ => (de_fnT cd_int B.n_int (by decide +kernel) (da_cons (de_var 1) da_nil)))) (dps_str de_int (dps_str de_int (dps_str de_int (dps_str de_int (dps_str de_int dps_nil)))))))))
def u__law_draw (K : PySem.W.Frag) (c : Cs) : US := (usSeq (usDPut (uVar 0) (uC (.str (cs "turn"))) (uBin dAdd (uDGet (uVar 0) (uC (.str (cs "turn")))) (uC (.int 1))))
  (usSeq (usIf (uAnd (uTb (uBin dEq (uDGet (uVar 0) (uC (.str (cs "left")))) (uC (.int 0)))) (uTb (uBin dLt (uDGet (uVar 0) (uC (.str (cs "at")))) (uFn (gP fLen) (uCons (uDGet (uVar 0) (uC (.str (cs "cells")))) uNil))))) (usSeq (usSet 2 (uBin dIx (uDGet (uVar 0) (uC (.str (cs "cells")))) (uDGet (uVar 0) (uC (.str (cs "at"))))))
  (usSeq (usDPut (uVar 0) (uC (.str (cs "at"))) (uBin dAdd (uDGet (uVar 0) (uC (.str (cs "at")))) (uC (.int 1))))
  (usSeq (usDPut (uVar 0) (uC (.str (cs "salt"))) (uBin dMod (uFn (gP fInt) (uCons (uBin dAdd (uBin dAdd (uBin dMul (uDGet (uVar 0) (uC (.str (cs "salt")))) (uC (.int 31))) (uBin dMod (uFn (gP fInt) (uCons (uVar 2) uNil)) (uC (.int 1000003)))) (uC (.int 7))) uNil)) (uC (.int 1000003))))
  (usIf (uTb (uBin dGe (uVar 2) (uBin dPow (uC (.int 10)) (uC (.int 18))))) (usSeq (usDPut (uVar 0) (uC (.str (cs "great"))) (uVar 2))
  (usDPut (uVar 0) (uC (.str (cs "left"))) (uC (.int 60)))) usNil)))) usNil)
  (usSeq (usIf (uTb (uBin dGt (uDGet (uVar 0) (uC (.str (cs "left")))) (uC (.int 0)))) (usSeq (usSet 3 (uBin dMod (uFn (gP fInt) (uCons (uDGet (uVar 0) (uC (.str (cs "great")))) uNil)) (uVar 1)))
  (usSeq (usDPut (uVar 0) (uC (.str (cs "great"))) (uBin dDiv (uFn (gP fInt) (uCons (uDGet (uVar 0) (uC (.str (cs "great")))) uNil)) (uVar 1)))
  (usSeq (usDPut (uVar 0) (uC (.str (cs "left"))) (uBin dSub (uDGet (uVar 0) (uC (.str (cs "left")))) (uC (.int 1))))
  (usSeq (usIf (uTb (uBin dEq (uDGet (uVar 0) (uC (.str (cs "great")))) (uC (.int 0)))) (usDPut (uVar 0) (uC (.str (cs "left"))) (uC (.int 0))) usNil)
  (usRet (uVar 3)))))) usNil)
  (usSeq (usSet 4 (uBin dMod (uFn (gP fInt) (uCons (uBin dAdd (uBin dAdd (uBin dMul (uDGet (uVar 0) (uC (.str (cs "salt")))) (uC (.int 48271))) (uBin dMul (uDGet (uVar 0) (uC (.str (cs "turn")))) (uC (.int 69621)))) (uC (.int 11))) uNil)) (uC (.int 2147483647))))
  (usSeq (usSet 4 (uBin dMod (uFn (gP fInt) (uCons (uBin dAdd (uBin dAdd (uBin dMul (uVar 4) (uVar 4)) (uBin dMul (uDGet (uVar 0) (uC (.str (cs "turn")))) (uC (.int 40692)))) (uC (.int 3))) uNil)) (uC (.int 2147483629))))
  (usRet (uBin dMod (uFn (gP fInt) (uCons (uBin dDiv (uVar 4) (uC (.int 7))) uNil)) (uVar 1))))))))
theorem der__law_draw {cdv : Value} {A : Around} {outer : List Env} {s : Shared} {H : Hp} {E : XK} {f : Addr} (B : Bs K mg c) (hr : Room 0 (A.deeper (PyProof.Rows.envOfC "_law_draw" (defScope s__law_draw) s.heap.objs.size f cdv))) :
    DB (cxOf (L2.CX P w) P w K mg base N__law_draw "_law_draw" (defScope s__law_draw) f cdv A outer s H E) (defBody s__law_draw) (u__law_draw K c) :=
  (db_cons (ds_dput hr (de_var 0) (de_str (s := "turn")) (de_bin od_add (de_dget hr (de_var 0) (de_str (s := "turn"))) de_int))
  (db_cons (ds_if (dt_bool (dw_and (dt_cmp (od_eq (hu64 hr)) (de_dget hr (de_var 0) (de_str (s := "left"))) de_int) (dw_and1 (dt_cmp od_lt (de_dget hr (de_var 0) (de_str (s := "at"))) (de_fnB cd_len B.n_len (by decide +kernel) (da_cons (de_dget hr (de_var 0) (de_str (s := "cells"))) da_nil)))))) (db_cons (ds_set 2 sc__law_draw.nd (de_ix (de_dget hr (de_var 0) (de_str (s := "cells"))) (de_dget hr (de_var 0) (de_str (s := "at")))))
  (db_cons (ds_dput hr (de_var 0) (de_str (s := "at")) (de_bin od_add (de_dget hr (de_var 0) (de_str (s := "at"))) de_int))
  (db_cons (ds_dput hr (de_var 0) (de_str (s := "salt")) (de_bin od_mod (de_fnT cd_int B.n_int (by decide +kernel) (da_cons (de_bin od_add (de_bin od_add (de_bin od_mul (de_dget hr (de_var 0) (de_str (s := "salt"))) de_int) (de_bin od_mod (de_fnT cd_int B.n_int (by decide +kernel) (da_cons (de_var 2) da_nil)) de_int)) de_int) da_nil)) de_int))
  (db_one (ds_if (dt_cmp od_ge (de_var 2) (de_bin od_pow de_int de_int)) (db_cons (ds_dput hr (de_var 0) (de_str (s := "great")) (de_var 2))
  (db_one (ds_dput hr (de_var 0) (de_str (s := "left")) de_int))) db_nil))))) db_nil)
  (db_cons (ds_if (dt_cmp od_gt (de_dget hr (de_var 0) (de_str (s := "left"))) de_int) (db_cons (ds_set 3 sc__law_draw.nd (de_bin od_mod (de_fnT cd_int B.n_int (by decide +kernel) (da_cons (de_dget hr (de_var 0) (de_str (s := "great"))) da_nil)) (de_var 1)))
  (db_cons (ds_dput hr (de_var 0) (de_str (s := "great")) (de_bin od_div (de_fnT cd_int B.n_int (by decide +kernel) (da_cons (de_dget hr (de_var 0) (de_str (s := "great"))) da_nil)) (de_var 1)))
  (db_cons (ds_dput hr (de_var 0) (de_str (s := "left")) (de_bin od_sub (de_dget hr (de_var 0) (de_str (s := "left"))) de_int))
  (db_cons (ds_if (dt_cmp (od_eq (hu64 hr)) (de_dget hr (de_var 0) (de_str (s := "great"))) de_int) (db_one (ds_dput hr (de_var 0) (de_str (s := "left")) de_int)) db_nil)
  (db_one (ds_ret (de_var 3))))))) db_nil)
  (db_cons (ds_set 4 sc__law_draw.nd (de_bin od_mod (de_fnT cd_int B.n_int (by decide +kernel) (da_cons (de_bin od_add (de_bin od_add (de_bin od_mul (de_dget hr (de_var 0) (de_str (s := "salt"))) de_int) (de_bin od_mul (de_dget hr (de_var 0) (de_str (s := "turn"))) de_int)) de_int) da_nil)) de_int))
  (db_cons (ds_set 4 sc__law_draw.nd (de_bin od_mod (de_fnT cd_int B.n_int (by decide +kernel) (da_cons (de_bin od_add (de_bin od_add (de_bin od_mul (de_var 4) (de_var 4)) (de_bin od_mul (de_dget hr (de_var 0) (de_str (s := "turn"))) de_int)) de_int) da_nil)) de_int))
  (db_one (ds_ret (de_bin od_mod (de_fnT cd_int B.n_int (by decide +kernel) (da_cons (de_bin od_div (de_var 4) de_int) da_nil)) (de_var 1)))))))))
def u__law_first (K : PySem.W.Frag) (c : Cs) : US := (usSeq (usIf (uTb (uBin dEq (uVar 0) (uC (.str (cs "("))))) (usRet (uIte (uTb (uBin dLt (uVar 1) (uC (.int 20)))) (uTup (uCons (uC (.str (cs "opened"))) (uCons (uC (.int 0)) (uCons (uBin dAdd (uVar 1) (uC (.int 1))) uNil)))) (uC .non))) usNil)
  (usSeq (usIf (uTb (uBin dEq (uVar 0) (uC (.str (cs "-"))))) (usRet (uTup (uCons (uC (.str (cs "minus"))) (uCons (uC (.int 0)) (uCons (uVar 1) uNil))))) usNil)
  (usSeq (usIf (uTb (uBin dIn1 (uVar 0) (uC (.str (cs "0NTF"))))) (usRet (uTup (uCons (uC (.str (cs "ended"))) (uCons (uC (.int 0)) (uCons (uVar 1) uNil))))) usNil)
  (usSeq (usIf (uTb (uBin dIn1 (uVar 0) (uC (.str (cs "123456789"))))) (usRet (uTup (uCons (uC (.str (cs "figures"))) (uCons (uC (.int 1)) (uCons (uVar 1) uNil))))) usNil)
  (usSeq (usIf (uTb (uBin dIn1 (uVar 0) (uC (.str (cs "abcdefghijklmnopqrstuvwxyz"))))) (usRet (uTup (uCons (uC (.str (cs "token"))) (uCons (uC (.int 1)) (uCons (uVar 1) uNil))))) usNil)
  (usRet (uC .non)))))))
theorem der__law_first {cdv : Value} {A : Around} {outer : List Env} {s : Shared} {H : Hp} {E : XK} {f : Addr} (B : Bs K mg c) (hr : Room 0 (A.deeper (PyProof.Rows.envOfC "_law_first" (defScope s__law_first) s.heap.objs.size f cdv))) :
    DB (cxOf (L2.CX P w) P w K mg base N__law_first "_law_first" (defScope s__law_first) f cdv A outer s H E) (defBody s__law_first) (u__law_first K c) :=
  (db_cons (ds_if (dt_cmp (od_eq (hu64 hr)) (de_var 0) (de_str (s := "("))) (db_one (ds_ret (de_ite (dt_cmp od_lt (de_var 1) de_int) (de_tup (da_cons (de_str (s := "opened")) (da_cons de_int (da_cons (de_bin od_add (de_var 1) de_int) da_nil)))) de_non))) db_nil)
  (db_cons (ds_if (dt_cmp (od_eq (hu64 hr)) (de_var 0) (de_str (s := "-"))) (db_one (ds_ret (de_tup (da_cons (de_str (s := "minus")) (da_cons de_int (da_cons (de_var 1) da_nil)))))) db_nil)
  (db_cons (ds_if (dt_cmp (od_in (hu65 hr)) (de_var 0) (de_str (s := "0NTF"))) (db_one (ds_ret (de_tup (da_cons (de_str (s := "ended")) (da_cons de_int (da_cons (de_var 1) da_nil)))))) db_nil)
  (db_cons (ds_if (dt_cmp (od_in (hu65 hr)) (de_var 0) (de_str (s := "123456789"))) (db_one (ds_ret (de_tup (da_cons (de_str (s := "figures")) (da_cons de_int (da_cons (de_var 1) da_nil)))))) db_nil)
  (db_cons (ds_if (dt_cmp (od_in (hu65 hr)) (de_var 0) (de_str (s := "abcdefghijklmnopqrstuvwxyz"))) (db_one (ds_ret (de_tup (da_cons (de_str (s := "token")) (da_cons de_int (da_cons (de_var 1) da_nil)))))) db_nil)
  (db_one (ds_ret de_non)))))))
def u__law_step (K : PySem.W.Frag) (c : Cs) (sp__law_first : FS) : US := (usSeq (usSet 2 (uBin dIx (uVar 0) (uC (.int 0))))
  (usSeq (usSet 3 (uBin dIx (uVar 0) (uC (.int 1))))
  (usSeq (usSet 4 (uBin dIx (uVar 0) (uC (.int 2))))
  (usSeq (usIf (uOr (uTb (uBin dEq (uVar 2) (uC (.str (cs "start"))))) (uAnd (uTb (uBin dEq (uVar 2) (uC (.str (cs "opened"))))) (uTb (uBin dNe (uVar 1) (uC (.str (cs ")"))))))) (usRet (uCall (sp__law_first) gId (uA1 2 (uCons (uVar 1) (uCons (uVar 4) uNil))))) usNil)
  (usSeq (usIf (uTb (uBin dEq (uVar 2) (uC (.str (cs "minus"))))) (usRet (uIte (uTb (uBin dIn1 (uVar 1) (uC (.str (cs "123456789"))))) (uTup (uCons (uC (.str (cs "figures"))) (uCons (uC (.int 1)) (uCons (uVar 4) uNil)))) (uC .non))) usNil)
  (usSeq (usIf (uAnd (uTb (uBin dEq (uVar 2) (uC (.str (cs "figures"))))) (uTb (uBin dIn1 (uVar 1) (uC (.str (cs "0123456789")))))) (usRet (uIte (uTb (uBin dLt (uVar 3) (uC (.int 12)))) (uTup (uCons (uC (.str (cs "figures"))) (uCons (uBin dAdd (uVar 3) (uC (.int 1))) (uCons (uVar 4) uNil)))) (uC .non))) usNil)
  (usSeq (usIf (uAnd (uTb (uBin dEq (uVar 2) (uC (.str (cs "token"))))) (uTb (uBin dIn1 (uVar 1) (uC (.str (cs "abcdefghijklmnopqrstuvwxyz0123456789")))))) (usRet (uIte (uTb (uBin dLt (uVar 3) (uC (.int 12)))) (uTup (uCons (uC (.str (cs "token"))) (uCons (uBin dAdd (uVar 3) (uC (.int 1))) (uCons (uVar 4) uNil)))) (uC .non))) usNil)
  (usSeq (usIf (uTb (uBin dEq (uVar 4) (uC (.int 0)))) (usRet (uC .non)) usNil)
  (usSeq (usIf (uTb (uBin dEq (uVar 1) (uC (.str (cs ")"))))) (usRet (uTup (uCons (uC (.str (cs "ended"))) (uCons (uC (.int 0)) (uCons (uBin dSub (uVar 4) (uC (.int 1))) uNil))))) usNil)
  (usRet (uIte (uTb (uBin dEq (uVar 1) (uC (.str (cs ","))))) (uTup (uCons (uC (.str (cs "start"))) (uCons (uC (.int 0)) (uCons (uVar 4) uNil)))) (uC .non))))))))))))
theorem der__law_step {cdv : Value} {A : Around} {outer : List Env} {s : Shared} {H : Hp} {E : XK} {f : Addr} {sp__law_first : FS} (B : Bs K mg c) (h__law_first : FF P w K mg base "_law_first" 1 ps__law_first (sp__law_first) 2 [] gId) (hr : Room 1 (A.deeper (PyProof.Rows.envOfC "_law_step" (defScope s__law_step) s.heap.objs.size f cdv))) :
    DB (cxOf (L2.CX P w) P w K mg base N__law_step "_law_step" (defScope s__law_step) f cdv A outer s H E) (defBody s__law_step) (u__law_step K c sp__law_first) :=
  (db_cons (ds_set 2 sc__law_step.nd (de_ix (de_var 0) de_int))
  (db_cons (ds_set 3 sc__law_step.nd (de_ix (de_var 0) de_int))
  (db_cons (ds_set 4 sc__law_step.nd (de_ix (de_var 0) de_int))
  (db_cons (ds_if (dt_bool (dw_or (dt_cmp (od_eq (hu64 hr)) (de_var 2) (de_str (s := "start"))) (dw_or1 (dt_bool (dw_and (dt_cmp (od_eq (hu64 hr)) (de_var 2) (de_str (s := "opened"))) (dw_and1 (dt_cmp (od_ne (hu64 hr)) (de_var 1) (de_str (s := ")"))))))))) (db_one (ds_ret (de_ff h__law_first hr (dar1 (da_cons (de_var 1) (da_cons (de_var 4) da_nil)))))) db_nil)
  (db_cons (ds_if (dt_cmp (od_eq (hu64 hr)) (de_var 2) (de_str (s := "minus"))) (db_one (ds_ret (de_ite (dt_cmp (od_in (hu65 hr)) (de_var 1) (de_str (s := "123456789"))) (de_tup (da_cons (de_str (s := "figures")) (da_cons de_int (da_cons (de_var 4) da_nil)))) de_non))) db_nil)
  (db_cons (ds_if (dt_bool (dw_and (dt_cmp (od_eq (hu64 hr)) (de_var 2) (de_str (s := "figures"))) (dw_and1 (dt_cmp (od_in (hu65 hr)) (de_var 1) (de_str (s := "0123456789")))))) (db_one (ds_ret (de_ite (dt_cmp od_lt (de_var 3) de_int) (de_tup (da_cons (de_str (s := "figures")) (da_cons (de_bin od_add (de_var 3) de_int) (da_cons (de_var 4) da_nil)))) de_non))) db_nil)
  (db_cons (ds_if (dt_bool (dw_and (dt_cmp (od_eq (hu64 hr)) (de_var 2) (de_str (s := "token"))) (dw_and1 (dt_cmp (od_in (hu65 hr)) (de_var 1) (de_str (s := "abcdefghijklmnopqrstuvwxyz0123456789")))))) (db_one (ds_ret (de_ite (dt_cmp od_lt (de_var 3) de_int) (de_tup (da_cons (de_str (s := "token")) (da_cons (de_bin od_add (de_var 3) de_int) (da_cons (de_var 4) da_nil)))) de_non))) db_nil)
  (db_cons (ds_if (dt_cmp (od_eq (hu64 hr)) (de_var 4) de_int) (db_one (ds_ret de_non)) db_nil)
  (db_cons (ds_if (dt_cmp (od_eq (hu64 hr)) (de_var 1) (de_str (s := ")"))) (db_one (ds_ret (de_tup (da_cons (de_str (s := "ended")) (da_cons de_int (da_cons (de_bin od_sub (de_var 4) de_int) da_nil)))))) db_nil)
  (db_one (ds_ret (de_ite (dt_cmp (od_eq (hu64 hr)) (de_var 1) (de_str (s := ","))) (de_tup (da_cons (de_str (s := "start")) (da_cons de_int (da_cons (de_var 4) da_nil)))) de_non))))))))))))
def u__law_whole (K : PySem.W.Frag) (c : Cs) : US := (usRet (uAndV (uBin dEq (uBin dIx (uVar 0) (uC (.int 2))) (uC (.int 0))) (uBin dIn1 (uBin dIx (uVar 0) (uC (.int 0))) (uTup (uCons (uC (.str (cs "ended"))) (uCons (uC (.str (cs "figures"))) (uCons (uC (.str (cs "token"))) uNil)))))))
theorem der__law_whole {cdv : Value} {A : Around} {outer : List Env} {s : Shared} {H : Hp} {E : XK} {f : Addr} (B : Bs K mg c) (hr : Room 0 (A.deeper (PyProof.Rows.envOfC "_law_whole" (defScope s__law_whole) s.heap.objs.size f cdv))) :
    DB (cxOf (L2.CX P w) P w K mg base N__law_whole "_law_whole" (defScope s__law_whole) f cdv A outer s H E) (defBody s__law_whole) (u__law_whole K c) :=
  (db_one (ds_ret (de_and (de_cmp (od_eq (hu64 hr)) (de_ix (de_var 0) de_int) de_int) (de_one (de_cmp (od_in (hu65 hr)) (de_ix (de_var 0) de_int) (de_tup (da_cons (de_str (s := "ended")) (da_cons (de_str (s := "figures")) (da_cons (de_str (s := "token")) da_nil)))))))))
def u__law_atom (K : PySem.W.Frag) (c : Cs) (sp__law_draw : FS) : US := (usSeq (usSet 1 (uCall (sp__law_draw) gId (uA1 2 (uCons (uVar 0) (uCons (uC (.int 6)) uNil)))))
  (usSeq (usIf (uTb (uBin dLt (uVar 1) (uC (.int 3)))) (usRet (uBin dIx (uLst (uCons (uC (.str (cs "N"))) (uCons (uC (.str (cs "T"))) (uCons (uC (.str (cs "F"))) (uCons (uC (.str (cs "0"))) uNil))))) (uCall (sp__law_draw) gId (uA1 2 (uCons (uVar 0) (uCons (uC (.int 4)) uNil)))))) usNil)
  (usSeq (usSet 2 (uBin dIx (uLst (uCons (uC (.int 1)) (uCons (uC (.int 2)) (uCons (uC (.int 11)) (uCons (uC (.int 12)) (uCons (uBin dAdd (uC (.int 1)) (uCall (sp__law_draw) gId (uA1 2 (uCons (uVar 0) (uCons (uC (.int 12)) uNil))))) uNil)))))) (uCall (sp__law_draw) gId (uA1 2 (uCons (uVar 0) (uCons (uC (.int 5)) uNil))))))
  (usSeq (usIf (uTb (uBin dLt (uVar 1) (uC (.int 5)))) (usSeq (usSet 3 (uBin dAdd (uBin dMulS (uC (.str (cs "-"))) (uCall (sp__law_draw) gId (uA1 2 (uCons (uVar 0) (uCons (uC (.int 2)) uNil))))) (uBin dIx (uC (.str (cs "123456789"))) (uCall (sp__law_draw) gId (uA1 2 (uCons (uVar 0) (uCons (uC (.int 9)) uNil)))))))
  (usSeq (usFor (isRng (uBin dSub (uVar 2) (uC (.int 1)))) (ugName 4) (usSet 3 (uBin dAdd (uVar 3) (uBin dIx (uC (.str (cs "0123456789"))) (uCall (sp__law_draw) gId (uA1 2 (uCons (uVar 0) (uCons (uC (.int 10)) uNil))))))))
  (usRet (uVar 3)))) usNil)
  (usSeq (usSet 3 (uBin dIx (uC (.str (cs "abcdefghijklmnopqrstuvwxyz"))) (uCall (sp__law_draw) gId (uA1 2 (uCons (uVar 0) (uCons (uC (.int 26)) uNil))))))
  (usSeq (usFor (isRng (uBin dSub (uVar 2) (uC (.int 1)))) (ugName 4) (usSet 3 (uBin dAdd (uVar 3) (uBin dIx (uC (.str (cs "abcdefghijklmnopqrstuvwxyz0123456789"))) (uCall (sp__law_draw) gId (uA1 2 (uCons (uVar 0) (uCons (uC (.int 36)) uNil))))))))
  (usRet (uVar 3))))))))
theorem der__law_atom {cdv : Value} {A : Around} {outer : List Env} {s : Shared} {H : Hp} {E : XK} {f : Addr} {sp__law_draw : FS} (B : Bs K mg c) (h__law_draw : FF P w K mg base "_law_draw" 1 ps__law_draw (sp__law_draw) 2 [] gId) (hr : Room 1 (A.deeper (PyProof.Rows.envOfC "_law_atom" (defScope s__law_atom) s.heap.objs.size f cdv))) :
    DB (cxOf (L2.CX P w) P w K mg base N__law_atom "_law_atom" (defScope s__law_atom) f cdv A outer s H E) (defBody s__law_atom) (u__law_atom K c sp__law_draw) :=
  (db_cons (ds_set 1 sc__law_atom.nd (de_ff h__law_draw hr (dar1 (da_cons (de_var 0) (da_cons de_int da_nil)))))
  (db_cons (ds_if (dt_cmp od_lt (de_var 1) de_int) (db_one (ds_ret (de_ix (de_lst (da_cons (de_str (s := "N")) (da_cons (de_str (s := "T")) (da_cons (de_str (s := "F")) (da_cons (de_str (s := "0")) da_nil))))) (de_ff h__law_draw hr (dar1 (da_cons (de_var 0) (da_cons de_int da_nil))))))) db_nil)
  (db_cons (ds_set 2 sc__law_atom.nd (de_ix (de_lst (da_cons de_int (da_cons de_int (da_cons de_int (da_cons de_int (da_cons (de_bin od_add de_int (de_ff h__law_draw hr (dar1 (da_cons (de_var 0) (da_cons de_int da_nil))))) da_nil)))))) (de_ff h__law_draw hr (dar1 (da_cons (de_var 0) (da_cons de_int da_nil))))))
  (db_cons (ds_if (dt_cmp od_lt (de_var 1) de_int) (db_cons (ds_set 3 sc__law_atom.nd (de_bin od_add (de_bin od_mulS (de_str (s := "-")) (de_ff h__law_draw hr (dar1 (da_cons (de_var 0) (da_cons de_int da_nil))))) (de_ix (de_str (s := "123456789")) (de_ff h__law_draw hr (dar1 (da_cons (de_var 0) (da_cons de_int da_nil)))))))
  (db_cons (ds_for (passes_of rfl) rfl (di_rng (da_cons (de_bin od_sub (de_var 2) de_int) da_nil) rfl B.n_range) (dg_name 4 sc__law_atom.nd) (db_one (ds_set 3 sc__law_atom.nd (de_bin od_add (de_var 3) (de_ix (de_str (s := "0123456789")) (de_ff h__law_draw hr (dar1 (da_cons (de_var 0) (da_cons de_int da_nil)))))))))
  (db_one (ds_ret (de_var 3))))) db_nil)
  (db_cons (ds_set 3 sc__law_atom.nd (de_ix (de_str (s := "abcdefghijklmnopqrstuvwxyz")) (de_ff h__law_draw hr (dar1 (da_cons (de_var 0) (da_cons de_int da_nil))))))
  (db_cons (ds_for (passes_of rfl) rfl (di_rng (da_cons (de_bin od_sub (de_var 2) de_int) da_nil) rfl B.n_range) (dg_name 4 sc__law_atom.nd) (db_one (ds_set 3 sc__law_atom.nd (de_bin od_add (de_var 3) (de_ix (de_str (s := "abcdefghijklmnopqrstuvwxyz0123456789")) (de_ff h__law_draw hr (dar1 (da_cons (de_var 0) (da_cons de_int da_nil)))))))))
  (db_one (ds_ret (de_var 3)))))))))
def u__law_text (K : PySem.W.Frag) (c : Cs) (sp__law_draw : FS) (sp__law_atom : FS) : US := (usSeq (usSet 1 (uBin dIx (uLst (uCons (uC (.int 0)) (uCons (uC (.int 1)) (uCons (uC (.int 1)) (uCons (uC (.int 2)) (uCons (uC (.int 3)) (uCons (uC (.int 19)) (uCons (uC (.int 20)) (uCons (uC (.int 20)) uNil))))))))) (uCall (sp__law_draw) gId (uA1 2 (uCons (uVar 0) (uCons (uC (.int 8)) uNil))))))
  (usSeq (usIf (uTb (uBin dEq (uCall (sp__law_draw) gId (uA1 2 (uCons (uVar 0) (uCons (uC (.int 5)) uNil)))) (uC (.int 0)))) (usSeq (usSet 2 (uSl (uCall (sp__law_atom) gId (uA1 1 (uCons (uVar 0) uNil))) uNoPart (uPart (uC (.int 2)))))
  (usRet (uBin dAdd (uBin dAdd (uC (.str (cs "("))) (uBM "str" gJoin' (uC (.str (cs ","))) (uCons (uLc (isRng (uBin dAdd (uC (.int 30)) (uCall (sp__law_draw) gId (uA1 2 (uCons (uVar 0) (uCons (uC (.int 31)) uNil)))))) (ugName 3) utYes (uVar 2) [3]) uNil))) (uC (.str (cs ")")))))) usNil)
  (usSeq (usIf (uTb (uBin dEq (uVar 1) (uC (.int 0)))) (usRet (uCall (sp__law_atom) gId (uA1 1 (uCons (uVar 0) uNil)))) usNil)
  (usSeq (usSet 4 (uC (.str (cs ""))))
  (usSeq (usFor (isRng (uVar 1)) (ugName 3) (usSeq (usSet 4 (uBin dAdd (uVar 4) (uC (.str (cs "(")))))
  (usIf (uAnd (uTb (uBin dLt (uVar 3) (uC (.int 3)))) (uAnd (uTb (uBin dLt (uVar 3) (uBin dSub (uVar 1) (uC (.int 1))))) (uTb (uBin dEq (uCall (sp__law_draw) gId (uA1 2 (uCons (uVar 0) (uCons (uC (.int 3)) uNil)))) (uC (.int 0)))))) (usSet 4 (uBin dAdd (uBin dAdd (uVar 4) (uCall (sp__law_atom) gId (uA1 1 (uCons (uVar 0) uNil)))) (uC (.str (cs ","))))) usNil)))
  (usSeq (usSet 4 (uBin dAdd (uVar 4) (uBM "str" gJoin' (uC (.str (cs ","))) (uCons (uLc (isRng (uCall (sp__law_draw) gId (uA1 2 (uCons (uVar 0) (uCons (uC (.int 4)) uNil))))) (ugName 3) utYes (uCall (sp__law_atom) gId (uA1 1 (uCons (uVar 0) uNil))) [3]) uNil))))
  (usSeq (usFor (isRng (uVar 1)) (ugName 3) (usSeq (usSet 4 (uBin dAdd (uVar 4) (uC (.str (cs ")")))))
  (usIf (uAnd (uTb (uBin dLt (uVar 3) (uC (.int 3)))) (uAnd (uTb (uBin dLt (uVar 3) (uBin dSub (uVar 1) (uC (.int 1))))) (uTb (uBin dEq (uCall (sp__law_draw) gId (uA1 2 (uCons (uVar 0) (uCons (uC (.int 3)) uNil)))) (uC (.int 0)))))) (usSet 4 (uBin dAdd (uBin dAdd (uVar 4) (uC (.str (cs ",")))) (uCall (sp__law_atom) gId (uA1 1 (uCons (uVar 0) uNil))))) usNil)))
  (usRet (uVar 4)))))))))
theorem der__law_text {cdv : Value} {A : Around} {outer : List Env} {s : Shared} {H : Hp} {E : XK} {f : Addr} {sp__law_draw : FS} {sp__law_atom : FS} (B : Bs K mg c) (h__law_draw : FF P w K mg base "_law_draw" 1 ps__law_draw (sp__law_draw) 2 [] gId) (h__law_atom : FF P w K mg base "_law_atom" 2 ps__law_atom (sp__law_atom) 1 [] gId) (hr : Room 2 (A.deeper (PyProof.Rows.envOfC "_law_text" (defScope s__law_text) s.heap.objs.size f cdv))) :
    DB (cxOf (L2.CX P w) P w K mg base N__law_text "_law_text" (defScope s__law_text) f cdv A outer s H E) (defBody s__law_text) (u__law_text K c sp__law_draw sp__law_atom) :=
  (db_cons (ds_set 1 sc__law_text.nd (de_ix (de_lst (da_cons de_int (da_cons de_int (da_cons de_int (da_cons de_int (da_cons de_int (da_cons de_int (da_cons de_int (da_cons de_int da_nil))))))))) (de_ff h__law_draw hr (dar1 (da_cons (de_var 0) (da_cons de_int da_nil))))))
  (db_cons (ds_if (dt_cmp (od_eq (hu64 hr)) (de_ff h__law_draw hr (dar1 (da_cons (de_var 0) (da_cons de_int da_nil)))) de_int) (db_cons (ds_set 2 sc__law_text.nd (de_slice (de_ff h__law_atom hr (dar1 (da_cons (de_var 0) da_nil))) do_none (do_some de_int)))
  (db_one (ds_ret (de_bin od_add (de_bin od_add (de_str (s := "(")) (de_bm PySem.F.plainAttrs_str PySem.F.slot_str_join PySem.F.type_str_join md_join (de_str (s := ",")) (da_cons (de_lcv [(("k" : Str), 3)] rfl sc__law_text.nd (di_rng (da_cons (de_bin od_add de_int (de_ff h__law_draw hr (dar1 (da_cons (de_var 0) (da_cons de_int da_nil))))) da_nil) rfl B.n_range) (blkOk_by (N := N__law_text) (sc := defScope s__law_text) (by decide +kernel)) (gr_name (i := 3)) (fun _ _ _ _ _ => (pg_name (i := 3) sc__law_text.nd rfl (Or.inl rfl))) (fun _ _ _ _ _ => dts_nil) (fun _ _ _ _ _ => (de_var 2))) da_nil))) (de_str (s := ")")))))) db_nil)
  (db_cons (ds_if (dt_cmp (od_eq (hu64 hr)) (de_var 1) de_int) (db_one (ds_ret (de_ff h__law_atom hr (dar1 (da_cons (de_var 0) da_nil))))) db_nil)
  (db_cons (ds_set 4 sc__law_text.nd (de_str (s := "")))
  (db_cons (ds_for (passes_of rfl) rfl (di_rng (da_cons (de_var 1) da_nil) rfl B.n_range) (dg_name 3 sc__law_text.nd) (db_cons (ds_set 4 sc__law_text.nd (de_bin od_add (de_var 4) (de_str (s := "("))))
  (db_one (ds_if (dt_bool (dw_and (dt_cmp od_lt (de_var 3) de_int) (dw_and (dt_cmp od_lt (de_var 3) (de_bin od_sub (de_var 1) de_int)) (dw_and1 (dt_cmp (od_eq (hu64 hr)) (de_ff h__law_draw hr (dar1 (da_cons (de_var 0) (da_cons de_int da_nil)))) de_int))))) (db_one (ds_set 4 sc__law_text.nd (de_bin od_add (de_bin od_add (de_var 4) (de_ff h__law_atom hr (dar1 (da_cons (de_var 0) da_nil)))) (de_str (s := ","))))) db_nil))))
  (db_cons (ds_set 4 sc__law_text.nd (de_bin od_add (de_var 4) (de_bm PySem.F.plainAttrs_str PySem.F.slot_str_join PySem.F.type_str_join md_join (de_str (s := ",")) (da_cons (de_lcv [(("k" : Str), 3)] rfl sc__law_text.nd (di_rng (da_cons (de_ff h__law_draw hr (dar1 (da_cons (de_var 0) (da_cons de_int da_nil)))) da_nil) rfl B.n_range) (blkOk_by (N := N__law_text) (sc := defScope s__law_text) (by decide +kernel)) (gr_name (i := 3)) (fun _ _ _ _ _ => (pg_name (i := 3) sc__law_text.nd rfl (Or.inl rfl))) (fun _ _ _ _ _ => dts_nil) (fun _ _ _ _ _ => (de_ff h__law_atom hr (dar1 (da_cons (de_var 0) da_nil))))) da_nil))))
  (db_cons (ds_for (passes_of rfl) rfl (di_rng (da_cons (de_var 1) da_nil) rfl B.n_range) (dg_name 3 sc__law_text.nd) (db_cons (ds_set 4 sc__law_text.nd (de_bin od_add (de_var 4) (de_str (s := ")"))))
  (db_one (ds_if (dt_bool (dw_and (dt_cmp od_lt (de_var 3) de_int) (dw_and (dt_cmp od_lt (de_var 3) (de_bin od_sub (de_var 1) de_int)) (dw_and1 (dt_cmp (od_eq (hu64 hr)) (de_ff h__law_draw hr (dar1 (da_cons (de_var 0) (da_cons de_int da_nil)))) de_int))))) (db_one (ds_set 4 sc__law_text.nd (de_bin od_add (de_bin od_add (de_var 4) (de_str (s := ","))) (de_ff h__law_atom hr (dar1 (da_cons (de_var 0) da_nil)))))) db_nil))))
  (db_one (ds_ret (de_var 4))))))))))
def u__law_atom_value (K : PySem.W.Frag) (c : Cs) : US := (usSeq (usIf (uTb (uBin dEq (uVar 0) (uC (.str (cs "N"))))) (usRet (uC .non)) usNil)
  (usSeq (usIf (uTb (uBin dEq (uVar 0) (uC (.str (cs "T"))))) (usRet (uC (.bl true))) usNil)
  (usSeq (usIf (uTb (uBin dEq (uVar 0) (uC (.str (cs "F"))))) (usRet (uC (.bl false))) usNil)
  (usSeq (usIf (uTb (uBin dIn1 (uBin dIx (uVar 0) (uC (.int 0))) (uC (.str (cs "-0123456789"))))) (usRet (uFn (gP fInt) (uCons (uVar 0) uNil))) usNil)
  (usRet (uVar 0))))))
theorem der__law_atom_value {cdv : Value} {A : Around} {outer : List Env} {s : Shared} {H : Hp} {E : XK} {f : Addr} (B : Bs K mg c) (hr : Room 0 (A.deeper (PyProof.Rows.envOfC "_law_atom_value" (defScope s__law_atom_value) s.heap.objs.size f cdv))) :
    DB (cxOf (L2.CX P w) P w K mg base N__law_atom_value "_law_atom_value" (defScope s__law_atom_value) f cdv A outer s H E) (defBody s__law_atom_value) (u__law_atom_value K c) :=
  (db_cons (ds_if (dt_cmp (od_eq (hu64 hr)) (de_var 0) (de_str (s := "N"))) (db_one (ds_ret de_non)) db_nil)
  (db_cons (ds_if (dt_cmp (od_eq (hu64 hr)) (de_var 0) (de_str (s := "T"))) (db_one (ds_ret de_bl)) db_nil)
  (db_cons (ds_if (dt_cmp (od_eq (hu64 hr)) (de_var 0) (de_str (s := "F"))) (db_one (ds_ret de_bl)) db_nil)
  (db_cons (ds_if (dt_cmp (od_in (hu65 hr)) (de_ix (de_var 0) de_int) (de_str (s := "-0123456789"))) (db_one (ds_ret (de_fnT cd_int B.n_int (by decide +kernel) (da_cons (de_var 0) da_nil)))) db_nil)
  (db_one (ds_ret (de_var 0)))))))
def u__law_value (K : PySem.W.Frag) (c : Cs) (sp__law_atom_value : FS) : US := (usSeq (usSet 1 (uLst (uCons (uLst uNil) uNil)))
  (usSeq (usSet 2 (uC (.str (cs ""))))
  (usSeq (usFor (isSeq (uBin dAdd (uVar 0) (uC (.str (cs ","))))) (ugName 3) (usIf (uTb (uBin dEq (uVar 3) (uC (.str (cs "("))))) (usExpr (uBM "list" gAppend (uVar 1) (uCons (uLst uNil) uNil))) (usIf (uOr (uTb (uBin dEq (uVar 3) (uC (.str (cs ","))))) (uTb (uBin dEq (uVar 3) (uC (.str (cs ")")))))) (usSeq (usSet 4 (uBin dIx (uVar 1) (uUn dNeg (uC (.int 1)))))
  (usSeq (usIf (uTb (uBin dNe (uVar 2) (uC (.str (cs ""))))) (usSeq (usExpr (uBM "list" gAppend (uVar 4) (uCons (uCall (sp__law_atom_value) gId (uA1 1 (uCons (uVar 2) uNil))) uNil)))
  (usSet 2 (uC (.str (cs ""))))) usNil)
  (usIf (uTb (uBin dEq (uVar 3) (uC (.str (cs ")"))))) (usSeq (usSet 4 (uBM0 "list" gPop (uVar 1)))
  (usSeq (usSet 5 (uBin dIx (uVar 1) (uUn dNeg (uC (.int 1)))))
  (usExpr (uBM "list" gAppend (uVar 5) (uCons (uFn (gP fTup) (uCons (uVar 4) uNil)) uNil))))) usNil))) (usSet 2 (uBin dAdd (uVar 2) (uVar 3))))))
  (usRet (uBin dIx (uBin dIx (uVar 1) (uC (.int 0))) (uC (.int 0)))))))
theorem der__law_value {cdv : Value} {A : Around} {outer : List Env} {s : Shared} {H : Hp} {E : XK} {f : Addr} {sp__law_atom_value : FS} (B : Bs K mg c) (h__law_atom_value : FF P w K mg base "_law_atom_value" 1 ps__law_atom_value (sp__law_atom_value) 1 [] gId) (hr : Room 1 (A.deeper (PyProof.Rows.envOfC "_law_value" (defScope s__law_value) s.heap.objs.size f cdv))) :
    DB (cxOf (L2.CX P w) P w K mg base N__law_value "_law_value" (defScope s__law_value) f cdv A outer s H E) (defBody s__law_value) (u__law_value K c sp__law_atom_value) :=
  (db_cons (ds_set 1 sc__law_value.nd (de_lst (da_cons (de_lst da_nil) da_nil)))
  (db_cons (ds_set 2 sc__law_value.nd (de_str (s := "")))
  (db_cons (ds_for (passes_of rfl) rfl (di_seq (de_bin od_add (de_var 0) (de_str (s := ",")))) (dg_name 3 sc__law_value.nd) (db_one (ds_if (dt_cmp (od_eq (hu64 hr)) (de_var 3) (de_str (s := "("))) (db_one (ds_expr (de_bm PySem.F.plainAttrs_list PySem.F.slot_list_append PySem.F.type_list_append md_append (de_var 1) (da_cons (de_lst da_nil) da_nil)))) (db_one (ds_if (dt_bool (dw_or (dt_cmp (od_eq (hu64 hr)) (de_var 3) (de_str (s := ","))) (dw_or1 (dt_cmp (od_eq (hu64 hr)) (de_var 3) (de_str (s := ")")))))) (db_cons (ds_set 4 sc__law_value.nd (de_ix (de_var 1) (de_neg de_int)))
  (db_cons (ds_if (dt_cmp (od_ne (hu64 hr)) (de_var 2) (de_str (s := ""))) (db_cons (ds_expr (de_bm PySem.F.plainAttrs_list PySem.F.slot_list_append PySem.F.type_list_append md_append (de_var 4) (da_cons (de_ff h__law_atom_value hr (dar1 (da_cons (de_var 2) da_nil))) da_nil)))
  (db_one (ds_set 2 sc__law_value.nd (de_str (s := ""))))) db_nil)
  (db_one (ds_if (dt_cmp (od_eq (hu64 hr)) (de_var 3) (de_str (s := ")"))) (db_cons (ds_set 4 sc__law_value.nd (de_bm0 PySem.F.plainAttrs_list PySem.F.slot_list_pop PySem.F.type_list_pop md_pop (de_var 1)))
  (db_cons (ds_set 5 sc__law_value.nd (de_ix (de_var 1) (de_neg de_int)))
  (db_one (ds_expr (de_bm PySem.F.plainAttrs_list PySem.F.slot_list_append PySem.F.type_list_append md_append (de_var 5) (da_cons (de_fnT cd_tup B.n_tuple (by decide +kernel) (da_cons (de_var 4) da_nil)) da_nil)))))) db_nil)))) (db_one (ds_set 2 sc__law_value.nd (de_bin od_add (de_var 2) (de_var 3)))))))))
  (db_one (ds_ret (de_ix (de_ix (de_var 1) de_int) de_int))))))
def u__law_same (K : PySem.W.Frag) (c : Cs) (sp__law_same : FS) : US := (usSeq (usIf (uTru (uIsi ["tuple"] (uVar 1))) (usSeq (usIf (uOr (uNot (uTru (uIsi ["tuple"] (uVar 0)))) (uTb (uBin dNe (uFn (gP fLen) (uCons (uVar 0) uNil)) (uFn (gP fLen) (uCons (uVar 1) uNil))))) (usRet (uC (.bl false))) usNil)
  (usSeq (usFor (isRng (uFn (gP fLen) (uCons (uVar 1) uNil))) (ugName 2) (usIf (uNot (uTru (uCall (sp__law_same) gId (uA1 2 (uCons (uBin dIx (uVar 0) (uVar 2)) (uCons (uBin dIx (uVar 1) (uVar 2)) uNil)))))) (usRet (uC (.bl false))) usNil))
  (usRet (uC (.bl true))))) usNil)
  (usSeq (usIf (uTb (uBin dIs (uVar 1) (uC .non))) (usRet (uBin dIs (uVar 0) (uC .non))) usNil)
  (usSeq (usIf (uTb (uBin dIs (uVar 1) (uC (.bl true)))) (usRet (uBin dIs (uVar 0) (uC (.bl true)))) usNil)
  (usSeq (usIf (uTb (uBin dIs (uVar 1) (uC (.bl false)))) (usRet (uBin dIs (uVar 0) (uC (.bl false)))) usNil)
  (usSeq (usIf (uTru (uIsi ["int"] (uVar 1))) (usRet (uAndV (uIsi ["int"] (uVar 0)) (uAndV (uNotV (uIsi ["bool"] (uVar 0))) (uBin dEq (uVar 0) (uVar 1))))) usNil)
  (usRet (uAndV (uIsi ["str"] (uVar 0)) (uBin dEq (uVar 0) (uVar 1)))))))))
theorem der__law_same {cdv : Value} {A : Around} {outer : List Env} {s : Shared} {H : Hp} {E : XK} {f : Addr} {sp__law_same : FS} (B : Bs K mg c) {m : Nat} (hm : 2 ≤ m) (h__law_same : FF P w K mg base "_law_same" m ps__law_same (sp__law_same) 2 [] gId) (hr : Room m (A.deeper (PyProof.Rows.envOfC "_law_same" (defScope s__law_same) s.heap.objs.size f cdv))) :
    DB (cxOf (L2.CX P w) P w K mg base N__law_same "_law_same" (defScope s__law_same) f cdv A outer s H E) (defBody s__law_same) (u__law_same K c sp__law_same) :=
  (db_cons (ds_if (dt_val (de_isi (de_var 1) B.n_isinstance B.n_tuple (by decide +kernel))) (db_cons (ds_if (dt_bool (dw_or (dt_not (dt_val (de_isi (de_var 0) B.n_isinstance B.n_tuple (by decide +kernel)))) (dw_or1 (dt_cmp (od_ne (hu64 hr)) (de_fnB cd_len B.n_len (by decide +kernel) (da_cons (de_var 0) da_nil)) (de_fnB cd_len B.n_len (by decide +kernel) (da_cons (de_var 1) da_nil)))))) (db_one (ds_ret de_bl)) db_nil)
  (db_cons (ds_for (passes_of rfl) rfl (di_rng (da_cons (de_fnB cd_len B.n_len (by decide +kernel) (da_cons (de_var 1) da_nil)) da_nil) rfl B.n_range) (dg_name 2 sc__law_same.nd) (db_one (ds_if (dt_not (dt_val (de_ff h__law_same hr (dar1 (da_cons (de_ix (de_var 0) (de_var 2)) (da_cons (de_ix (de_var 1) (de_var 2)) da_nil))) (hk := Nat.le_refl _)))) (db_one (ds_ret de_bl)) db_nil)))
  (db_one (ds_ret de_bl)))) db_nil)
  (db_cons (ds_if (dt_cmp od_is (de_var 1) de_non) (db_one (ds_ret (de_cmp od_is (de_var 0) de_non))) db_nil)
  (db_cons (ds_if (dt_cmp od_is (de_var 1) de_bl) (db_one (ds_ret (de_cmp od_is (de_var 0) de_bl))) db_nil)
  (db_cons (ds_if (dt_cmp od_is (de_var 1) de_bl) (db_one (ds_ret (de_cmp od_is (de_var 0) de_bl))) db_nil)
  (db_cons (ds_if (dt_val (de_isi (de_var 1) B.n_isinstance B.n_int (by decide +kernel))) (db_one (ds_ret (de_and (de_isi (de_var 0) B.n_isinstance B.n_int (by decide +kernel)) (de_and (de_not (de_isi (de_var 0) B.n_isinstance B.n_bool (by decide +kernel))) (de_one (de_cmp (od_eq (hu64 hr)) (de_var 0) (de_var 1))))))) db_nil)
  (db_one (ds_ret (de_and (de_isi (de_var 0) B.n_isinstance B.n_str (by decide +kernel)) (de_one (de_cmp (od_eq (hu64 hr)) (de_var 0) (de_var 1)))))))))))
def u__law_told (K : PySem.W.Frag) (c : Cs) (sp_read_value : FS) : US := (usTryAs K (.ref c.InvalidText) 1 (usRet (uTup (uCons (uC (.str (cs "value"))) (uCons (uCall (sp_read_value) gId (uA1 1 (uCons (uVar 0) uNil))) uNil)))) (fun a cls d => (usSeq (usSet 2 (uAndV (uIsE K a c.InvalidText d cls (.ref c.ShopError) (uVar 1)) (uIsE K a c.InvalidText d cls (.type "ValueError") (uVar 1))))
  (usSeq (usSet 2 (uAndV (uVar 2) (uAndV (uNotV (uIsE K a c.InvalidText d cls (.ref c.InvalidValue) (uVar 1))) (uNotV (uIsE K a c.InvalidText d cls (.ref c.InvalidDeed) (uVar 1))))))
  (usRet (uTup (uCons (uC (.str (cs "wrong"))) (uCons (uExF a c.InvalidText cls d "text" (uVar 1)) (uCons (uExF a c.InvalidText cls d "at" (uVar 1)) (uCons (uVar 2) uNil))))))))))
theorem der__law_told {cdv : Value} {A : Around} {outer : List Env} {s : Shared} {H : Hp} {E : XK} {f : Addr} {sp_read_value : FS} (B : Bs K mg c) (h_read_value : FF P w K mg base "read_value" 4 ps_read_value (sp_read_value) 1 [] gId) (hr : Room 4 (A.deeper (PyProof.Rows.envOfC "_law_told" (defScope s__law_told) s.heap.objs.size f cdv))) :
    DB (cxOf (L2.CX P w) P w K mg base N__law_told "_law_told" (defScope s__law_told) f cdv A outer s H E) (defBody s__law_told) (u__law_told K c sp_read_value) :=
  (db_one (ds_try_as 1 rfl rfl sc__law_told.nd (names_own B.c_InvalidText) (fun pn xe po => (db_one (ds_ret (de_tup (da_cons (de_str (s := "value")) (da_cons (de_ff h_read_value hr (dar1 (da_cons (de_var 0) da_nil))) da_nil)))))) (fun a oe cls d pn hz hd => (db_cons (ds_set 2 sc__law_told.nd (de_and (de_isEo B.xc_InvalidText hz hd (de_var 1) B.n_isinstance B.c_ShopError) (de_one (de_isEb B.xc_InvalidText hz hd (de_var 1) B.n_isinstance B.n_ValueError (by decide +kernel)))))
  (db_cons (ds_set 2 sc__law_told.nd (de_and (de_var 2) (de_and (de_not (de_isEo B.xc_InvalidText hz hd (de_var 1) B.n_isinstance B.c_InvalidValue)) (de_one (de_not (de_isEo B.xc_InvalidText hz hd (de_var 1) B.n_isinstance B.c_InvalidDeed))))))
  (db_one (ds_ret (de_tup (da_cons (de_str (s := "wrong")) (da_cons (de_exf (B.x_InvalidText_text) hz hd (de_var 1)) (da_cons (de_exf (B.x_InvalidText_at) hz hd (de_var 1)) (da_cons (de_var 2) da_nil))))))))))))
def u__law_judge (K : PySem.W.Frag) (c : Cs) (sp__law_step : FS) (sp__law_told : FS) (sp__law_whole : FS) (sp__law_value : FS) (sp__law_same : FS) (sp_is_plain : FS) (sp_write_value : FS) : US := (usSeq (usSet 3 (uBin dAdd (uVar 0) (uVar 2)))
  (usSeq (usSet 4 (uVar 1))
  (usSeq (usSet 5 (uFn (gP fLen) (uCons (uVar 3) uNil)))
  (usSeq (usFor (isRng (uFn (gP fLen) (uCons (uVar 2) uNil))) (ugName 6) (usSeq (usSet 4 (uCall (sp__law_step) gId (uA1 2 (uCons (uVar 4) (uCons (uBin dIx (uVar 2) (uVar 6)) uNil)))))
  (usIf (uTb (uBin dIs (uVar 4) (uC .non))) (usSeq (usSet 5 (uBin dAdd (uFn (gP fLen) (uCons (uVar 0) uNil)) (uVar 6)))
  usBrk) usNil)))
  (usSeq (usSet 7 (uCall (sp__law_told) gId (uA1 1 (uCons (uVar 3) uNil))))
  (usSeq (usIf (uAnd (uTb (uBin dIsNot (uVar 4) (uC .non))) (uTru (uCall (sp__law_whole) gId (uA1 1 (uCons (uVar 4) uNil))))) (usSeq (usSet 8 (uCall (sp__law_value) gId (uA1 1 (uCons (uVar 3) uNil))))
  (usSeq (usIf (uOr (uTb (uBin dNe (uBin dIx (uVar 7) (uC (.int 0))) (uC (.str (cs "value"))))) (uOr (uNot (uTru (uCall (sp__law_same) gId (uA1 2 (uCons (uBin dIx (uVar 7) (uC (.int 1))) (uCons (uVar 8) uNil)))))) (uTb (uBin dIsNot (uCall (sp_is_plain) gId (uA1 1 (uCons (uVar 8) uNil))) (uC (.bl true)))))) (usRet (uC (.bl false))) usNil)
  (usRet (uCall (sp__law_same) gId (uA1 2 (uCons (uCall (sp_write_value) gId (uA1 1 (uCons (uVar 8) uNil))) (uCons (uVar 3) uNil))))))) usNil)
  (usSeq (usIf (uOr (uTb (uBin dNe (uBin dIx (uVar 7) (uC (.int 0))) (uC (.str (cs "wrong"))))) (uNot (uTru (uBin dIx (uVar 7) (uC (.int 3)))))) (usRet (uC (.bl false))) usNil)
  (usRet (uAndV (uCall (sp__law_same) gId (uA1 2 (uCons (uBin dIx (uVar 7) (uC (.int 1))) (uCons (uVar 3) uNil)))) (uCall (sp__law_same) gId (uA1 2 (uCons (uBin dIx (uVar 7) (uC (.int 2))) (uCons (uVar 5) uNil)))))))))))))
theorem der__law_judge {cdv : Value} {A : Around} {outer : List Env} {s : Shared} {H : Hp} {E : XK} {f : Addr} {sp__law_step : FS} {sp__law_told : FS} {sp__law_whole : FS} {sp__law_value : FS} {sp__law_same : FS} {sp_is_plain : FS} {sp_write_value : FS} (B : Bs K mg c) (h__law_step : FF P w K mg base "_law_step" 2 ps__law_step (sp__law_step) 2 [] gId) (h__law_told : FF P w K mg base "_law_told" 5 ps__law_told (sp__law_told) 1 [] gId) (h__law_whole : FF P w K mg base "_law_whole" 1 ps__law_whole (sp__law_whole) 1 [] gId) (h__law_value : FF P w K mg base "_law_value" 2 ps__law_value (sp__law_value) 1 [] gId) (h__law_same : FF P w K mg base "_law_same" 30 ps__law_same (sp__law_same) 2 [] gId) (h_is_plain : FF P w K mg base "is_plain" 31 ps_is_plain (sp_is_plain) 1 [] gId) (h_write_value : FF P w K mg base "write_value" 32 ps_write_value (sp_write_value) 1 [] gId) (hr : Room 32 (A.deeper (PyProof.Rows.envOfC "_law_judge" (defScope s__law_judge) s.heap.objs.size f cdv))) :
    DB (cxOf (L2.CX P w) P w K mg base N__law_judge "_law_judge" (defScope s__law_judge) f cdv A outer s H E) (defBody s__law_judge) (u__law_judge K c sp__law_step sp__law_told sp__law_whole sp__law_value sp__law_same sp_is_plain sp_write_value) :=
  (db_cons (ds_set 3 sc__law_judge.nd (de_bin od_add (de_var 0) (de_var 2)))
  (db_cons (ds_set 4 sc__law_judge.nd (de_var 1))
  (db_cons (ds_set 5 sc__law_judge.nd (de_fnB cd_len B.n_len (by decide +kernel) (da_cons (de_var 3) da_nil)))
  (db_cons (ds_for (passes_of rfl) rfl (di_rng (da_cons (de_fnB cd_len B.n_len (by decide +kernel) (da_cons (de_var 2) da_nil)) da_nil) rfl B.n_range) (dg_name 6 sc__law_judge.nd) (db_cons (ds_set 4 sc__law_judge.nd (de_ff h__law_step hr (dar1 (da_cons (de_var 4) (da_cons (de_ix (de_var 2) (de_var 6)) da_nil)))))
  (db_one (ds_if (dt_cmp od_is (de_var 4) de_non) (db_cons (ds_set 5 sc__law_judge.nd (de_bin od_add (de_fnB cd_len B.n_len (by decide +kernel) (da_cons (de_var 0) da_nil)) (de_var 6)))
  (db_one ds_break)) db_nil))))
  (db_cons (ds_set 7 sc__law_judge.nd (de_ff h__law_told hr (dar1 (da_cons (de_var 3) da_nil))))
  (db_cons (ds_if (dt_bool (dw_and (dt_cmp od_isnot (de_var 4) de_non) (dw_and1 (dt_val (de_ff h__law_whole hr (dar1 (da_cons (de_var 4) da_nil))))))) (db_cons (ds_set 8 sc__law_judge.nd (de_ff h__law_value hr (dar1 (da_cons (de_var 3) da_nil))))
  (db_cons (ds_if (dt_bool (dw_or (dt_cmp (od_ne (hu64 hr)) (de_ix (de_var 7) de_int) (de_str (s := "value"))) (dw_or (dt_not (dt_val (de_ff h__law_same hr (dar1 (da_cons (de_ix (de_var 7) de_int) (da_cons (de_var 8) da_nil)))))) (dw_or1 (dt_cmp od_isnot (de_ff h_is_plain hr (dar1 (da_cons (de_var 8) da_nil))) de_bl))))) (db_one (ds_ret de_bl)) db_nil)
  (db_one (ds_ret (de_ff h__law_same hr (dar1 (da_cons (de_ff h_write_value hr (dar1 (da_cons (de_var 8) da_nil))) (da_cons (de_var 3) da_nil)))))))) db_nil)
  (db_cons (ds_if (dt_bool (dw_or (dt_cmp (od_ne (hu64 hr)) (de_ix (de_var 7) de_int) (de_str (s := "wrong"))) (dw_or1 (dt_not (dt_val (de_ix (de_var 7) de_int)))))) (db_one (ds_ret de_bl)) db_nil)
  (db_one (ds_ret (de_and (de_ff h__law_same hr (dar1 (da_cons (de_ix (de_var 7) de_int) (da_cons (de_var 3) da_nil)))) (de_one (de_ff h__law_same hr (dar1 (da_cons (de_ix (de_var 7) de_int) (da_cons (de_var 5) da_nil)))))))))))))))
def u__law_signs (K : PySem.W.Frag) (c : Cs) : US := (usSeq (usSet 0 (uC (.str (cs "abfntz0123456789NTFAZ(),- \n\t_+.'\"[]{}:;~!#/\\*<>=?@|"))))
  (usRet (uVar 0)))
theorem der__law_signs {cdv : Value} {A : Around} {outer : List Env} {s : Shared} {H : Hp} {E : XK} {f : Addr} (B : Bs K mg c) (hr : Room 0 (A.deeper (PyProof.Rows.envOfC "_law_signs" (defScope s__law_signs) s.heap.objs.size f cdv))) :
    DB (cxOf (L2.CX P w) P w K mg base N__law_signs "_law_signs" (defScope s__law_signs) f cdv A outer s H E) (defBody s__law_signs) (u__law_signs K c) :=
  (db_cons (ds_set 0 sc__law_signs.nd (de_str (s := "abfntz0123456789NTFAZ(),- \n\t_+.'\"[]{}:;~!#/\\*<>=?@|")))
  (db_one (ds_ret (de_var 0))))
def u_law (K : PySem.W.Frag) (c : Cs) (sp__law_jar : FS) (sp__law_text : FS) (sp__law_step : FS) (sp__law_draw : FS) (sp__law_signs : FS) (sp__law_judge : FS) : US := (usSeq (usSet 1 (uCall (sp__law_jar) gId (uA1 1 (uCons (uVar 0) uNil))))
  (usSeq (usSet 2 (uCall (sp__law_text) gId (uA1 1 (uCons (uVar 1) uNil))))
  (usSeq (usSet 3 (uLst (uCons (uTup (uCons (uC (.str (cs "start"))) (uCons (uC (.int 0)) (uCons (uC (.int 0)) uNil)))) uNil)))
  (usSeq (usFor (isSeq (uVar 2)) (ugName 4) (usExpr (uBM "list" gAppend (uVar 3) (uCons (uCall (sp__law_step) gId (uA1 2 (uCons (uBin dIx (uVar 3) (uUn dNeg (uC (.int 1)))) (uCons (uVar 4) uNil)))) uNil))))
  (usSeq (usSet 5 (uLst (uCons (uC (.int 0)) (uCons (uFn (gP fLen) (uCons (uVar 2) uNil)) uNil))))
  (usSeq (usFor (isRng (uC (.int 4))) (ugName 6) (usExpr (uBM "list" gAppend (uVar 5) (uCons (uCall (sp__law_draw) gId (uA1 2 (uCons (uVar 1) (uCons (uBin dAdd (uFn (gP fLen) (uCons (uVar 2) uNil)) (uC (.int 1))) uNil)))) uNil))))
  (usSeq (usSet 7 (uCall (sp__law_signs) gId uA0))
  (usSeq (usSet 8 (uLc (isRng (uFn (gP fLen) (uCons (uVar 3) uNil))) (ugName 6) (uOr (uTb (uBin dEq (uBin dIx (uBin dIx (uVar 3) (uVar 6)) (uC (.int 1))) (uC (.int 12)))) (uTb (uBin dEq (uBin dIx (uBin dIx (uVar 3) (uVar 6)) (uC (.int 2))) (uC (.int 20))))) (uVar 6) [6]))
  (usSeq (usIf (uTru (uVar 8)) (usSeq (usSet 9 (uBin dIx (uVar 8) (uCall (sp__law_draw) gId (uA1 2 (uCons (uVar 1) (uCons (uFn (gP fLen) (uCons (uVar 8) uNil)) uNil))))))
  (usFor (isSeq (uC (.str (cs "07ab(),-")))) (ugName 4) (usIf (uNot (uTru (uCall (sp__law_judge) gId (uA1 3 (uCons (uSl (uVar 2) uNoPart (uPart (uVar 9))) (uCons (uBin dIx (uVar 3) (uVar 9)) (uCons (uVar 4) uNil))))))) (usRet (uC (.bl false))) usNil))) usNil)
  (usSeq (usFor (isSeq (uVar 5)) (ugName 9) (usSeq (usSet 10 (uSl (uVar 2) uNoPart (uPart (uVar 9))))
  (usSeq (usIf (uNot (uTru (uCall (sp__law_judge) gId (uA1 3 (uCons (uVar 10) (uCons (uBin dIx (uVar 3) (uVar 9)) (uCons (uC (.str (cs ""))) uNil))))))) (usRet (uC (.bl false))) usNil)
  (usFor (isRng (uC (.int 3))) (ugName 11) (usSeq (usSet 12 (uBin dIx (uVar 7) (uCall (sp__law_draw) gId (uA1 2 (uCons (uVar 1) (uCons (uFn (gP fLen) (uCons (uVar 7) uNil)) uNil))))))
  (usSeq (usFor (isRng (uCall (sp__law_draw) gId (uA1 2 (uCons (uVar 1) (uCons (uC (.int 4)) uNil))))) (ugName 13) (usSet 12 (uBin dAdd (uVar 12) (uBin dIx (uVar 7) (uCall (sp__law_draw) gId (uA1 2 (uCons (uVar 1) (uCons (uFn (gP fLen) (uCons (uVar 7) uNil)) uNil))))))))
  (usIf (uNot (uTru (uCall (sp__law_judge) gId (uA1 3 (uCons (uVar 10) (uCons (uBin dIx (uVar 3) (uVar 9)) (uCons (uVar 12) uNil))))))) (usRet (uC (.bl false))) usNil)))))))
  (usSeq (usSet 9 (uCall (sp__law_draw) gId (uA1 2 (uCons (uVar 1) (uCons (uBin dAdd (uFn (gP fMin) (uCons (uFn (gP fLen) (uCons (uVar 2) uNil)) (uCons (uC (.int 30)) uNil))) (uC (.int 1))) uNil)))))
  (usSeq (usFor (isSeq (uVar 7)) (ugName 4) (usIf (uNot (uTru (uCall (sp__law_judge) gId (uA1 3 (uCons (uSl (uVar 2) uNoPart (uPart (uVar 9))) (uCons (uBin dIx (uVar 3) (uVar 9)) (uCons (uVar 4) uNil))))))) (usRet (uC (.bl false))) usNil))
  (usRet (uC (.bl true)))))))))))))))
theorem der_law {cdv : Value} {A : Around} {outer : List Env} {s : Shared} {H : Hp} {E : XK} {f : Addr} {sp__law_jar : FS} {sp__law_text : FS} {sp__law_step : FS} {sp__law_draw : FS} {sp__law_signs : FS} {sp__law_judge : FS} (B : Bs K mg c) (h__law_jar : FF P w K mg base "_law_jar" 1 ps__law_jar (sp__law_jar) 1 [] gId) (h__law_text : FF P w K mg base "_law_text" 3 ps__law_text (sp__law_text) 1 [] gId) (h__law_step : FF P w K mg base "_law_step" 2 ps__law_step (sp__law_step) 2 [] gId) (h__law_draw : FF P w K mg base "_law_draw" 1 ps__law_draw (sp__law_draw) 2 [] gId) (h__law_signs : FF P w K mg base "_law_signs" 1 ps__law_signs (sp__law_signs) 0 [] gId) (h__law_judge : FF P w K mg base "_law_judge" 33 ps__law_judge (sp__law_judge) 3 [] gId) (hr : Room 33 (A.deeper (PyProof.Rows.envOfC "law" (defScope s_law) s.heap.objs.size f cdv))) :
    DB (cxOf (L2.CX P w) P w K mg base N_law "law" (defScope s_law) f cdv A outer s H E) (defBody s_law) (u_law K c sp__law_jar sp__law_text sp__law_step sp__law_draw sp__law_signs sp__law_judge) :=
  (db_cons (ds_set 1 sc_law.nd (de_ff h__law_jar hr (dar1 (da_cons (de_var 0) da_nil))))
  (db_cons (ds_set 2 sc_law.nd (de_ff h__law_text hr (dar1 (da_cons (de_var 1) da_nil))))
  (db_cons (ds_set 3 sc_law.nd (de_lst (da_cons (de_tup (da_cons (de_str (s := "start")) (da_cons de_int (da_cons de_int da_nil)))) da_nil)))
  (db_cons (ds_for (passes_of rfl) rfl (di_seq (de_var 2)) (dg_name 4 sc_law.nd) (db_one (ds_expr (de_bm PySem.F.plainAttrs_list PySem.F.slot_list_append PySem.F.type_list_append md_append (de_var 3) (da_cons (de_ff h__law_step hr (dar1 (da_cons (de_ix (de_var 3) (de_neg de_int)) (da_cons (de_var 4) da_nil)))) da_nil)))))
  (db_cons (ds_set 5 sc_law.nd (de_lst (da_cons de_int (da_cons (de_fnB cd_len B.n_len (by decide +kernel) (da_cons (de_var 2) da_nil)) da_nil))))
  (db_cons (ds_for (passes_of rfl) rfl (di_rng (da_cons de_int da_nil) rfl B.n_range) (dg_name 6 sc_law.nd) (db_one (ds_expr (de_bm PySem.F.plainAttrs_list PySem.F.slot_list_append PySem.F.type_list_append md_append (de_var 5) (da_cons (de_ff h__law_draw hr (dar1 (da_cons (de_var 1) (da_cons (de_bin od_add (de_fnB cd_len B.n_len (by decide +kernel) (da_cons (de_var 2) da_nil)) de_int) da_nil)))) da_nil)))))
  (db_cons (ds_set 7 sc_law.nd (de_ff h__law_signs hr dar0))
  (db_cons (ds_setLcv [(("k" : Str), 6)] 8 rfl sc_law.nd (di_rng (da_cons (de_fnB cd_len B.n_len (by decide +kernel) (da_cons (de_var 3) da_nil)) da_nil) rfl B.n_range) (blkOk_by (N := N_law) (sc := defScope s_law) (by decide +kernel)) (gr_name (i := 6)) (fun _ _ _ _ _ => (pg_name (i := 6) sc_law.nd rfl (Or.inl rfl))) (fun _ _ _ _ _ => dts_one (dt_bool (dw_or (dt_cmp (od_eq (hu64 hr)) (de_ix (de_ix (de_var 3) (de_var 6)) de_int) de_int) (dw_or1 (dt_cmp (od_eq (hu64 hr)) (de_ix (de_ix (de_var 3) (de_var 6)) de_int) de_int))))) (fun _ _ _ _ _ => (de_var 6)) (sw_true rfl rfl rfl (by decide +kernel)))
  (db_cons (ds_if (dt_val (de_var 8)) (db_cons (ds_set 9 sc_law.nd (de_ix (de_var 8) (de_ff h__law_draw hr (dar1 (da_cons (de_var 1) (da_cons (de_fnB cd_len B.n_len (by decide +kernel) (da_cons (de_var 8) da_nil)) da_nil))))))
  (db_one (ds_for (passes_of rfl) rfl (di_seq (de_str (s := "07ab(),-"))) (dg_name 4 sc_law.nd) (db_one (ds_if (dt_not (dt_val (de_ff h__law_judge hr (dar1 (da_cons (de_slice (de_var 2) do_none (do_some (de_var 9))) (da_cons (de_ix (de_var 3) (de_var 9)) (da_cons (de_var 4) da_nil))))))) (db_one (ds_ret de_bl)) db_nil))))) db_nil)
  (db_cons (ds_for (passes_of rfl) rfl (di_seq (de_var 5)) (dg_name 9 sc_law.nd) (db_cons (ds_set 10 sc_law.nd (de_slice (de_var 2) do_none (do_some (de_var 9))))
  (db_cons (ds_if (dt_not (dt_val (de_ff h__law_judge hr (dar1 (da_cons (de_var 10) (da_cons (de_ix (de_var 3) (de_var 9)) (da_cons (de_str (s := "")) da_nil))))))) (db_one (ds_ret de_bl)) db_nil)
  (db_one (ds_for (passes_of rfl) rfl (di_rng (da_cons de_int da_nil) rfl B.n_range) (dg_name 11 sc_law.nd) (db_cons (ds_set 12 sc_law.nd (de_ix (de_var 7) (de_ff h__law_draw hr (dar1 (da_cons (de_var 1) (da_cons (de_fnB cd_len B.n_len (by decide +kernel) (da_cons (de_var 7) da_nil)) da_nil))))))
  (db_cons (ds_for (passes_of rfl) rfl (di_rng (da_cons (de_ff h__law_draw hr (dar1 (da_cons (de_var 1) (da_cons de_int da_nil)))) da_nil) rfl B.n_range) (dg_name 13 sc_law.nd) (db_one (ds_set 12 sc_law.nd (de_bin od_add (de_var 12) (de_ix (de_var 7) (de_ff h__law_draw hr (dar1 (da_cons (de_var 1) (da_cons (de_fnB cd_len B.n_len (by decide +kernel) (da_cons (de_var 7) da_nil)) da_nil)))))))))
  (db_one (ds_if (dt_not (dt_val (de_ff h__law_judge hr (dar1 (da_cons (de_var 10) (da_cons (de_ix (de_var 3) (de_var 9)) (da_cons (de_var 12) da_nil))))))) (db_one (ds_ret de_bl)) db_nil)))))))))
  (db_cons (ds_set 9 sc_law.nd (de_ff h__law_draw hr (dar1 (da_cons (de_var 1) (da_cons (de_bin od_add (de_fnB (cd_min rfl) B.n_min (by decide +kernel) (da_cons (de_fnB cd_len B.n_len (by decide +kernel) (da_cons (de_var 2) da_nil)) (da_cons de_int da_nil))) de_int) da_nil)))))
  (db_cons (ds_for (passes_of rfl) rfl (di_seq (de_var 7)) (dg_name 4 sc_law.nd) (db_one (ds_if (dt_not (dt_val (de_ff h__law_judge hr (dar1 (da_cons (de_slice (de_var 2) do_none (do_some (de_var 9))) (da_cons (de_ix (de_var 3) (de_var 9)) (da_cons (de_var 4) da_nil))))))) (db_one (ds_ret de_bl)) db_nil)))
  (db_one (ds_ret de_bl))))))))))))))
end
end K00

set_option Elab.async false
set_option linter.all false
set_option maxRecDepth 100000
set_option maxHeartbeats 4000000
/-! the plain part of law k00 -/
namespace K00
open PySem PySem.Spec L2 SL

abbrev FIG : List Nat := cs "0123456789"
abbrev FI1 : List Nat := cs "123456789"
abbrev LOW : List Nat := cs "abcdefghijklmnopqrstuvwxyz"
abbrev TOK : List Nat := cs "abcdefghijklmnopqrstuvwxyz0123456789"
theorem fig_iff {c : Nat} : c ∈ FIG ↔ 48 ≤ c ∧ c ≤ 57 := by
  have e : FIG = [48,49,50,51,52,53,54,55,56,57] := by decide +kernel
  rw [e]; simp; omega
theorem fi1_iff {c : Nat} : c ∈ FI1 ↔ 49 ≤ c ∧ c ≤ 57 := by
  have e : FI1 = [49,50,51,52,53,54,55,56,57] := by decide +kernel
  rw [e]; simp; omega
theorem low_iff {c : Nat} : c ∈ LOW ↔ 97 ≤ c ∧ c ≤ 122 := by
  have e : LOW = [97,98,99,100,101,102,103,104,105,106,107,108,109,110,111,112,113,114,115,116,117,118,119,120,121,122] := by decide +kernel
  rw [e]; simp; omega
theorem tok_iff {c : Nat} : c ∈ TOK ↔ (97 ≤ c ∧ c ≤ 122) ∨ (48 ≤ c ∧ c ≤ 57) := by
  have e : TOK = LOW ++ FIG := by decide +kernel
  rw [e, List.mem_append, low_iff, fig_iff]
theorem nul_iff {c : Nat} : c ∈ cs "0NTF" ↔ c = 48 ∨ c = 78 ∨ c = 84 ∨ c = 70 := by
  have e : cs "0NTF" = [48, 78, 84, 70] := by decide +kernel
  rw [e]; simp

/-! ### the automaton -/
inductive Md where
  | start | opened | minus | figures | token | ended
  deriving DecidableEq
structure Stt where
  md : Md
  ct : Nat
  dp : Nat
def fst1 (c dp : Nat) : Option Stt :=
  if c = 40 then (if dp < 20 then some ⟨.opened, 0, dp + 1⟩ else none)
  else if c = 45 then some ⟨.minus, 0, dp⟩
  else if c ∈ cs "0NTF" then some ⟨.ended, 0, dp⟩
  else if c ∈ FI1 then some ⟨.figures, 1, dp⟩
  else if c ∈ LOW then some ⟨.token, 1, dp⟩
  else none
def stp (s : Stt) (c : Nat) : Option Stt :=
  if s.md = .start ∨ (s.md = .opened ∧ c ≠ 41) then fst1 c s.dp
  else if s.md = .minus then (if c ∈ FI1 then some ⟨.figures, 1, s.dp⟩ else none)
  else if s.md = .figures ∧ c ∈ FIG then (if s.ct < 12 then some ⟨.figures, s.ct + 1, s.dp⟩ else none)
  else if s.md = .token ∧ c ∈ TOK then (if s.ct < 12 then some ⟨.token, s.ct + 1, s.dp⟩ else none)
  else if s.dp = 0 then none
  else if c = 41 then some ⟨.ended, 0, s.dp - 1⟩
  else if c = 44 then some ⟨.start, 0, s.dp⟩ else none
def whole (s : Stt) : Prop := s.dp = 0 ∧ (s.md = .ended ∨ s.md = .figures ∨ s.md = .token)
instance (s : Stt) : Decidable (whole s) := by unfold whole; infer_instance
def rn (s : Stt) : List Nat → Option Stt
  | [] => some s
  | c :: r => (stp s c).bind fun s' => rn s' r
theorem rn_app {s : Stt} : ∀ {a b : List Nat}, rn s (a ++ b) = (rn s a).bind fun s' => rn s' b
  | [], b => rfl
  | c :: a, b => by
    show (stp s c).bind _ = ((stp s c).bind _).bind _
    cases stp s c with
    | none => rfl
    | some s' => exact rn_app (a := a)
abbrev s0 : Stt := ⟨.start, 0, 0⟩

/-! ### plain values and their texts -/
mutual
def txt : D → List Nat
  | .non => [78]
  | .bl b => if b then [84] else [70]
  | .int i => dig i
  | .str x => x
  | .tup xs => 40 :: (txtL xs ++ [41])
  | _ => []
def txtL : List D → List Nat
  | [] => []
  | x :: xs => txt x ++ txtT xs
def txtT : List D → List Nat
  | [] => []
  | x :: xs => 44 :: (txt x ++ txtT xs)
end
def itm (f : List D) : List Nat := (f.map fun d => txt d ++ [44]).flatten
theorem itm_snoc {f : List D} {v : D} : itm (f ++ [v]) = itm f ++ (txt v ++ [44]) := by simp [itm]
theorem txtT_itm : ∀ {f : List D} {v : D}, txtT (f ++ [v]) = 44 :: (itm f ++ txt v)
  | [], v => by simp [txtT, itm]
  | x :: f, v => by
    rw [List.cons_append, txtT, txtT_itm (f := f)]
    simp [itm]
theorem txtL_itm : ∀ {f : List D} {v : D}, txtL (f ++ [v]) = itm f ++ txt v
  | [], v => by simp [txtL, itm, txtT]
  | x :: f, v => by
    rw [List.cons_append, txtL, txtT_itm]
    simp [itm]
def ren0 (fs : List (List D)) : List Nat := (fs.map fun f => itm f ++ [40]).flatten
def ren (fs : List (List D)) (f : List D) : List Nat := ren0 fs ++ itm f
theorem ren_push {fs : List (List D)} {f : List D} : ren (fs ++ [f]) [] = ren fs f ++ [40] := by simp [ren, ren0, itm]
theorem ren_snoc {fs : List (List D)} {f : List D} {v : D} : ren fs (f ++ [v]) = ren fs f ++ (txt v ++ [44]) := by simp [ren, itm_snoc]
theorem ren_close {fs : List (List D)} {g f : List D} {v : D} : ren (fs ++ [g]) f ++ (txt v ++ [41]) = ren fs g ++ txt (.tup (f ++ [v])) := by
  rw [txt, txtL_itm]; simp [ren, ren0]
theorem ren_close0 {fs : List (List D)} {g : List D} : ren (fs ++ [g]) [] ++ [41] = ren fs g ++ txt (.tup []) := by
  simp [ren, ren0, itm, txt, txtL]
/-- a token -/
def Tkn (x : List Nat) : Prop := ∃ a r, x = a :: r ∧ a ∈ LOW ∧ (∀ c ∈ r, c ∈ TOK) ∧ x.length ≤ 12
def PlW : Nat → D → Prop
  | _, .non => True
  | _, .bl _ => True
  | _, .int i => -1000000000000 < i ∧ i < 1000000000000
  | _, .str x => Tkn x
  | 0, .tup _ => False
  | n + 1, .tup xs => ∀ x ∈ xs, PlW n x
  | _, _ => False
theorem PlW.up {n : Nat} : ∀ {d : D}, PlW n d → PlW (n + 1) d := by
  induction n with
  | zero => intro d h; cases d <;> simp_all [PlW]
  | succ n ih =>
    intro d h
    cases d <;> simp_all [PlW]
/-- frames of values, the outermost first -/
def Frs (fs : List (List D)) (f : List D) : Prop := fs.length ≤ 20 ∧ (∀ i g, (fs ++ [f])[i]? = some g → ∀ d ∈ g, PlW (20 - i) d)

/-! ### words -/
/-- how long a run of signs sg is -/
def spn (sg : List Nat) (l : List Nat) : Nat := (l.takeWhile fun c => decide (c ∈ sg)).length
theorem spn_le {sg l : List Nat} : spn sg l ≤ l.length := by unfold spn; exact (List.takeWhile_prefix _).length_le
theorem spn_take_mem {sg : List Nat} : ∀ {l : List Nat}, ∀ c ∈ l.take (spn sg l), c ∈ sg := by
  intro l
  unfold spn
  have e : l.take (l.takeWhile fun c => decide (c ∈ sg)).length = l.takeWhile fun c => decide (c ∈ sg) := (List.prefix_iff_eq_take.mp (List.takeWhile_prefix _)).symm
  rw [e]
  intro c hc
  have := List.all_takeWhile (p := fun c => decide (c ∈ sg)) (l := l)
  rw [List.all_eq_true] at this
  simpa using this c hc
theorem spn_stop {sg : List Nat} : ∀ {l : List Nat}, ∀ c, l[spn sg l]? = some c → c ∉ sg := by
  intro l
  induction l with
  | nil => intro c h; simp at h
  | cons a r ih =>
    intro c h
    unfold spn at h
    rw [List.takeWhile_cons] at h
    by_cases ha : a ∈ sg
    · rw [decide_eq_true ha, if_pos rfl, List.length_cons, List.getElem?_cons_succ] at h
      exact ih c h
    · rw [decide_eq_false ha] at h
      simp at h
      subst h; exact ha
/-- run_end's answer behind its start -/
def run12 (sg l : List Nat) : Nat := spn sg (l.take 12)
theorem run12_le {sg l : List Nat} : run12 sg l ≤ 12 ∧ run12 sg l ≤ l.length := by
  have := spn_le (sg := sg) (l := l.take 12)
  rw [List.length_take] at this
  unfold run12; omega
theorem run12_mem {sg l : List Nat} : ∀ c ∈ l.take (run12 sg l), c ∈ sg := by
  intro c hc
  refine spn_take_mem (l := l.take 12) c ?_
  have : (l.take 12).take (spn sg (l.take 12)) = l.take (run12 sg l) := by
    rw [List.take_take]; unfold run12; congr 1; exact Nat.min_eq_left run12_le.1
  rw [this]; exact hc
theorem run12_stop {sg l : List Nat} {c : Nat} (h : l[run12 sg l]? = some c) : run12 sg l = 12 ∨ c ∉ sg := by
  by_cases e : run12 sg l = 12
  · exact .inl e
  · refine .inr (spn_stop (l := l.take 12) c ?_)
    have := run12_le (sg := sg) (l := l)
    rw [List.getElem?_take_of_lt (by unfold run12 at this e; omega)]
    exact h
def intEnd : List Nat → Nat
  | 45 :: 48 :: _ => 1
  | 45 :: r => 1 + run12 FIG r
  | 48 :: _ => 1
  | l => run12 FIG l
def wordEnd : List Nat → Nat
  | [] => intEnd []
  | c :: r => if c = 78 ∨ c = 84 ∨ c = 70 then 1 else if c ∈ LOW then run12 TOK (c :: r) else intEnd (c :: r)
def wordVal (w : List Nat) : Option D :=
  if w = [78] then some .non else if w = [84] then some (.bl true) else if w = [70] then some (.bl false)
  else match w with
    | [] => none
    | c :: _ => if c ∈ LOW then some (.str w) else (PySem.intText? (tx w)).map .int
end K00

set_option Elab.async false
set_option linter.all false
set_option maxRecDepth 100000
set_option maxHeartbeats 4000000
namespace K00
open PySem PySem.Spec L2 SL

/-! ### numbers in figures -/
def DigL (w : List Nat) : Prop := ∀ c ∈ w, c ∈ FIG
theorem DigL.all {w : List Nat} (h : DigL w) : NumText.AllDigits w := fun c hc => fig_iff.mp (h c hc)
theorem dig_nat (n : Nat) : dig (n : Int) = TL.numL n := by
  have := TL.tl_num n
  unfold dig cs
  rw [← this]
  show _ = (Str.ofString (toString (n : Int))).cps.toList
  rw [← tx_cs]; rfl
theorem numL_back {c : Nat} {r : List Nat} (h : DigL (c :: r)) (h9 : 49 ≤ c) : TL.numL (NumText.digitsVal (c :: r)) = c :: r := by
  unfold TL.numL
  rw [NumText.toDigits_digitsVal r.length (c :: r) rfl h.all (.inr ⟨c, r, rfl, h9⟩), List.map_map]
  have : ∀ x ∈ c :: r, (Char.toNat ∘ Char.ofNat) x = x := fun x hx => by
    have hx := h.all x hx
    have : ∀ d : Nat, d ≤ 57 → (Char.ofNat d).toNat = d := by decide
    exact this x hx.2
  exact (List.map_congr_left this).trans (List.map_id' _)
theorem digitsVal_lt : ∀ {w : List Nat}, DigL w → NumText.digitsVal w < 10 ^ w.length := by
  intro w
  have key : ∀ (w : List Nat) (a : Nat), DigL w → w.foldl (fun acc c => acc * 10 + (c - 48)) a < (a + 1) * 10 ^ w.length := by
    intro w
    induction w with
    | nil => intro a _; simp
    | cons c r ih =>
      intro a h
      have hc := fig_iff.mp (h c (List.mem_cons_self ..))
      have := ih (a * 10 + (c - 48)) (fun x hx => h x (List.mem_cons_of_mem _ hx))
      rw [List.foldl_cons, List.length_cons, Nat.pow_succ]
      refine Nat.lt_of_lt_of_le this ?_
      have e : (a + 1) * (10 ^ r.length * 10) = ((a + 1) * 10) * 10 ^ r.length := by
        rw [Nat.mul_comm (10 ^ r.length) 10, Nat.mul_assoc]
      rw [e]
      exact Nat.mul_le_mul_right _ (by omega)
  intro h
  have := key w 0 h
  simpa [NumText.digitsVal] using this
theorem dig_neg {n : Nat} (h : 0 < n) : dig (-(n : Int)) = 45 :: TL.numL n := by
  have e : toString (-(n : Int)) = "-" ++ toString (n : Int) := by
    rw [PyProof.Rows.toString_neg (n := -(n : Int)) (by omega)]
    congr 2
    omega
  rw [← dig_nat]
  unfold dig cs
  rw [e, String.toList_append, List.map_append]
  rfl
theorem pow12 {w : List Nat} (h : DigL w) (hl : w.length ≤ 12) : NumText.digitsVal w < 1000000000000 := by
  refine Nat.lt_of_lt_of_le (digitsVal_lt h) ?_
  exact Nat.le_trans (Nat.pow_le_pow_right (by decide) hl) (by decide)
/-- the value of figures -/
theorem int_pos {c : Nat} {r : List Nat} (h : DigL (c :: r)) (h9 : 49 ≤ c) (hl : (c :: r).length ≤ 12) : ∃ i : Int, PySem.intText? (tx (c :: r)) = some i ∧ dig i = c :: r ∧ PlW 0 (.int i) := by
  refine ⟨(NumText.digitsVal (c :: r) : Nat), ?_, ?_, ?_⟩
  · exact intText_digits (x := tx (c :: r)) (by rw [tx_cps]; exact h.all) (by rw [tx_cps]; simp) (by rw [tx_len]; omega)
  · rw [dig_nat, numL_back h h9]
  · have := pow12 h hl
    simp only [PlW]; omega
theorem int_neg {c : Nat} {r : List Nat} (h : DigL (c :: r)) (h9 : 49 ≤ c) (hl : (c :: r).length ≤ 12) : ∃ i : Int, PySem.intText? (tx (45 :: c :: r)) = some i ∧ dig i = 45 :: c :: r ∧ PlW 0 (.int i) := by
  have hp : 0 < NumText.digitsVal (c :: r) := NumText.digitsVal_pos h9
  refine ⟨-(NumText.digitsVal (c :: r) : Nat), ?_, ?_, ?_⟩
  · exact intText_neg (x := tx (45 :: c :: r)) (cs := c :: r) (by rw [tx_cps]) h.all (by simp) (by rw [tx_len]; simp at hl ⊢; omega)
  · rw [dig_neg hp, numL_back h h9]
  · have := pow12 h hl
    simp only [PlW]; omega
theorem int_zero : ∃ i : Int, PySem.intText? (tx [48]) = some i ∧ dig i = [48] ∧ PlW 0 (.int i) := by
  refine ⟨0, ?_, by decide +kernel, by simp only [PlW]; omega⟩
  have := intText_digits (x := tx [48]) (by rw [tx_cps]; intro c hc; simp at hc; omega) (by rw [tx_cps]; simp) (by rw [tx_len]; simp)
  rw [this, tx_cps]; rfl

/-! ### a word -/
/-- what may follow a value -/
def aft (dp c : Nat) : Option Stt := if dp = 0 then none else if c = 41 then some ⟨.ended, 0, dp - 1⟩ else if c = 44 then some ⟨.start, 0, dp⟩ else none
/-- behind a value -/
structure AftS (st : Stt) (rest : List Nat) : Prop where
  md : st.md = .ended ∨ st.md = .figures ∨ st.md = .token
  nx : ∀ c, rest.head? = some c → stp st c = aft st.dp c
theorem stp_ended {dp c : Nat} : stp ⟨.ended, 0, dp⟩ c = aft dp c := by simp [stp, aft]
theorem rn_fig {dp : Nat} : ∀ {w : List Nat} {m : Nat}, DigL w → m + w.length ≤ 12 → rn ⟨.figures, m, dp⟩ w = some ⟨.figures, m + w.length, dp⟩
  | [], m, _, _ => rfl
  | c :: r, m, h, hl => by
    have hc := h c (List.mem_cons_self ..)
    simp only [List.length_cons] at hl
    have e : stp ⟨.figures, m, dp⟩ c = some ⟨.figures, m + 1, dp⟩ := by
      simp only [stp]; rw [if_neg (by simp), if_neg (by simp), if_pos ⟨by simp, hc⟩, if_pos (by omega)]
    show (stp _ c).bind _ = _
    rw [e]
    show rn _ r = _
    rw [rn_fig (fun x hx => h x (List.mem_cons_of_mem _ hx)) (by omega)]
    simp only [List.length_cons]
    congr 2; omega
theorem rn_tok {dp : Nat} : ∀ {w : List Nat} {m : Nat}, (∀ c ∈ w, c ∈ TOK) → m + w.length ≤ 12 → rn ⟨.token, m, dp⟩ w = some ⟨.token, m + w.length, dp⟩
  | [], m, _, _ => rfl
  | c :: r, m, h, hl => by
    have hc := h c (List.mem_cons_self ..)
    simp only [List.length_cons] at hl
    have e : stp ⟨.token, m, dp⟩ c = some ⟨.token, m + 1, dp⟩ := by
      simp only [stp]; rw [if_neg (by simp), if_neg (by simp), if_neg (by simp), if_pos ⟨by simp, hc⟩, if_pos (by omega)]
    show (stp _ c).bind _ = _
    rw [e]
    show rn _ r = _
    rw [rn_tok (fun x hx => h x (List.mem_cons_of_mem _ hx)) (by omega)]
    simp only [List.length_cons]
    congr 2; omega
theorem aft_fig {dp m : Nat} {rest : List Nat} (h : ∀ c, rest.head? = some c → m = 12 ∨ c ∉ FIG) : AftS ⟨.figures, m, dp⟩ rest := ⟨.inr (.inl rfl), fun c hc => by
  have := h c hc
  simp only [stp, aft]
  rw [if_neg (by simp), if_neg (by simp)]
  by_cases hf : c ∈ FIG
  · have hm : m = 12 := by rcases this with h | h; exact h; exact absurd hf h
    subst hm
    rw [if_pos ⟨by simp, hf⟩, if_neg (by omega)]
    have := fig_iff.mp hf
    split
    · rfl
    · rw [if_neg (by omega), if_neg (by omega)]
  · rw [if_neg (fun z => hf z.2), if_neg (by simp)]⟩
theorem aft_tok {dp m : Nat} {rest : List Nat} (h : ∀ c, rest.head? = some c → m = 12 ∨ c ∉ TOK) : AftS ⟨.token, m, dp⟩ rest := ⟨.inr (.inr rfl), fun c hc => by
  have := h c hc
  simp only [stp, aft]
  rw [if_neg (by simp), if_neg (by simp), if_neg (by simp)]
  by_cases hf : c ∈ TOK
  · have hm : m = 12 := by rcases this with h | h; exact h; exact absurd hf h
    subst hm
    rw [if_pos ⟨by simp, hf⟩, if_neg (by omega)]
    have := tok_iff.mp hf
    split
    · rfl
    · rw [if_neg (by omega), if_neg (by omega)]
  · rw [if_neg (fun z => hf z.2)]⟩
theorem aft_end {dp : Nat} {rest : List Nat} : AftS ⟨.ended, 0, dp⟩ rest := ⟨.inl rfl, fun c hc => stp_ended⟩
/-- a text that fails behind n signs -/
def Bad (s : Stt) (l : List Nat) (n : Nat) : Prop := n ≤ l.length ∧ ∃ st, rn s (l.take n) = some st ∧ ((n = l.length ∧ ¬ whole st) ∨ ∃ c, l[n]? = some c ∧ stp st c = none)
def Good (s : Stt) (l : List Nat) (n : Nat) : Prop := n ≤ l.length ∧ 0 < n ∧ l.take n ≠ [45] ∧ ∃ v st, wordVal (l.take n) = some v ∧ txt v = l.take n ∧ PlW 0 v ∧ rn s (l.take n) = some st ∧ st.dp = s.dp ∧ AftS st (l.drop n)
theorem head_drop {l : List Nat} {n c : Nat} (h : (l.drop n).head? = some c) : l[n]? = some c := by
  rw [List.head?_drop] at h; exact h
/-- a run of figures behind a state that takes them -/
theorem fig_run {s : Stt} {c : Nat} {r : List Nat} (hc : c ∈ FI1) (h1 : stp s c = some ⟨.figures, 1, s.dp⟩) :
    ∃ st, rn s ((c :: r).take (run12 FIG (c :: r))) = some st ∧ st.dp = s.dp ∧ AftS st ((c :: r).drop (run12 FIG (c :: r))) ∧ ∃ q, (c :: r).take (run12 FIG (c :: r)) = c :: q ∧ DigL (c :: q) ∧ (c :: q).length ≤ 12 := by
  have hF : c ∈ FIG := fig_iff.mpr (by have := fi1_iff.mp hc; omega)
  have hle := run12_le (sg := FIG) (l := c :: r)
  obtain ⟨k, hk⟩ : ∃ k, run12 FIG (c :: r) = k + 1 := by
    unfold run12 spn
    rw [List.take_succ_cons, List.takeWhile_cons, decide_eq_true hF, if_pos rfl]
    exact ⟨_, rfl⟩
  have hmem := run12_mem (sg := FIG) (l := c :: r)
  have hstop := @run12_stop FIG (c :: r)
  rw [hk] at hle hmem hstop ⊢
  rw [List.take_succ_cons] at hmem ⊢
  have hd : DigL (c :: r.take k) := hmem
  have hlen : (r.take k).length = k := by rw [List.length_take]; simp only [List.length_cons] at hle; omega
  refine ⟨⟨.figures, 1 + k, s.dp⟩, ?_, rfl, aft_fig fun x hx => ?_, r.take k, rfl, hd, by rw [List.length_cons, hlen]; omega⟩
  · show (stp s c).bind _ = _
    rw [h1]
    show rn _ (r.take k) = _
    rw [rn_fig (fun x hx => hd x (List.mem_cons_of_mem _ hx)) (by omega), hlen]
  · have := hstop (head_drop hx)
    rcases this with h | h
    · exact .inl (by omega)
    · exact .inr h
theorem tok_run {s : Stt} {c : Nat} {r : List Nat} (hc : c ∈ LOW) (h1 : stp s c = some ⟨.token, 1, s.dp⟩) :
    ∃ st, rn s ((c :: r).take (run12 TOK (c :: r))) = some st ∧ st.dp = s.dp ∧ AftS st ((c :: r).drop (run12 TOK (c :: r))) ∧ ∃ q, (c :: r).take (run12 TOK (c :: r)) = c :: q ∧ (∀ x ∈ q, x ∈ TOK) ∧ (c :: q).length ≤ 12 := by
  have hF : c ∈ TOK := tok_iff.mpr (by have := low_iff.mp hc; omega)
  have hle := run12_le (sg := TOK) (l := c :: r)
  obtain ⟨k, hk⟩ : ∃ k, run12 TOK (c :: r) = k + 1 := by
    unfold run12 spn
    rw [List.take_succ_cons, List.takeWhile_cons, decide_eq_true hF, if_pos rfl]
    exact ⟨_, rfl⟩
  have hmem := run12_mem (sg := TOK) (l := c :: r)
  have hstop := @run12_stop TOK (c :: r)
  rw [hk] at hle hmem hstop ⊢
  rw [List.take_succ_cons] at hmem ⊢
  have hlen : (r.take k).length = k := by rw [List.length_take]; simp only [List.length_cons] at hle; omega
  refine ⟨⟨.token, 1 + k, s.dp⟩, ?_, rfl, aft_tok fun x hx => ?_, r.take k, rfl, fun x hx => hmem x (List.mem_cons_of_mem _ hx), by rw [List.length_cons, hlen]; omega⟩
  · show (stp s c).bind _ = _
    rw [h1]
    show rn _ (r.take k) = _
    rw [rn_tok (fun x hx => hmem x (List.mem_cons_of_mem _ hx)) (by omega), hlen]
  · have := hstop (head_drop hx)
    rcases this with h | h
    · exact .inl (by omega)
    · exact .inr h
theorem run12_zero {sg l : List Nat} (h : ∀ c, l.head? = some c → c ∉ sg) : run12 sg l = 0 := by
  cases l with
  | nil => rfl
  | cons c r =>
    unfold run12 spn
    rw [List.take_succ_cons, List.takeWhile_cons, decide_eq_false (h c rfl)]
    rfl
theorem rn_one {s st : Stt} {c : Nat} (h : stp s c = some st) : rn s [c] = some st := by
  show (stp s c).bind _ = _
  rw [h]; rfl
/-- THE WORD: s expects a value -/
theorem word {s : Stt} {l : List Nat} (hs : s.md = .start ∨ (s.md = .opened ∧ l.head? ≠ some 41)) (hd : l.head? = some 40 → ¬ s.dp < 20) :
    ((l.take (wordEnd l) = [] ∨ l.take (wordEnd l) = [45]) ∧ Bad s l (wordEnd l)) ∨ Good s l (wordEnd l) := by
  have hfirst : ∀ c, l.head? = some c → stp s c = fst1 c s.dp := fun c hc => by
    unfold stp
    rw [if_pos]
    rcases hs with h | ⟨h, h2⟩
    · exact .inl h
    · exact .inr ⟨h, fun z => h2 (by rw [hc, z])⟩
  have hnw : ¬ whole s := fun z => by
    rcases hs with h | ⟨h, _⟩ <;> (rw [whole, h] at z; simp at z)
  have dl : ∀ {x : List Nat} {v : D} {i : Int}, x ≠ [78] → x ≠ [84] → x ≠ [70] → (∃ c r, x = c :: r ∧ c ∉ LOW) → PySem.intText? (tx x) = some i → wordVal x = some (.int i) := fun {x v i} h1 h2 h3 ⟨c, r, e, hl⟩ hi => by
    unfold wordVal
    rw [if_neg h1, if_neg h2, if_neg h3]
    subst e
    simp only [if_neg hl, hi, Option.map_some]
  cases l with
  | nil =>
    left
    have e : wordEnd [] = 0 := rfl
    rw [e]
    exact ⟨.inl rfl, Nat.le_refl _, s, rfl, .inl ⟨rfl, hnw⟩⟩
  | cons c r =>
    have hf := hfirst c rfl
    by_cases h1 : c = 78 ∨ c = 84 ∨ c = 70
    · right
      have e : wordEnd (c :: r) = 1 := by show (if _ then _ else _) = _; rw [if_pos h1]
      rw [e]
      have hst : stp s c = some ⟨.ended, 0, s.dp⟩ := by
        rw [hf]; unfold fst1
        rw [if_neg (by omega), if_neg (by omega), if_pos (nul_iff.mpr (by omega))]
      refine ⟨by simp, by omega, by simp; omega, ?_⟩
      have hw : ∃ v, wordVal [c] = some v ∧ txt v = [c] ∧ PlW 0 v := by
        rcases h1 with h | h | h <;> subst h
        · exact ⟨.non, rfl, rfl, trivial⟩
        · exact ⟨.bl true, rfl, rfl, trivial⟩
        · exact ⟨.bl false, rfl, rfl, trivial⟩
      obtain ⟨v, hv, ht, hp⟩ := hw
      exact ⟨v, _, hv, ht, hp, rn_one hst, rfl, aft_end⟩
    · by_cases h2 : c ∈ LOW
      · right
        have e : wordEnd (c :: r) = run12 TOK (c :: r) := by show (if _ then _ else _) = _; rw [if_neg h1, if_pos h2]
        rw [e]
        have hl := low_iff.mp h2
        have hst : stp s c = some ⟨.token, 1, s.dp⟩ := by
          rw [hf]; unfold fst1
          rw [if_neg (by omega), if_neg (by omega), if_neg (fun z => by have := nul_iff.mp z; omega), if_neg (fun z => by have := fi1_iff.mp z; omega), if_pos h2]
        obtain ⟨st, hr, hdp, ha, q, hq, hqt, hql⟩ := tok_run (r := r) h2 hst
        have hle := run12_le (sg := TOK) (l := c :: r)
        have hpos : 0 < run12 TOK (c :: r) := by
          rcases Nat.eq_zero_or_pos (run12 TOK (c :: r)) with z | z
          · rw [z] at hq; simp at hq
          · exact z
        refine ⟨hle.2, hpos, ?_, .str (c :: q), st, ?_, by rw [hq]; rfl, ?_, hr, hdp, ha⟩
        · rw [hq]; intro z; injection z with z1 z2; omega
        · rw [hq]; unfold wordVal
          rw [if_neg (by intro z; injection z with z1 z2; omega), if_neg (by intro z; injection z with z1 z2; omega), if_neg (by intro z; injection z with z1 z2; omega)]
          simp only [if_pos h2]
        · exact ⟨c, q, rfl, h2, hqt, hql⟩
      · have e0 : wordEnd (c :: r) = intEnd (c :: r) := by show (if _ then _ else _) = _; rw [if_neg h1, if_neg h2]
        rw [e0]
        by_cases h3 : c = 45
        · subst h3
          have hst : stp s 45 = some ⟨.minus, 0, s.dp⟩ := by rw [hf]; unfold fst1; rw [if_neg (by omega), if_pos rfl]
          have hmn : ∀ {r' : List Nat}, (∀ x, r'.head? = some x → x ∉ FI1) → Bad s (45 :: r') 1 := fun {r'} hx => by
            refine ⟨by simp, _, rn_one hst, ?_⟩
            cases r' with
            | nil => left; exact ⟨rfl, fun z => by simp [whole] at z⟩
            | cons x q =>
              right
              refine ⟨x, rfl, ?_⟩
              simp only [stp]
              rw [if_neg (by simp), if_pos trivial, if_neg (hx x rfl)]
          cases r with
          | nil =>
            left
            have e : intEnd [45] = 1 := rfl
            rw [e]
            exact ⟨.inr rfl, hmn (fun x hx => by simp at hx)⟩
          | cons x q =>
            by_cases hx0 : x = 48
            · subst hx0
              left
              have e : intEnd (45 :: 48 :: q) = 1 := rfl
              rw [e]
              exact ⟨.inr rfl, hmn (fun y hy => by simp at hy; subst hy; intro z; have := fi1_iff.mp z; omega)⟩
            · have e : intEnd (45 :: x :: q) = 1 + run12 FIG (x :: q) := by
                unfold intEnd
                split
                · rename_i z; injection z with z1 z2; injection z2 with z2 z3; exact absurd z2 hx0
                · rename_i z; injection z with z1 z2; rw [← z2]
                · rename_i z; injection z with z1 z2; omega
                · rename_i z1 z2 z3; exact absurd rfl (z2 _)
              rw [e]
              by_cases hx : x ∈ FIG
              · right
                have hx1 : x ∈ FI1 := fi1_iff.mpr (by have := fig_iff.mp hx; omega)
                have hs2 : stp (⟨.minus, 0, s.dp⟩ : Stt) x = some ⟨.figures, 1, s.dp⟩ := by
                  simp only [stp]; rw [if_neg (by simp), if_pos trivial, if_pos hx1]
                obtain ⟨st, hr, hdp, ha, y, hy, hyd, hyl⟩ := fig_run (s := ⟨.minus, 0, s.dp⟩) (r := q) hx1 hs2
                have hle := run12_le (sg := FIG) (l := x :: q)
                have et : (45 :: x :: q).take (1 + run12 FIG (x :: q)) = 45 :: x :: y := by rw [Nat.add_comm, List.take_succ_cons, hy]
                obtain ⟨i, hi, hdg, hpl⟩ := int_neg hyd (fi1_iff.mp hx1).1 hyl
                refine ⟨by simp only [List.length_cons] at hle ⊢; omega, by omega, by rw [et]; simp, .int i, st, ?_, by rw [et]; exact hdg, hpl, ?_, hdp, by rw [Nat.add_comm, List.drop_succ_cons]; exact ha⟩
                · rw [et]; exact dl (v := .non) (by simp) (by simp) (by simp) ⟨45, _, rfl, fun z => by have := low_iff.mp z; omega⟩ hi
                · rw [et]
                  show (stp s 45).bind _ = _
                  rw [hst]
                  show rn _ (x :: y) = _
                  rw [← hy]; exact hr
              · left
                have e2 : run12 FIG (x :: q) = 0 := run12_zero fun y hy => by simp at hy; subst hy; exact hx
                rw [e2]
                exact ⟨.inr rfl, hmn (fun y hy => by simp at hy; subst hy; intro z; exact hx (fig_iff.mpr (by have := fi1_iff.mp z; omega)))⟩
        · by_cases h4 : c = 48
          · subst h4
            right
            have e : intEnd (48 :: r) = 1 := rfl
            rw [e]
            have hst : stp s 48 = some ⟨.ended, 0, s.dp⟩ := by
              rw [hf]; unfold fst1
              rw [if_neg (by omega), if_neg (by omega), if_pos (nul_iff.mpr (by omega))]
            obtain ⟨i, hi, hdg, hpl⟩ := int_zero
            refine ⟨by simp, by omega, by simp, .int i, _, ?_, hdg, hpl, rn_one hst, rfl, aft_end⟩
            exact dl (v := .non) (by simp) (by simp) (by simp) ⟨48, _, rfl, fun z => by have := low_iff.mp z; omega⟩ hi
          · have e : intEnd (c :: r) = run12 FIG (c :: r) := by
              unfold intEnd
              split
              · rename_i z; injection z with z1 z2; omega
              · rename_i z; injection z with z1 z2; omega
              · rename_i z; injection z with z1 z2; omega
              · rfl
            rw [e]
            by_cases hx : c ∈ FIG
            · right
              have hx1 : c ∈ FI1 := fi1_iff.mpr (by have := fig_iff.mp hx; omega)
              have hst : stp s c = some ⟨.figures, 1, s.dp⟩ := by
                have := fi1_iff.mp hx1
                rw [hf]; unfold fst1
                rw [if_neg (by omega), if_neg (by omega), if_neg (fun z => by have := nul_iff.mp z; omega), if_pos hx1]
              obtain ⟨st, hr, hdp, ha, y, hy, hyd, hyl⟩ := fig_run (r := r) hx1 hst
              have hle := run12_le (sg := FIG) (l := c :: r)
              obtain ⟨i, hi, hdg, hpl⟩ := int_pos hyd (fi1_iff.mp hx1).1 hyl
              have hpos : 0 < run12 FIG (c :: r) := by
                rcases Nat.eq_zero_or_pos (run12 FIG (c :: r)) with z | z
                · rw [z] at hy; simp at hy
                · exact z
              have h9 := fi1_iff.mp hx1
              refine ⟨hle.2, hpos, by rw [hy]; intro z; injection z with z1 z2; omega, .int i, st, ?_, by rw [hy]; exact hdg, hpl, hr, hdp, ha⟩
              rw [hy]
              exact dl (v := .non) (by intro z; injection z with z1 z2; omega) (by intro z; injection z with z1 z2; omega) (by intro z; injection z with z1 z2; omega) ⟨c, _, rfl, h2⟩ hi
            · left
              have e2 : run12 FIG (c :: r) = 0 := run12_zero fun y hy => by simp at hy; subst hy; exact hx
              rw [e2]
              refine ⟨.inl rfl, Nat.zero_le _, s, rfl, .inr ⟨c, rfl, ?_⟩⟩
              rw [hf]; unfold fst1
              by_cases h5 : c = 40
              · rw [if_pos h5, if_neg (hd (by simp [h5]))]
              · rw [if_neg h5, if_neg h3, if_neg (fun z => by have := nul_iff.mp z; omega), if_neg (fun z => hx (fig_iff.mpr (by have := fi1_iff.mp z; omega))), if_neg h2]
end K00

set_option Elab.async false
set_option linter.all false
set_option maxRecDepth 100000
set_option maxHeartbeats 4000000
namespace K00
open PySem PySem.Spec L2 SL
theorem szl {n : Nat} (h : n ≤ 1000000) : n ≤ sizeLine := by rw [sizeLine_eq]; omega
theorem cut_app {α : Type} {pre rest : List α} {b : Int} (hb : 0 ≤ b) : cut (pre ++ rest) (some (pre.length : Int)) (some ((pre.length : Int) + b)) = rest.take b.toNat := by
  rw [cut_int (by omega) (by omega)]
  have e : ((pre.length : Int) + b).toNat - ((pre.length : Int)).toNat = b.toNat := by omega
  rw [e]; simp
theorem cut_app2 {α : Type} {pre rest : List α} {a b : Int} (ha : 0 ≤ a) (hb : a ≤ b) : cut (pre ++ rest) (some ((pre.length : Int) + a)) (some ((pre.length : Int) + b)) = (rest.drop a.toNat).take (b.toNat - a.toNat) := by
  rw [cut_int (by omega) (by omega)]
  have e : ((pre.length : Int) + b).toNat - ((pre.length : Int) + a).toNat = b.toNat - a.toNat := by omega
  have e2 : ((pre.length : Int) + a).toNat = pre.length + a.toNat := by omega
  rw [e, e2, List.drop_append, List.drop_of_length_le (by omega)]
  simp
theorem cut_len {α : Type} {l : List α} {a b : Option Int} (h : l.length ≤ sizeLine) : (cut l a b).length ≤ sizeLine := by
  unfold cut; rw [List.length_take, List.length_drop]; omega
theorem take_len {α : Type} {l : List α} {k : Nat} (h : l.length ≤ sizeLine) : (l.take k).length ≤ sizeLine := by
  rw [List.length_take]; omega
theorem app_len {α : Type} {a b : List α} (h : (a ++ b).length ≤ sizeLine) : b.length ≤ sizeLine := by
  rw [List.length_append] at h; omega
def sp_run_end : FS := fun ds S Q X => ∃ pre rest sg, ds = [.str (pre ++ rest), .int (pre.length : Nat), .int 12, .str sg] ∧ (pre ++ rest).length ≤ 1000000 ∧ Q (.int ((pre.length : Nat) + (run12 sg rest : Nat))) S
variable {K : PySem.W.Frag} {c : Cs}
theorem ok_run_end {ds : List D} {S : SS} {Q : QN} {X : QX} (h : sp_run_end ds S Q X) : u_run_end K c (bodyE Q X) (startE N_run_end ds) S := by
  obtain ⟨pre, rest, sg, rfl, hl, q⟩ := h
  have hz := szl hl
  have hr := take_len (k := 12) (app_len hz)
  have hs : (sLstrip (rest.take 12) sg).length ≤ sizeLine := by rw [lstrip_len]; omega
  unfold u_run_end
  simp only [dAdd, dAddI, dSub, dEq, dNe, dLt, dLe, dGt, dGe, dIs, SL.isNon, dNeg, fLen, lenD, isTy, mLstrip, seqOf, tru, tyOf, Option.map_some, String.reduceEq, usNil, usSeq, usSet, usExpr, usRet, usRetN, usIf, usBrk, usCnt, usAug, usAsg, usDPut, usRaise, usSub, uVar, uC, uBin, uChain, uUn, uTru, uTb, uAnd, uOr, uNot, uAndV, uOrV, uNotV, uIte, uNil, uCons, uTup, uLst, uNoPart, uPart, uSl, vSl, uFn, gP, uIsi, uBM, uBM0, gM, gAppend, gPop, uCall, uA0, uA1, gId, gApp, isSeq, isRng, isRng2, uDGet, bodyE, startE, ugName, List.map_cons, List.map_nil, List.length_cons, List.length_nil, List.cons_append, List.nil_append, List.getElem?_cons_zero, List.getElem?_cons_succ, List.set_cons_zero, List.set_cons_succ, List.replicate, Nat.add_one_sub_one, Nat.sub_self, Nat.reduceSub, Nat.reduceAdd, Option.some.injEq, exists_eq_left', exists_eq_left, exists_and_left, true_and, and_true, D.bl.injEq, D.int.injEq, D.str.injEq, D.tup.injEq, D.ref.injEq, if_true, if_false, ite_true, ite_false, Bool.false_eq_true, Bool.true_eq_false, reduceIte, hz, cut_app (by decide : (0 : Int) ≤ 12), Int.reduceToNat, hr, hs]
  refine ⟨S, Le.refl _, ?_⟩
  have e : (pre.length : Int) + (rest.take 12).length - (sLstrip (rest.take 12) sg).length = (pre.length : Nat) + (run12 sg rest : Nat) := by
    rw [lstrip_len]
    have := spn_le (sg := sg) (l := rest.take 12)
    unfold run12
    unfold spn at this ⊢
    omega
  rw [e]; exact q
def sp_integer_end : FS := fun ds S Q X => ∃ pre rest, ds = [.str (pre ++ rest), .int (pre.length : Nat)] ∧ (pre ++ rest).length ≤ 1000000 ∧ Q (.int ((pre.length : Nat) + (intEnd rest : Nat))) S
theorem c_min : cs "-" = [45] := by decide +kernel
theorem c_0 : cs "0" = [48] := by decide +kernel
theorem c_e : cs "" = [] := by decide +kernel
theorem c_N : cs "N" = [78] := by decide +kernel
theorem c_T : cs "T" = [84] := by decide +kernel
theorem c_F : cs "F" = [70] := by decide +kernel
theorem c_op : cs "(" = [40] := by decide +kernel
theorem c_cl : cs ")" = [41] := by decide +kernel
theorem c_oc : cs "()" = [40, 41] := by decide +kernel
theorem c_co : cs "," = [44] := by decide +kernel
theorem beqd {a x : List Nat} : (a == x) = decide (x = a) := by rw [Bool.eq_iff_iff, beq_iff_eq, decide_eq_true_iff]; exact ⟨Eq.symm, Eq.symm⟩
theorem take1 {l : List Nat} {a : Nat} : (l.take 1 = [a]) ↔ l.head? = some a := by cases l <;> simp
theorem ok_integer_end {ds : List D} {S : SS} {Q : QN} {X : QX} (h : sp_integer_end ds S Q X) : u_integer_end K c sp_run_end (bodyE Q X) (startE N_integer_end ds) S := by
  obtain ⟨pre, rest, rfl, hl, q⟩ := h
  have hz := szl hl
  unfold u_integer_end
  simp only [dAdd, dAddI, dSub, dEq, dNe, dLt, dLe, dGt, dGe, dIs, SL.isNon, dNeg, fLen, lenD, isTy, mLstrip, seqOf, tru, tyOf, Option.map_some, String.reduceEq, usNil, usSeq, usSet, usExpr, usRet, usRetN, usIf, usBrk, usCnt, usAug, usAsg, usDPut, usRaise, usSub, uVar, uC, uBin, uChain, uUn, uTru, uTb, uAnd, uOr, uNot, uAndV, uOrV, uNotV, uIte, uNil, uCons, uTup, uLst, uNoPart, uPart, uSl, vSl, uFn, gP, uIsi, uBM, uBM0, gM, gAppend, gPop, uCall, uA0, uA1, gId, gApp, isSeq, isRng, isRng2, uDGet, bodyE, startE, ugName, List.map_cons, List.map_nil, List.length_cons, List.length_nil, List.cons_append, List.nil_append, List.getElem?_cons_zero, List.getElem?_cons_succ, List.set_cons_zero, List.set_cons_succ, List.replicate, Nat.add_one_sub_one, Nat.sub_self, Nat.reduceSub, Nat.reduceAdd, Option.some.injEq, exists_eq_left', exists_eq_left, exists_and_left, true_and, and_true, D.bl.injEq, D.int.injEq, D.str.injEq, D.tup.injEq, D.ref.injEq, if_true, if_false, ite_true, ite_false, Bool.false_eq_true, Bool.true_eq_false, reduceIte, hz, cut_app (by decide : (0 : Int) ≤ 1), cut_app2 (by decide : (0 : Int) ≤ 1) (by decide : (1 : Int) ≤ 2), Int.reduceToNat, c_min, c_0, beq_iff_eq]
  have end_ : ∀ {i : Int}, i = (pre.length : Nat) + (intEnd rest : Nat) → ∃ S', Le S' S ∧ Q (.int i) S' := fun {i} e => ⟨S, Le.refl _, by rw [e]; exact q⟩
  cases rest with
  | nil =>
    rw [if_neg (by simp), if_neg (by simp)]
    exact ⟨pre, [], FIG, rfl, hl, end_ (by rfl)⟩
  | cons a r =>
    by_cases h : a = 45
    · subst h
      rw [if_pos (by simp)]
      cases r with
      | nil =>
        rw [if_neg (by simp)]
        exact ⟨pre ++ [45], [], FIG, by simp, by simpa using hl, end_ (by simp [intEnd]; rfl)⟩
      | cons b q2 =>
        by_cases hb : b = 48
        · subst hb
          rw [if_pos (by simp)]
          exact end_ (by simp [intEnd])
        · rw [if_neg (by simp [hb])]
          refine ⟨pre ++ [45], b :: q2, FIG, by simp, by simpa using hl, end_ ?_⟩
          have e : intEnd (45 :: b :: q2) = 1 + run12 FIG (b :: q2) := by
            unfold intEnd
            split
            · rename_i z; injection z with z1 z2; injection z2 with z2 z3; exact absurd z2 hb
            · rename_i z; injection z with z1 z2; rw [← z2]
            · rename_i z; injection z with z1 z2; omega
            · rename_i z1 z2 z3; exact absurd rfl (z2 _)
          rw [e]; simp; omega
    · rw [if_neg (by simp [h])]
      by_cases h0 : a = 48
      · subst h0
        rw [if_pos (by simp)]
        exact end_ (by simp [intEnd])
      · rw [if_neg (by simp [h0])]
        refine ⟨pre, a :: r, FIG, rfl, hl, end_ ?_⟩
        have e : intEnd (a :: r) = run12 FIG (a :: r) := by
          unfold intEnd
          split
          · rename_i z; injection z with z1 z2; omega
          · rename_i z; injection z with z1 z2; omega
          · rename_i z; injection z with z1 z2; omega
          · rfl
        rw [e]
def sp_word_end : FS := fun ds S Q X => ∃ pre rest, ds = [.str (pre ++ rest), .int (pre.length : Nat)] ∧ (pre ++ rest).length ≤ 1000000 ∧ Q (.int ((pre.length : Nat) + (wordEnd rest : Nat))) S
theorem ok_word_end {ds : List D} {S : SS} {Q : QN} {X : QX} (h : sp_word_end ds S Q X) : u_word_end K c sp_run_end sp_integer_end (bodyE Q X) (startE N_word_end ds) S := by
  obtain ⟨pre, rest, rfl, hl, q⟩ := h
  have hz := szl hl
  unfold u_word_end
  simp only [dAdd, dAddI, dSub, dEq, dNe, dLt, dLe, dGt, dGe, dIs, SL.isNon, dNeg, fLen, lenD, isTy, mLstrip, seqOf, tru, tyOf, Option.map_some, String.reduceEq, usNil, usSeq, usSet, usExpr, usRet, usRetN, usIf, usBrk, usCnt, usAug, usAsg, usDPut, usRaise, usSub, uVar, uC, uBin, uChain, uUn, uTru, uTb, uAnd, uOr, uNot, uAndV, uOrV, uNotV, uIte, uNil, uCons, uTup, uLst, uNoPart, uPart, uSl, vSl, uFn, gP, uIsi, uBM, uBM0, gM, gAppend, gPop, uCall, uA0, uA1, gId, gApp, isSeq, isRng, isRng2, uDGet, bodyE, startE, ugName, List.map_cons, List.map_nil, List.length_cons, List.length_nil, List.cons_append, List.nil_append, List.getElem?_cons_zero, List.getElem?_cons_succ, List.set_cons_zero, List.set_cons_succ, List.replicate, Nat.add_one_sub_one, Nat.sub_self, Nat.reduceSub, Nat.reduceAdd, Option.some.injEq, exists_eq_left', exists_eq_left, exists_and_left, true_and, and_true, D.bl.injEq, D.int.injEq, D.str.injEq, D.tup.injEq, D.ref.injEq, if_true, if_false, ite_true, ite_false, Bool.false_eq_true, Bool.true_eq_false, reduceIte, hz, cut_app (by decide : (0 : Int) ≤ 1), Int.reduceToNat, c_N, c_T, c_F, c_e, beq_iff_eq]
  have end_ : ∀ {i : Int}, i = (pre.length : Nat) + (wordEnd rest : Nat) → ∃ S', Le S' S ∧ Q (.int i) S' := fun {i} e => ⟨S, Le.refl _, by rw [e]; exact q⟩
  refine ⟨by rw [sizeLine_eq]; decide, ?_⟩
  have et : ∀ x : List Nat, dIn1 S (.str x) (.tup [.str [78], .str [84], .str [70]]) = some (.bl (decide (x = [78] ∨ x = [84] ∨ x = [70]))) := fun x => by
    simp [dIn1, scV, deq]
    simp only [beqd]
    try rfl
  simp only [dAdd, dAddI, dSub, dEq, dNe, dLt, dLe, dGt, dGe, dIs, SL.isNon, dNeg, fLen, lenD, isTy, mLstrip, seqOf, tru, tyOf, Option.map_some, String.reduceEq, usNil, usSeq, usSet, usExpr, usRet, usRetN, usIf, usBrk, usCnt, usAug, usAsg, usDPut, usRaise, usSub, uVar, uC, uBin, uChain, uUn, uTru, uTb, uAnd, uOr, uNot, uAndV, uOrV, uNotV, uIte, uNil, uCons, uTup, uLst, uNoPart, uPart, uSl, vSl, uFn, gP, uIsi, uBM, uBM0, gM, gAppend, gPop, uCall, uA0, uA1, gId, gApp, isSeq, isRng, isRng2, uDGet, bodyE, startE, ugName, List.map_cons, List.map_nil, List.length_cons, List.length_nil, List.cons_append, List.nil_append, List.getElem?_cons_zero, List.getElem?_cons_succ, List.set_cons_zero, List.set_cons_succ, List.replicate, Nat.add_one_sub_one, Nat.sub_self, Nat.reduceSub, Nat.reduceAdd, Option.some.injEq, exists_eq_left', exists_eq_left, exists_and_left, true_and, and_true, D.bl.injEq, D.int.injEq, D.str.injEq, D.tup.injEq, D.ref.injEq, if_true, if_false, ite_true, ite_false, Bool.false_eq_true, Bool.true_eq_false, reduceIte, et]
  cases rest with
  | nil =>
    rw [if_neg (by simp), if_neg (by simp)]
    exact ⟨pre, [], rfl, hl, end_ (by rfl)⟩
  | cons a r =>
    have e1 : List.take 1 (a :: r) = [a] := rfl
    have el : dIn1 S (.str [a]) gv_LETTERS = some (.bl (decide (a ∈ LOW))) := rfl
    rw [e1]
    simp only [dAdd, dAddI, dSub, dEq, dNe, dLt, dLe, dGt, dGe, dIs, SL.isNon, dNeg, fLen, lenD, isTy, mLstrip, seqOf, tru, tyOf, Option.map_some, String.reduceEq, usNil, usSeq, usSet, usExpr, usRet, usRetN, usIf, usBrk, usCnt, usAug, usAsg, usDPut, usRaise, usSub, uVar, uC, uBin, uChain, uUn, uTru, uTb, uAnd, uOr, uNot, uAndV, uOrV, uNotV, uIte, uNil, uCons, uTup, uLst, uNoPart, uPart, uSl, vSl, uFn, gP, uIsi, uBM, uBM0, gM, gAppend, gPop, uCall, uA0, uA1, gId, gApp, isSeq, isRng, isRng2, uDGet, bodyE, startE, ugName, List.map_cons, List.map_nil, List.length_cons, List.length_nil, List.cons_append, List.nil_append, List.getElem?_cons_zero, List.getElem?_cons_succ, List.set_cons_zero, List.set_cons_succ, List.replicate, Nat.add_one_sub_one, Nat.sub_self, Nat.reduceSub, Nat.reduceAdd, Option.some.injEq, exists_eq_left', exists_eq_left, exists_and_left, true_and, and_true, D.bl.injEq, D.int.injEq, D.str.injEq, D.tup.injEq, D.ref.injEq, if_true, if_false, ite_true, ite_false, Bool.false_eq_true, Bool.true_eq_false, reduceIte, el]
    by_cases h1 : a = 78 ∨ a = 84 ∨ a = 70
    · rw [if_pos (by simpa using h1)]
      exact end_ (by show _ = (pre.length : Int) + ((if _ then _ else _ : Nat) : Int); rw [if_pos h1]; rfl)
    · rw [if_neg (by simpa using h1), if_pos (by simp)]
      by_cases h2 : a ∈ LOW
      · rw [if_pos (decide_eq_true h2)]
        exact ⟨pre, a :: r, TOK, rfl, hl, end_ (by show _ = (pre.length : Int) + ((if _ then _ else _ : Nat) : Int); rw [if_neg h1, if_pos h2])⟩
      · rw [if_neg (by simpa using h2)]
        exact ⟨pre, a :: r, rfl, hl, end_ (by show _ = (pre.length : Int) + ((if _ then _ else _ : Nat) : Int); rw [if_neg h1, if_neg h2])⟩
def sp_value_of_word : FS := fun ds S Q X => ∃ w v, ds = [.str w] ∧ w.length ≤ 600 ∧ w ≠ [] ∧ wordVal w = some v ∧ Q v S
theorem ok_value_of_word {ds : List D} {S : SS} {Q : QN} {X : QX} (h : sp_value_of_word ds S Q X) : u_value_of_word K c (bodyE Q X) (startE N_value_of_word ds) S := by
  obtain ⟨w, v, rfl, hl, hne, hv, q⟩ := h
  have hz : w.length ≤ sizeLine := szl (by omega)
  unfold u_value_of_word
  simp only [dAdd, dAddI, dSub, dEq, dNe, dLt, dLe, dGt, dGe, dIs, SL.isNon, dNeg, fLen, lenD, isTy, mLstrip, seqOf, tru, tyOf, Option.map_some, String.reduceEq, usNil, usSeq, usSet, usExpr, usRet, usRetN, usIf, usBrk, usCnt, usAug, usAsg, usDPut, usRaise, usSub, uVar, uC, uBin, uChain, uUn, uTru, uTb, uAnd, uOr, uNot, uAndV, uOrV, uNotV, uIte, uNil, uCons, uTup, uLst, uNoPart, uPart, uSl, vSl, uFn, gP, uIsi, uBM, uBM0, gM, gAppend, gPop, uCall, uA0, uA1, gId, gApp, isSeq, isRng, isRng2, uDGet, bodyE, startE, ugName, List.map_cons, List.map_nil, List.length_cons, List.length_nil, List.cons_append, List.nil_append, List.getElem?_cons_zero, List.getElem?_cons_succ, List.set_cons_zero, List.set_cons_succ, List.replicate, Nat.add_one_sub_one, Nat.sub_self, Nat.reduceSub, Nat.reduceAdd, Option.some.injEq, exists_eq_left', exists_eq_left, exists_and_left, true_and, and_true, D.bl.injEq, D.int.injEq, D.str.injEq, D.tup.injEq, D.ref.injEq, if_true, if_false, ite_true, ite_false, Bool.false_eq_true, Bool.true_eq_false, reduceIte, hz, c_N, c_T, c_F, c_e, beq_iff_eq]
  unfold wordVal at hv
  have et : dIn1 S (.str w) (.tup [.str [84], .str [70]]) = some (.bl (decide (w = [84] ∨ w = [70]))) := by
    simp [dIn1, scV, deq]
    simp only [beqd]
    try rfl
  by_cases h1 : w = [78]
  · rw [if_pos h1] at hv ⊢; cases hv; exact ⟨S, Le.refl _, q⟩
  · rw [if_neg h1] at hv ⊢
    refine ⟨by rw [sizeLine_eq]; decide, ?_⟩
    simp only [dAdd, dAddI, dSub, dEq, dNe, dLt, dLe, dGt, dGe, dIs, SL.isNon, dNeg, fLen, lenD, isTy, mLstrip, seqOf, tru, tyOf, Option.map_some, String.reduceEq, usNil, usSeq, usSet, usExpr, usRet, usRetN, usIf, usBrk, usCnt, usAug, usAsg, usDPut, usRaise, usSub, uVar, uC, uBin, uChain, uUn, uTru, uTb, uAnd, uOr, uNot, uAndV, uOrV, uNotV, uIte, uNil, uCons, uTup, uLst, uNoPart, uPart, uSl, vSl, uFn, gP, uIsi, uBM, uBM0, gM, gAppend, gPop, uCall, uA0, uA1, gId, gApp, isSeq, isRng, isRng2, uDGet, bodyE, startE, ugName, List.map_cons, List.map_nil, List.length_cons, List.length_nil, List.cons_append, List.nil_append, List.getElem?_cons_zero, List.getElem?_cons_succ, List.set_cons_zero, List.set_cons_succ, List.replicate, Nat.add_one_sub_one, Nat.sub_self, Nat.reduceSub, Nat.reduceAdd, Option.some.injEq, exists_eq_left', exists_eq_left, exists_and_left, true_and, and_true, D.bl.injEq, D.int.injEq, D.str.injEq, D.tup.injEq, D.ref.injEq, if_true, if_false, ite_true, ite_false, Bool.false_eq_true, Bool.true_eq_false, reduceIte, et]
    by_cases h2 : w = [84]
    · subst h2
      rw [if_pos rfl] at hv
      cases hv
      rw [if_pos (by simp)]; exact ⟨S, Le.refl _, q⟩
    · rw [if_neg h2] at hv
      by_cases h3 : w = [70]
      · subst h3
        rw [if_pos rfl] at hv
        cases hv
        rw [if_pos (by simp)]; exact ⟨S, Le.refl _, q⟩
      · rw [if_neg h3] at hv
        rw [if_neg (by simp [h2, h3])]
        cases w with
        | nil => exact absurd rfl hne
        | cons a r =>
          have ei : dIx S (.str (a :: r)) (.int 0) = some (.str [a]) := by
            show (if _ then _ else none) = _
            rw [if_pos hz]
            have := atI_nat (xs := a :: r) (n := 0)
            rw [show ((0 : Nat) : Int) = 0 from rfl] at this
            rw [this]; rfl
          have el : dIn1 S (.str [a]) gv_LETTERS = some (.bl (decide (a ∈ LOW))) := rfl
          simp only [dAdd, dAddI, dSub, dEq, dNe, dLt, dLe, dGt, dGe, dIs, SL.isNon, dNeg, fLen, lenD, isTy, mLstrip, seqOf, tru, tyOf, Option.map_some, String.reduceEq, usNil, usSeq, usSet, usExpr, usRet, usRetN, usIf, usBrk, usCnt, usAug, usAsg, usDPut, usRaise, usSub, uVar, uC, uBin, uChain, uUn, uTru, uTb, uAnd, uOr, uNot, uAndV, uOrV, uNotV, uIte, uNil, uCons, uTup, uLst, uNoPart, uPart, uSl, vSl, uFn, gP, uIsi, uBM, uBM0, gM, gAppend, gPop, uCall, uA0, uA1, gId, gApp, isSeq, isRng, isRng2, uDGet, bodyE, startE, ugName, List.map_cons, List.map_nil, List.length_cons, List.length_nil, List.cons_append, List.nil_append, List.getElem?_cons_zero, List.getElem?_cons_succ, List.set_cons_zero, List.set_cons_succ, List.replicate, Nat.add_one_sub_one, Nat.sub_self, Nat.reduceSub, Nat.reduceAdd, Option.some.injEq, exists_eq_left', exists_eq_left, exists_and_left, true_and, and_true, D.bl.injEq, D.int.injEq, D.str.injEq, D.tup.injEq, D.ref.injEq, if_true, if_false, ite_true, ite_false, Bool.false_eq_true, Bool.true_eq_false, reduceIte, ei, el]
          simp only [] at hv
          by_cases h4 : a ∈ LOW
          · rw [if_pos h4] at hv; cases hv
            rw [if_pos (decide_eq_true h4)]; exact ⟨S, Le.refl _, q⟩
          · rw [if_neg h4] at hv
            rw [if_neg (by simpa using h4)]
            refine ⟨v, ?_, S, Le.refl _, q⟩
            show (if _ then _ else none) = _
            rw [if_pos (by omega)]; exact hv
end K00

set_option Elab.async false
set_option linter.all false
set_option maxRecDepth 100000
set_option maxHeartbeats 4000000
namespace K00
open PySem PySem.Spec L2 SL
/-- a stack of lists -/
structure Stk (S0 S : SS) (o : Addr) (fs : List (Addr × List D)) : Prop where
  le : Le S0 S
  o0 : S0 o = none
  so : S o = some (.lst (fs.map fun p => .ref p.1))
  nd : (o :: fs.map (·.1)).Nodup
  el : ∀ p ∈ fs, S0 p.1 = none ∧ S p.1 = some (.lst p.2)
theorem Stk.push {S0 S : SS} {o p : Addr} {fs : List (Addr × List D)} (h : Stk S0 S o fs) (n : S p = none) : Stk S0 (SL.sup (SL.sup S p (.lst [])) o (.lst ((fs.map fun p => .ref p.1) ++ [.ref p]))) o (fs ++ [(p, [])]) := by
  have hop : o ≠ p := fun z => by rw [← z, h.so] at n; cases n
  have hne : ∀ q ∈ fs, q.1 ≠ p := fun q hq z => by rw [← z, (h.el q hq).2] at n; cases n
  have hno : ∀ q ∈ fs, q.1 ≠ o := fun q hq z => by
    have := h.nd
    rw [List.nodup_cons] at this
    exact this.1 (List.mem_map.mpr ⟨q, hq, z⟩)
  refine ⟨(h.le.newOf n).chg h.o0, h.o0, by rw [sup_same]; simp, ?_, fun q hq => ?_⟩
  · have := h.nd
    rw [List.nodup_cons] at this ⊢
    rw [List.map_append, List.nodup_append]
    refine ⟨?_, this.2, by simp, ?_⟩
    · rw [List.mem_append]; rintro (z | z)
      · exact this.1 z
      · simp at z; exact hop z
    · intro a ha b hb
      simp at hb; subst hb
      obtain ⟨q, hq, rfl⟩ := List.mem_map.mp ha
      exact hne q hq
  · rcases List.mem_append.mp hq with hq | hq
    · refine ⟨(h.el q hq).1, ?_⟩
      rw [sup_ne (hno q hq), sup_ne (hne q hq)]
      exact (h.el q hq).2
    · simp at hq; subst hq
      refine ⟨h.le.none_of n, ?_⟩
      rw [sup_ne hop.symm, sup_same]
theorem Stk.app {S0 S : SS} {o r : Addr} {f : List D} {v : D} {fs : List (Addr × List D)} (h : Stk S0 S o (fs ++ [(r, f)])) : Stk S0 (SL.sup S r (.lst (f ++ [v]))) o (fs ++ [(r, f ++ [v])]) := by
  have nd := h.nd
  rw [List.map_append, List.nodup_cons, List.nodup_append] at nd
  obtain ⟨n1, n2, n3, n4⟩ := nd
  have hr := h.el (r, f) (by simp)
  refine ⟨h.le.chg hr.1, h.o0, ?_, by simpa using h.nd, fun q hq => ?_⟩
  · rw [sup_ne (fun z => n1 (by rw [z]; simp)), h.so]; simp
  · rcases List.mem_append.mp hq with hq | hq
    · refine ⟨(h.el q (List.mem_append_left _ hq)).1, ?_⟩
      rw [sup_ne (n4 q.1 (List.mem_map.mpr ⟨q, hq, rfl⟩) r (by simp))]
      exact (h.el q (List.mem_append_left _ hq)).2
    · simp at hq; subst hq
      exact ⟨hr.1, sup_same⟩
theorem Stk.pop {S0 S : SS} {o r : Addr} {f : List D} {fs : List (Addr × List D)} (h : Stk S0 S o (fs ++ [(r, f)])) : Stk S0 (SL.sup S o (.lst (fs.map fun p => .ref p.1))) o fs ∧ SL.sup S o (.lst (fs.map fun p => .ref p.1)) r = some (.lst f) := by
  have nd := h.nd
  rw [List.map_append, List.nodup_cons, List.nodup_append] at nd
  obtain ⟨n1, n2, n3, n4⟩ := nd
  have hno : ∀ q ∈ fs ++ [(r, f)], q.1 ≠ o := fun q hq z => n1 (by rw [← List.map_append]; exact List.mem_map.mpr ⟨q, hq, z⟩)
  refine ⟨⟨h.le.chg h.o0, h.o0, sup_same, ?_, fun q hq => ?_⟩, ?_⟩
  · rw [List.nodup_cons]; exact ⟨fun z => n1 (List.mem_append_left _ z), n2⟩
  · have := h.el q (List.mem_append_left _ hq)
    exact ⟨this.1, by rw [sup_ne (hno q (List.mem_append_left _ hq))]; exact this.2⟩
  · rw [sup_ne (hno (r, f) (by simp))]; exact (h.el (r, f) (by simp)).2
theorem Stk.new {S0 : SS} {o p : Addr} (h1 : S0 p = none) (h2 : SL.sup S0 p (.lst []) o = none) : Stk S0 (SL.sup (SL.sup S0 p (.lst [])) o (.lst [.ref p])) o [(p, [])] := by
  have hop : o ≠ p := fun z => by rw [z, sup_same] at h2; cases h2
  rw [sup_ne hop] at h2
  refine ⟨(Le.new h1).chg h2, h2, by rw [sup_same]; rfl, by simp [hop], fun q hq => ?_⟩
  simp at hq; subst hq
  exact ⟨h1, by rw [sup_ne hop.symm, sup_same]⟩

abbrev slA (lo hi : UE) : UE := uSl (uVar 0) (uPart lo) (uPart hi)
abbrev atP (k : Int) : UE := uBin dAdd (uVar 2) (uC (.int k))
def rvC1 : UT := uAnd (uTb (uBin dEq (slA (uVar 2) (atP 1)) (uC (.str (cs "("))))) (uTb (uBin dLe (uFn (gP fLen) (uCons (uVar 1) uNil)) (uC gv_MOST_DEEP)))
def rvB1 : US := usSeq (usExpr (uBM "list" gAppend (uVar 1) (uCons (uLst uNil) uNil))) (usAug 2 dAddI (uC (.int 1)))
def rvW (c : Cs) (sp_word_end sp_value_of_word : FS) : US := usIf (uTb (uBin dNe (slA (uBin dSub (uVar 2) (uC (.int 1))) (atP 1)) (uC (.str (cs "()"))))) (usSeq (usSet 3 (uCall (sp_word_end) gId (uA1 2 (uCons (uVar 0) (uCons (uVar 2) uNil)))))
  (usSeq (usIf (uTb (uBin dIn1 (slA (uVar 2) (uVar 3)) (uTup (uCons (uC (.str (cs ""))) (uCons (uC (.str (cs "-"))) uNil))))) (usRaise c.InvalidText ["text", "at"] (uCons (uVar 0) (uCons (uVar 3) uNil))) usNil)
  (usSeq (usExpr (uBM "list" gAppend (uBin dIx (uVar 1) (uUn dNeg (uC (.int 1)))) (uCons (uCall (sp_value_of_word) gId (uA1 1 (uCons (slA (uVar 2) (uVar 3)) uNil))) uNil)))
  (usSet 2 (uVar 3))))) usNil
def rvC2 : UT := uAnd (uTb (uBin dEq (slA (uVar 2) (atP 1)) (uC (.str (cs ")"))))) (uTb (uBin dGt (uFn (gP fLen) (uCons (uVar 1) uNil)) (uC (.int 1))))
def rvB2 : US := usSeq (usSet 4 (uBM0 "list" gPop (uVar 1)))
  (usSeq (usExpr (uBM "list" gAppend (uBin dIx (uVar 1) (uUn dNeg (uC (.int 1)))) (uCons (uFn (gP fTup) (uCons (uVar 4) uNil)) uNil)))
  (usAug 2 dAddI (uC (.int 1))))
def rvE (c : Cs) : US := usSeq (usIf (uAnd (uTb (uBin dEq (uFn (gP fLen) (uCons (uVar 1) uNil)) (uC (.int 1)))) (uTb (uBin dEq (uVar 2) (uFn (gP fLen) (uCons (uVar 0) uNil))))) (usRet (uBin dIx (uBin dIx (uVar 1) (uC (.int 0))) (uC (.int 0)))) usNil)
  (usSeq (usIf (uOr (uTb (uBin dEq (uFn (gP fLen) (uCons (uVar 1) uNil)) (uC (.int 1)))) (uTb (uBin dNe (slA (uVar 2) (atP 1)) (uC (.str (cs ",")))))) (usRaise c.InvalidText ["text", "at"] (uCons (uVar 0) (uCons (uVar 2) uNil))) usNil)
  (usAug 2 dAddI (uC (.int 1))))
def rvB (c : Cs) (sp_word_end sp_value_of_word : FS) : US := usSeq (usWh rvC1 rvB1) (usSeq (rvW c sp_word_end sp_value_of_word) (usSeq (usWh rvC2 rvB2) (rvE c)))
variable {K : PySem.W.Frag} {c : Cs}
theorem rv_eq {a b : FS} : u_read_value K c a b = usSeq (usIf (uNot (uTru (uIsi ["str"] (uVar 0)))) (usRaise c.InvalidText ["text", "at"] (uCons (uVar 0) (uCons (uC (.int 0)) uNil))) usNil)
  (usSeq (usSet 1 (uLst (uCons (uLst uNil) uNil))) (usSeq (usSet 2 (uC (.int 0))) (usWh (uTru (uC (.bl true))) (rvB c a b)))) := rfl

theorem PlW.mono {n m : Nat} {d : D} (h : PlW n d) (hm : n ≤ m) : PlW m d := by
  induction hm with
  | refl => exact h
  | step _ ih => exact ih.up
structure HD (t : List Nat) (os : List (Addr × List D)) (f : List D) (md : Md) (pre rest : List Nat) : Prop where
  et : t = pre ++ rest
  ep : pre = ren (os.map (·.2)) f
  fr : Frs (os.map (·.2)) f
  f0 : (os.map (·.2) ++ [f])[0]? = some []
  ru : rn s0 pre = some ⟨md, 0, os.length⟩
  cs : (md = .opened ∧ f = [] ∧ os ≠ []) ∨ (md = .start ∧ (f ≠ [] ∨ os = []))
theorem rn_snoc {s st st' : Stt} {a : List Nat} {x : Nat} (h : rn s a = some st) (h2 : stp st x = some st') : rn s (a ++ [x]) = some st' := by
  rw [rn_app, h]; exact rn_one h2
theorem HD.push {t : List Nat} {os : List (Addr × List D)} {r : Addr} {f : List D} {md : Md} {pre rest : List Nat} (h : HD t os f md pre (40 :: rest)) (hl : os.length < 20) : HD t (os ++ [(r, f)]) [] .opened (pre ++ [40]) rest := by
  refine ⟨by rw [h.et]; simp, ?_, ⟨?_, ?_⟩, ?_, ?_, .inl ⟨rfl, rfl, by simp⟩⟩
  · rw [List.map_append, List.map_cons, List.map_nil, ren_push, ← h.ep]
  · rw [List.length_map, List.length_append]; simp; omega
  · intro i g hg d hd
    have hg : (os.map (·.2) ++ [f] ++ [[]])[i]? = some g := by simpa using hg
    by_cases hi : i < (os.map (·.2) ++ [f]).length
    · rw [List.getElem?_append_left hi] at hg
      exact h.fr.2 i g hg d hd
    · rw [List.getElem?_append_right (by omega)] at hg
      have : g = [] := by
        cases hk : i - (os.map (·.2) ++ [f]).length with
        | zero => rw [hk] at hg; simp at hg; exact hg
        | succ k => rw [hk] at hg; simp at hg
      subst this; cases hd
  · have := h.f0
    rw [List.map_append, List.map_cons, List.map_nil, List.getElem?_append_left (by simp)]; exact this
  · refine rn_snoc h.ru ?_
    have : stp ⟨md, 0, os.length⟩ 40 = fst1 40 os.length := by
      unfold stp; rw [if_pos]; rcases h.cs with z | z
      · exact .inr ⟨z.1, by decide⟩
      · exact .inl z.1
    rw [this]; unfold fst1; rw [if_pos rfl, if_pos hl]; simp
abbrev envR (t : List Nat) (o : Addr) (p : Nat) (e3 e4 : Option D) : En := [some (.str t), some (.ref o), some (.int (p : Nat)), e3, e4]
theorem head1 {l : List Nat} {a : Nat} : (l.take 1 == [a]) = decide (l.head? = some a) := by rw [Bool.eq_iff_iff, beq_iff_eq, decide_eq_true_iff]; exact take1
theorem itm_len : ∀ {f : List D}, f.length ≤ (itm f).length
  | [] => Nat.zero_le _
  | x :: f => by
    have := itm_len (f := f)
    have e : itm (x :: f) = txt x ++ [44] ++ itm f := by simp [itm]
    rw [e]; simp; omega
theorem wordEnd_le {l : List Nat} : wordEnd l ≤ 13 := by
  have hi : ∀ l, intEnd l ≤ 13 := fun l => by
    unfold intEnd
    split
    · omega
    · rename_i r _; have := (run12_le (sg := FIG) (l := r)).1; omega
    · omega
    · have := (run12_le (sg := FIG) (l := l)).1; omega
  cases l with
  | nil => exact hi []
  | cons a r =>
    show (if _ then _ else _) ≤ 13
    split
    · omega
    · split
      · have := (run12_le (sg := TOK) (l := a :: r)).1; omega
      · exact hi _
theorem Frs.snoc {fs : List (List D)} {f : List D} {v : D} (h : Frs fs f) (hv : PlW (20 - fs.length) v) : Frs fs (f ++ [v]) := by
  refine ⟨h.1, fun i g hg d hd => ?_⟩
  by_cases hi : i < fs.length
  · rw [List.getElem?_append_left hi] at hg
    exact h.2 i g (by rw [List.getElem?_append_left hi]; exact hg) d hd
  · rw [List.getElem?_append_right (by omega)] at hg
    cases hk : i - fs.length with
    | succ k => rw [hk] at hg; simp at hg
    | zero =>
      rw [hk] at hg; simp at hg; subst hg
      have ei : i = fs.length := by omega
      rcases List.mem_append.mp hd with hd | hd
      · exact h.2 i f (by rw [List.getElem?_append_right (by omega), hk]; rfl) d hd
      · simp at hd; subst hd; rw [ei]; exact hv
theorem Frs.top {fs : List (List D)} {f : List D} (h : Frs fs f) : ∀ d ∈ f, PlW (20 - fs.length) d := fun d hd => h.2 fs.length f (by rw [List.getElem?_append_right (Nat.le_refl _)]; simp) d hd
theorem Frs.down {fs : List (List D)} {g f : List D} (h : Frs (fs ++ [g]) f) : Frs fs g := by
  refine ⟨by have := h.1; simp at this; omega, fun i x hx d hd => h.2 i x ?_ d hd⟩
  obtain ⟨hi, hx'⟩ := List.getElem?_eq_some_iff.mp hx
  rw [List.getElem?_append_left hi]; exact hx
section
variable {S0 : SS} {o : Addr} {t : List Nat} (ht : t.length ≤ 1000000)
include ht
theorem rvC1_of {e3 e4 : Option D} {rest pre : List Nat} {os : List (Addr × List D)} {S : SS} {Q : Bool → SS → Prop} {X : QX} (et : t = pre ++ rest) (hso : S o = some (.lst (os.map fun p => .ref p.1)))
    (h : Q (decide (rest.head? = some 40 ∧ os.length ≤ 20)) S) : rvC1 (envR t o pre.length e3 e4) S Q X := by
  subst et
  have hz := szl ht
  unfold rvC1
  simp only [dAdd, dAddI, dSub, dEq, dNe, dLt, dLe, dGt, dGe, dIs, SL.isNon, dNeg, fLen, lenD, isTy, mLstrip, seqOf, tru, tyOf, Option.map_some, String.reduceEq, usNil, usSeq, usSet, usExpr, usRet, usRetN, usIf, usBrk, usCnt, usAug, usAsg, usDPut, usRaise, usSub, uVar, uC, uBin, uChain, uUn, uTru, uTb, uAnd, uOr, uNot, uAndV, uOrV, uNotV, uIte, uNil, uCons, uTup, uLst, uNoPart, uPart, uSl, vSl, uFn, gP, uIsi, uBM, uBM0, gM, gAppend, gPop, uCall, uA0, uA1, gId, gApp, isSeq, isRng, isRng2, uDGet, bodyE, startE, ugName, List.map_cons, List.map_nil, List.length_cons, List.length_nil, List.cons_append, List.nil_append, List.getElem?_cons_zero, List.getElem?_cons_succ, List.set_cons_zero, List.set_cons_succ, List.replicate, Nat.add_one_sub_one, Nat.sub_self, Nat.reduceSub, Nat.reduceAdd, Option.some.injEq, exists_eq_left', exists_eq_left, exists_and_left, true_and, and_true, D.bl.injEq, D.int.injEq, D.str.injEq, D.tup.injEq, D.ref.injEq, Ob.lst.injEq, List.cons.injEq, fTup, if_true, if_false, ite_true, ite_false, Bool.false_eq_true, Bool.true_eq_false, reduceIte, envR, slA, atP, hz, hso, cut_app (by decide : (0 : Int) ≤ 1), Int.reduceToNat, c_op, head1]
  by_cases hh : rest.head? = some 40
  · rw [if_pos (by simpa using hh)]
    have e : decide (((List.map (fun p => D.ref p.1) os).length : Int) ≤ 20) = decide (rest.head? = some 40 ∧ os.length ≤ 20) := by
      rw [List.length_map, decide_eq_decide]; constructor
      · intro z; exact ⟨hh, by omega⟩
      · intro z; omega
    rw [e]; exact h
  · rw [if_neg (by simpa using hh)]
    rw [decide_eq_false (fun z => hh z.1)] at h; exact h
omit ht in
theorem rvB1_of {e3 e4 : Option D} {pre : List Nat} {os : List (Addr × List D)} {S : SS} {Z : EndsS} (hl : os.length ≤ 20) (hs : Stk S0 S o os)
    (h : ∀ p S', Stk S0 S' o (os ++ [(p, [])]) → Z.nx (envR t o (pre ++ [40]).length e3 e4) S') : rvB1 Z (envR t o pre.length e3 e4) S := by
  have hso := hs.so
  unfold rvB1
  simp only [dAdd, dAddI, dSub, dEq, dNe, dLt, dLe, dGt, dGe, dIs, SL.isNon, dNeg, fLen, lenD, isTy, mLstrip, seqOf, tru, tyOf, Option.map_some, String.reduceEq, usNil, usSeq, usSet, usExpr, usRet, usRetN, usIf, usBrk, usCnt, usAug, usAsg, usDPut, usRaise, usSub, uVar, uC, uBin, uChain, uUn, uTru, uTb, uAnd, uOr, uNot, uAndV, uOrV, uNotV, uIte, uNil, uCons, uTup, uLst, uNoPart, uPart, uSl, vSl, uFn, gP, uIsi, uBM, uBM0, gM, gAppend, gPop, uCall, uA0, uA1, gId, gApp, isSeq, isRng, isRng2, uDGet, bodyE, startE, ugName, List.map_cons, List.map_nil, List.length_cons, List.length_nil, List.cons_append, List.nil_append, List.getElem?_cons_zero, List.getElem?_cons_succ, List.set_cons_zero, List.set_cons_succ, List.replicate, Nat.add_one_sub_one, Nat.sub_self, Nat.reduceSub, Nat.reduceAdd, Option.some.injEq, exists_eq_left', exists_eq_left, exists_and_left, true_and, and_true, D.bl.injEq, D.int.injEq, D.str.injEq, D.tup.injEq, D.ref.injEq, Ob.lst.injEq, List.cons.injEq, fTup, if_true, if_false, ite_true, ite_false, Bool.false_eq_true, Bool.true_eq_false, reduceIte, envR, hso]
  refine ⟨by rw [sizeLine_eq]; decide, fun p hp => ?_⟩
  have hpo : o ≠ p := fun z => by rw [← z, hso] at hp; cases hp
  rw [sup_ne hpo, hso]
  simp only [dAdd, dAddI, dSub, dEq, dNe, dLt, dLe, dGt, dGe, dIs, SL.isNon, dNeg, fLen, lenD, isTy, mLstrip, seqOf, tru, tyOf, Option.map_some, String.reduceEq, usNil, usSeq, usSet, usExpr, usRet, usRetN, usIf, usBrk, usCnt, usAug, usAsg, usDPut, usRaise, usSub, uVar, uC, uBin, uChain, uUn, uTru, uTb, uAnd, uOr, uNot, uAndV, uOrV, uNotV, uIte, uNil, uCons, uTup, uLst, uNoPart, uPart, uSl, vSl, uFn, gP, uIsi, uBM, uBM0, gM, gAppend, gPop, uCall, uA0, uA1, gId, gApp, isSeq, isRng, isRng2, uDGet, bodyE, startE, ugName, List.map_cons, List.map_nil, List.length_cons, List.length_nil, List.cons_append, List.nil_append, List.getElem?_cons_zero, List.getElem?_cons_succ, List.set_cons_zero, List.set_cons_succ, List.replicate, Nat.add_one_sub_one, Nat.sub_self, Nat.reduceSub, Nat.reduceAdd, Option.some.injEq, exists_eq_left', exists_eq_left, exists_and_left, true_and, and_true, D.bl.injEq, D.int.injEq, D.str.injEq, D.tup.injEq, D.ref.injEq, Ob.lst.injEq, List.cons.injEq, fTup, if_true, if_false, ite_true, ite_false, Bool.false_eq_true, Bool.true_eq_false, reduceIte]
  refine ⟨by rw [List.length_map, sizeLine_eq]; omega, ?_⟩
  have e2 : ((pre.length : Nat) : Int) + 1 = (((pre ++ [40]).length : Nat) : Int) := by simp
  rw [e2]
  exact h p _ (hs.push hp)
theorem wh1 {Z : EndsS} {e3 e4 : Option D} : ∀ (n : Nat) (rest pre : List Nat) (os : List (Addr × List D)) (r : Addr) (f : List D) (md : Md) (S : SS), rest.length < n → HD t os f md pre rest → Stk S0 S o (os ++ [(r, f)]) →
    (∀ rest' pre' os' r' f' md' S', rest'.length ≤ rest.length → HD t os' f' md' pre' rest' → Stk S0 S' o (os' ++ [(r', f')]) → (rest'.head? = some 40 → ¬ os'.length < 20) → Z.nx (envR t o pre'.length e3 e4) S') →
    whL rvC1 rvB1 Z n (envR t o pre.length e3 e4) S
  | 0, rest, pre, os, r, f, md, S, hn, _, _, _ => absurd hn (Nat.not_lt_zero _)
  | n + 1, rest, pre, os, r, f, md, S, hn, h, hs, k => by
    show rvC1 _ _ _ _
    refine rvC1_of ht h.et hs.so ?_
    by_cases hh : rest.head? = some 40 ∧ os.length < 20
    · obtain ⟨hh, hd⟩ := hh
      obtain ⟨rest2, rfl⟩ : ∃ r2, rest = 40 :: r2 := by
        cases rest with
        | nil => simp at hh
        | cons a q => simp at hh; subst hh; exact ⟨q, rfl⟩
      rw [if_pos (by simp; omega)]
      refine rvB1_of (by simp; omega) hs fun p S' hs2 => ?_
      exact wh1 n rest2 (pre ++ [40]) (os ++ [(r, f)]) p [] .opened S' (by simp at hn; omega) (h.push hd) hs2 (fun rest' pre' os' r' f' md' S' a b c d => k rest' pre' os' r' f' md' S' (by simp; omega) b c d)
    · rw [if_neg (by simp at hh ⊢; intro z; have := hh z; omega)]
      exact k rest pre os r f md S (Nat.le_refl _) h hs fun z hd => hh ⟨z, hd⟩
omit ht in
/-- text[at - 1:at + 1] is () just behind a ( -/
theorem oc_iff {os : List (Addr × List D)} {f : List D} {md : Md} {pre rest : List Nat} (h : HD t os f md pre rest) :
    (cut (pre ++ rest) (some ((pre.length : Int) - 1)) (some ((pre.length : Int) + 1)) = [40, 41]) ↔ (md = .opened ∧ rest.head? = some 41) := by
  have hlast : pre.getLast? = some 40 ↔ md = .opened := by
    rcases h.cs with ⟨h1, h2, h3⟩ | ⟨h1, h2⟩
    · subst h1
      simp only [iff_true]
      rw [h.ep, h2]
      obtain ⟨q, z, e⟩ : ∃ q z, os = q ++ [z] := ⟨os.dropLast, os.getLast h3, (List.dropLast_concat_getLast h3).symm⟩
      subst e
      rw [List.map_append, List.map_cons, List.map_nil, ren_push]; simp
    · subst h1
      simp only [reduceCtorEq, iff_false]
      rcases h2 with h2 | h2
      · obtain ⟨q, z, e⟩ : ∃ q z, f = q ++ [z] := ⟨f.dropLast, f.getLast h2, (List.dropLast_concat_getLast h2).symm⟩
        rw [h.ep, e, ren_snoc, ← List.append_assoc, List.getLast?_append]; simp
      · subst h2
        have := h.f0
        simp at this; subst this
        rw [h.ep]; simp [ren, ren0, itm]
  cases hp : pre with
  | nil =>
    rw [hp] at hlast
    simp at hlast
    have hne : md ≠ .opened := hlast
    constructor
    · intro z
      have h1 : (cut ([] ++ rest) (some ((([] : List Nat).length : Int) - 1)) (some ((([] : List Nat).length : Int) + 1))).length ≤ 1 := by
        show (cut rest (some (-1)) (some 1)).length ≤ 1
        have e1 : HT.sIx rest.length rest.length (some 1) = min 1 rest.length := HT.sIx_nat _ _ 1
        unfold cut
        rw [List.length_take, e1]
        omega
      rw [z] at h1; simp at h1
    · intro z; exact absurd z.1 hne
  | cons a q0 =>
    have hne : pre ≠ [] := by rw [hp]; simp
    obtain ⟨q, z, e⟩ : ∃ q z, pre = q ++ [z] := ⟨pre.dropLast, pre.getLast hne, (List.dropLast_concat_getLast hne).symm⟩
    rw [← hp]
    rw [e] at hlast ⊢
    have e1 : (((q ++ [z]).length : Nat) : Int) - 1 = (q.length : Nat) := by simp
    have e2 : (((q ++ [z]).length : Nat) : Int) + 1 = (q.length : Nat) + 2 := by simp; omega
    rw [e1, e2, List.append_assoc, cut_app (by decide : (0 : Int) ≤ 2)]
    simp only [List.getLast?_append, List.getLast?_singleton, Option.some_or, Option.some.injEq] at hlast
    rw [← hlast]
    cases rest <;> simp
/-- behind a value, or ahead of the ) of () -/
structure CLS (t : List Nat) (os : List (Addr × List D)) (f : List D) (pre rest : List Nat) : Prop where
  et : t = pre ++ rest
  fr : Frs (os.map (·.2)) f
  f0 : os ≠ [] → (os.map (·.2))[0]? = some []
  cs : (∃ f' v st, f = f' ++ [v] ∧ (os = [] → f' = []) ∧ pre = ren (os.map (·.2)) f' ++ txt v ∧ rn s0 pre = some st ∧ st.dp = os.length ∧ AftS st rest) ∨
    (f = [] ∧ os ≠ [] ∧ pre = ren (os.map (·.2)) [] ∧ rest.head? = some 41 ∧ rn s0 pre = some ⟨.opened, 0, os.length⟩)
omit ht in
theorem CLS.close {os : List (Addr × List D)} {q : Addr} {g f : List D} {pre rest : List Nat} (h : CLS t (os ++ [(q, g)]) f pre (41 :: rest)) : CLS t os (g ++ [.tup f]) (pre ++ [41]) rest := by
  have hfr : Frs (os.map (·.2) ++ [g]) f := by simpa using h.fr
  have hl : os.length + 1 ≤ 20 := by have := hfr.1; simp at this; omega
  have f0 := h.f0 (by simp)
  refine ⟨by rw [h.et]; simp, hfr.down.snoc ?_, fun ho => ?_, .inl ⟨g, .tup f, ⟨.ended, 0, os.length⟩, rfl, fun ho => ?_, ?_, ?_, rfl, aft_end⟩⟩
  · rw [List.length_map]
    have : 20 - os.length = (20 - (os.length + 1)) + 1 := by omega
    rw [this]
    intro x hx
    have := hfr.top x hx
    simpa using this
  · rw [List.map_append, List.getElem?_append_left (by simp; exact List.length_pos_iff.mpr ho)] at f0
    exact f0
  · subst ho; simpa using f0
  · rcases h.cs with ⟨f', v, st, e1, e2, e3, e4, e5, e6⟩ | ⟨e1, e2, e3, e4, e5⟩
    · rw [e3, e1, List.map_append, List.map_cons, List.map_nil, List.append_assoc, ren_close]
    · rw [e3, e1, List.map_append, List.map_cons, List.map_nil, ren_close0]
  · rcases h.cs with ⟨f', v, st, e1, e2, e3, e4, e5, e6⟩ | ⟨e1, e2, e3, e4, e5⟩
    · refine rn_snoc e4 ?_
      rw [e6.nx 41 rfl, e5]; unfold aft
      rw [if_neg (by simp), if_pos rfl]; simp
    · refine rn_snoc e5 ?_
      simp [stp]
theorem rvC2_of {e3 e4 : Option D} {rest pre : List Nat} {os : List (Addr × List D)} {S : SS} {Q : Bool → SS → Prop} {X : QX} (et : t = pre ++ rest) (hso : S o = some (.lst (os.map fun p => .ref p.1)))
    (h : Q (decide (rest.head? = some 41 ∧ 1 < os.length)) S) : rvC2 (envR t o pre.length e3 e4) S Q X := by
  subst et
  have hz := szl ht
  unfold rvC2
  simp only [dAdd, dAddI, dSub, dEq, dNe, dLt, dLe, dGt, dGe, dIs, SL.isNon, dNeg, fLen, lenD, isTy, mLstrip, seqOf, tru, tyOf, Option.map_some, String.reduceEq, usNil, usSeq, usSet, usExpr, usRet, usRetN, usIf, usBrk, usCnt, usAug, usAsg, usDPut, usRaise, usSub, uVar, uC, uBin, uChain, uUn, uTru, uTb, uAnd, uOr, uNot, uAndV, uOrV, uNotV, uIte, uNil, uCons, uTup, uLst, uNoPart, uPart, uSl, vSl, uFn, gP, uIsi, uBM, uBM0, gM, gAppend, gPop, uCall, uA0, uA1, gId, gApp, isSeq, isRng, isRng2, uDGet, bodyE, startE, ugName, List.map_cons, List.map_nil, List.length_cons, List.length_nil, List.cons_append, List.nil_append, List.getElem?_cons_zero, List.getElem?_cons_succ, List.set_cons_zero, List.set_cons_succ, List.replicate, Nat.add_one_sub_one, Nat.sub_self, Nat.reduceSub, Nat.reduceAdd, Option.some.injEq, exists_eq_left', exists_eq_left, exists_and_left, true_and, and_true, D.bl.injEq, D.int.injEq, D.str.injEq, D.tup.injEq, D.ref.injEq, Ob.lst.injEq, List.cons.injEq, fTup, if_true, if_false, ite_true, ite_false, Bool.false_eq_true, Bool.true_eq_false, reduceIte, envR, slA, atP, hz, hso, cut_app (by decide : (0 : Int) ≤ 1), Int.reduceToNat, c_cl, head1]
  by_cases hh : rest.head? = some 41
  · rw [if_pos (by simpa using hh)]
    have e : decide ((1 : Int) < ((List.map (fun p => D.ref p.1) os).length : Int)) = decide (rest.head? = some 41 ∧ 1 < os.length) := by
      rw [List.length_map, decide_eq_decide]; constructor
      · intro z; exact ⟨hh, by omega⟩
      · intro z; omega
    rw [e]; exact h
  · rw [if_neg (by simpa using hh)]
    rw [decide_eq_false (fun z => hh z.1)] at h; exact h
omit ht in
theorem rvB2_of {e3 e4 : Option D} {pre : List Nat} {os : List (Addr × List D)} {q r : Addr} {g f : List D} {S : SS} {Z : EndsS} (hl : os.length ≤ 20) (hg : g.length < sizeLine) (hs : Stk S0 S o (os ++ [(q, g)] ++ [(r, f)]))
    (h : ∀ e4' S', Stk S0 S' o (os ++ [(q, g ++ [.tup f])]) → Z.nx (envR t o (pre ++ [41]).length e3 e4') S') : rvB2 Z (envR t o pre.length e3 e4) S := by
  have hso := hs.so
  obtain ⟨hs2, hr2⟩ := hs.pop
  have hso2 := hs2.so
  have hq := (hs2.el (q, g) (by simp)).2
  have hd : (List.map (fun p => D.ref p.1) (os ++ [(q, g)] ++ [(r, f)])).dropLast = List.map (fun p => D.ref p.1) (os ++ [(q, g)]) := by rw [List.map_append (l₂ := [(r, f)])]; simp
  have hla : (List.map (fun p => D.ref p.1) (os ++ [(q, g)] ++ [(r, f)]))[(List.map (fun p => D.ref p.1) (os ++ [(q, g)] ++ [(r, f)])).length - 1]? = some (.ref r) := by
    rw [← List.getLast?_eq_getElem?, List.map_append (l₂ := [(r, f)])]; simp
  unfold rvB2
  simp only [dAdd, dAddI, dSub, dEq, dNe, dLt, dLe, dGt, dGe, dIs, SL.isNon, dNeg, fLen, lenD, isTy, mLstrip, seqOf, tru, tyOf, Option.map_some, String.reduceEq, usNil, usSeq, usSet, usExpr, usRet, usRetN, usIf, usBrk, usCnt, usAug, usAsg, usDPut, usRaise, usSub, uVar, uC, uBin, uChain, uUn, uTru, uTb, uAnd, uOr, uNot, uAndV, uOrV, uNotV, uIte, uNil, uCons, uTup, uLst, uNoPart, uPart, uSl, vSl, uFn, gP, uIsi, uBM, uBM0, gM, gAppend, gPop, uCall, uA0, uA1, gId, gApp, isSeq, isRng, isRng2, uDGet, bodyE, startE, ugName, List.map_cons, List.map_nil, List.length_cons, List.length_nil, List.cons_append, List.nil_append, List.getElem?_cons_zero, List.getElem?_cons_succ, List.set_cons_zero, List.set_cons_succ, List.replicate, Nat.add_one_sub_one, Nat.sub_self, Nat.reduceSub, Nat.reduceAdd, Option.some.injEq, exists_eq_left', exists_eq_left, exists_and_left, true_and, and_true, D.bl.injEq, D.int.injEq, D.str.injEq, D.tup.injEq, D.ref.injEq, Ob.lst.injEq, List.cons.injEq, fTup, if_true, if_false, ite_true, ite_false, Bool.false_eq_true, Bool.true_eq_false, reduceIte, envR, hso, hla, hd, hso2, dIx, SL.atI_last]
  have e1 : (List.map (fun p => D.ref p.1) (os ++ [(q, g)])).getLast? = some (.ref q) := by simp
  rw [e1]
  simp only [dAdd, dAddI, dSub, dEq, dNe, dLt, dLe, dGt, dGe, dIs, SL.isNon, dNeg, fLen, lenD, isTy, mLstrip, seqOf, tru, tyOf, Option.map_some, String.reduceEq, usNil, usSeq, usSet, usExpr, usRet, usRetN, usIf, usBrk, usCnt, usAug, usAsg, usDPut, usRaise, usSub, uVar, uC, uBin, uChain, uUn, uTru, uTb, uAnd, uOr, uNot, uAndV, uOrV, uNotV, uIte, uNil, uCons, uTup, uLst, uNoPart, uPart, uSl, vSl, uFn, gP, uIsi, uBM, uBM0, gM, gAppend, gPop, uCall, uA0, uA1, gId, gApp, isSeq, isRng, isRng2, uDGet, bodyE, startE, ugName, List.map_cons, List.map_nil, List.length_cons, List.length_nil, List.cons_append, List.nil_append, List.getElem?_cons_zero, List.getElem?_cons_succ, List.set_cons_zero, List.set_cons_succ, List.replicate, Nat.add_one_sub_one, Nat.sub_self, Nat.reduceSub, Nat.reduceAdd, Option.some.injEq, exists_eq_left', exists_eq_left, exists_and_left, true_and, and_true, D.bl.injEq, D.int.injEq, D.str.injEq, D.tup.injEq, D.ref.injEq, Ob.lst.injEq, List.cons.injEq, fTup, if_true, if_false, ite_true, ite_false, Bool.false_eq_true, Bool.true_eq_false, reduceIte, hq, hr2]
  refine ⟨hg, ?_⟩
  have e2 : ((pre.length : Nat) : Int) + 1 = (((pre ++ [41]).length : Nat) : Int) := by simp
  rw [e2]
  exact h _ _ hs2.app
omit ht in
theorem bad_up {os : List (Addr × List D)} {f : List D} {md : Md} {pre rest : List Nat} {n : Nat} (h : HD t os f md pre rest) (b : Bad ⟨md, 0, os.length⟩ rest n) : Bad s0 t (pre.length + n) := by
  obtain ⟨h1, st, h2, h3⟩ := b
  refine ⟨by rw [h.et, List.length_append]; omega, st, ?_, ?_⟩
  · rw [h.et, List.take_append, List.take_of_length_le (by omega), rn_app, h.ru, Nat.add_sub_cancel_left]; exact h2
  · rcases h3 with ⟨h3, h4⟩ | ⟨x, h3, h4⟩
    · exact .inl ⟨by rw [h.et, List.length_append]; omega, h4⟩
    · exact .inr ⟨x, by rw [h.et, List.getElem?_append_right (by omega), Nat.add_sub_cancel_left]; exact h3, h4⟩
theorem rvW_of {e3 e4 : Option D} {os : List (Addr × List D)} {f : List D} {r : Addr} {md : Md} {pre rest : List Nat} {S : SS} {Z : EndsS} (h : HD t os f md pre rest) (hs : Stk S0 S o (os ++ [(r, f)])) (hp : rest.head? = some 40 → ¬ os.length < 20)
    (hbad : ∀ n env S', Le S0 S' → Bad s0 t n → Z.ex (.ref c.InvalidText) [("at", .int (n : Nat)), ("text", .str t)] env S')
    (hk : ∀ e3' f' pre' rest' S', rest'.length ≤ rest.length → CLS t os f' pre' rest' → Stk S0 S' o (os ++ [(r, f')]) → Z.nx (envR t o pre'.length e3' e4) S') :
    rvW c sp_word_end sp_value_of_word Z (envR t o pre.length e3 e4) S := by
  have hz : (pre ++ rest).length ≤ sizeLine := by rw [← h.et]; exact szl ht
  have htl : (pre ++ rest).length ≤ 1000000 := by rw [← h.et]; exact ht
  have hso := hs.so
  have hr := (hs.el (r, f) (by simp)).2
  have hoi := oc_iff h
  unfold rvW
  simp only [dAdd, dAddI, dSub, dEq, dNe, dLt, dLe, dGt, dGe, dIs, SL.isNon, dNeg, fLen, lenD, isTy, mLstrip, seqOf, tru, tyOf, Option.map_some, String.reduceEq, usNil, usSeq, usSet, usExpr, usRet, usRetN, usIf, usBrk, usCnt, usAug, usAsg, usDPut, usRaise, usSub, uVar, uC, uBin, uChain, uUn, uTru, uTb, uAnd, uOr, uNot, uAndV, uOrV, uNotV, uIte, uNil, uCons, uTup, uLst, uNoPart, uPart, uSl, vSl, uFn, gP, uIsi, uBM, uBM0, gM, gAppend, gPop, uCall, uA0, uA1, gId, gApp, isSeq, isRng, isRng2, uDGet, bodyE, startE, ugName, List.map_cons, List.map_nil, List.length_cons, List.length_nil, List.cons_append, List.nil_append, List.getElem?_cons_zero, List.getElem?_cons_succ, List.set_cons_zero, List.set_cons_succ, List.replicate, Nat.add_one_sub_one, Nat.sub_self, Nat.reduceSub, Nat.reduceAdd, Option.some.injEq, exists_eq_left', exists_eq_left, exists_and_left, true_and, and_true, D.bl.injEq, D.int.injEq, D.str.injEq, D.tup.injEq, D.ref.injEq, Ob.lst.injEq, List.cons.injEq, fTup, if_true, if_false, ite_true, ite_false, Bool.false_eq_true, Bool.true_eq_false, reduceIte, envR, slA, atP, h.et, hz, c_oc]
  by_cases hoc : md = .opened ∧ rest.head? = some 41
  · rw [if_neg (by rw [Bool.not_eq_true', beq_eq_false_iff_ne]; exact fun z => z (hoi.mpr hoc))]
    obtain ⟨h1, h2⟩ := hoc
    rcases h.cs with ⟨c1, c2, c3⟩ | ⟨c1, c2⟩
    · subst c2
      rw [← h.et]
      refine hk e3 [] pre rest S (Nat.le_refl _) ⟨h.et, h.fr, fun ho => ?_, .inr ⟨rfl, c3, h.ep, h2, by rw [h.ru, h1]⟩⟩ hs
      have := h.f0
      rw [List.getElem?_append_left (by simp; exact List.length_pos_iff.mpr ho)] at this
      exact this
    · rw [h1] at c1; cases c1
  · rw [if_pos (by rw [Bool.not_eq_true', beq_eq_false_iff_ne]; exact fun z => hoc (hoi.mp z))]
    refine ⟨pre, rest, rfl, htl, ?_⟩
    simp only [dAdd, dAddI, dSub, dEq, dNe, dLt, dLe, dGt, dGe, dIs, SL.isNon, dNeg, fLen, lenD, isTy, mLstrip, seqOf, tru, tyOf, Option.map_some, String.reduceEq, usNil, usSeq, usSet, usExpr, usRet, usRetN, usIf, usBrk, usCnt, usAug, usAsg, usDPut, usRaise, usSub, uVar, uC, uBin, uChain, uUn, uTru, uTb, uAnd, uOr, uNot, uAndV, uOrV, uNotV, uIte, uNil, uCons, uTup, uLst, uNoPart, uPart, uSl, vSl, uFn, gP, uIsi, uBM, uBM0, gM, gAppend, gPop, uCall, uA0, uA1, gId, gApp, isSeq, isRng, isRng2, uDGet, bodyE, startE, ugName, List.map_cons, List.map_nil, List.length_cons, List.length_nil, List.cons_append, List.nil_append, List.getElem?_cons_zero, List.getElem?_cons_succ, List.set_cons_zero, List.set_cons_succ, List.replicate, Nat.add_one_sub_one, Nat.sub_self, Nat.reduceSub, Nat.reduceAdd, Option.some.injEq, exists_eq_left', exists_eq_left, exists_and_left, true_and, and_true, D.bl.injEq, D.int.injEq, D.str.injEq, D.tup.injEq, D.ref.injEq, Ob.lst.injEq, List.cons.injEq, fTup, if_true, if_false, ite_true, ite_false, Bool.false_eq_true, Bool.true_eq_false, reduceIte, hz, cut_app (Int.natCast_nonneg _), Int.toNat_natCast, c_e, c_min]
    refine ⟨by rw [sizeLine_eq]; decide, ?_⟩
    have et : ∀ x : List Nat, dIn1 S (.str x) (.tup [.str [], .str [45]]) = some (.bl (decide (x = [] ∨ x = [45]))) := fun x => by
      simp [dIn1, scV, deq]
      simp only [beqd]
      cases x <;> simp
    have hr0 : (⟨md, 0, os.length⟩ : Stt).md = .start ∨ ((⟨md, 0, os.length⟩ : Stt).md = .opened ∧ rest.head? ≠ some 41) := by
      rcases h.cs with ⟨c1, _⟩ | ⟨c1, _⟩
      · exact .inr ⟨c1, fun z => hoc ⟨c1, z⟩⟩
      · exact .inl c1
    have W := word (s := ⟨md, 0, os.length⟩) (l := rest) hr0 hp
    have e2 : ((pre.length : Nat) : Int) + ((wordEnd rest : Nat) : Int) = ((pre.length + wordEnd rest : Nat) : Int) := by omega
    simp only [dAdd, dAddI, dSub, dEq, dNe, dLt, dLe, dGt, dGe, dIs, SL.isNon, dNeg, fLen, lenD, isTy, mLstrip, seqOf, tru, tyOf, Option.map_some, String.reduceEq, usNil, usSeq, usSet, usExpr, usRet, usRetN, usIf, usBrk, usCnt, usAug, usAsg, usDPut, usRaise, usSub, uVar, uC, uBin, uChain, uUn, uTru, uTb, uAnd, uOr, uNot, uAndV, uOrV, uNotV, uIte, uNil, uCons, uTup, uLst, uNoPart, uPart, uSl, vSl, uFn, gP, uIsi, uBM, uBM0, gM, gAppend, gPop, uCall, uA0, uA1, gId, gApp, isSeq, isRng, isRng2, uDGet, bodyE, startE, ugName, List.map_cons, List.map_nil, List.length_cons, List.length_nil, List.cons_append, List.nil_append, List.getElem?_cons_zero, List.getElem?_cons_succ, List.set_cons_zero, List.set_cons_succ, List.replicate, Nat.add_one_sub_one, Nat.sub_self, Nat.reduceSub, Nat.reduceAdd, Option.some.injEq, exists_eq_left', exists_eq_left, exists_and_left, true_and, and_true, D.bl.injEq, D.int.injEq, D.str.injEq, D.tup.injEq, D.ref.injEq, Ob.lst.injEq, List.cons.injEq, fTup, if_true, if_false, ite_true, ite_false, Bool.false_eq_true, Bool.true_eq_false, reduceIte, et]
    rcases W with ⟨w1, w2⟩ | W
    · rw [if_pos (decide_eq_true w1)]
      simp only [dAdd, dAddI, dSub, dEq, dNe, dLt, dLe, dGt, dGe, dIs, SL.isNon, dNeg, fLen, lenD, isTy, mLstrip, seqOf, tru, tyOf, Option.map_some, String.reduceEq, usNil, usSeq, usSet, usExpr, usRet, usRetN, usIf, usBrk, usCnt, usAug, usAsg, usDPut, usRaise, usSub, uVar, uC, uBin, uChain, uUn, uTru, uTb, uAnd, uOr, uNot, uAndV, uOrV, uNotV, uIte, uNil, uCons, uTup, uLst, uNoPart, uPart, uSl, vSl, uFn, gP, uIsi, uBM, uBM0, gM, gAppend, gPop, uCall, uA0, uA1, gId, gApp, isSeq, isRng, isRng2, uDGet, bodyE, startE, ugName, List.map_cons, List.map_nil, List.length_cons, List.length_nil, List.cons_append, List.nil_append, List.getElem?_cons_zero, List.getElem?_cons_succ, List.set_cons_zero, List.set_cons_succ, List.replicate, Nat.add_one_sub_one, Nat.sub_self, Nat.reduceSub, Nat.reduceAdd, Option.some.injEq, exists_eq_left', exists_eq_left, exists_and_left, true_and, and_true, D.bl.injEq, D.int.injEq, D.str.injEq, D.tup.injEq, D.ref.injEq, Ob.lst.injEq, List.cons.injEq, fTup, if_true, if_false, ite_true, ite_false, Bool.false_eq_true, Bool.true_eq_false, reduceIte, List.zip_cons_cons, List.zip_nil_right, List.reverse_cons, List.reverse_nil]
      refine ⟨by decide, ?_⟩
      rw [e2, ← h.et]
      exact hbad _ _ _ hs.le (bad_up h w2)
    · obtain ⟨g1, g2, g3, v, st, g4, g5, g6, g7, g8, g9⟩ := W
      have hne : rest.take (wordEnd rest) ≠ [] := fun z => by
        rw [List.take_eq_nil_iff] at z
        rcases z with z | z
        · omega
        · subst z; simp at g1; omega
      rw [if_neg (by rw [decide_eq_true_iff]; rintro (z | z); exact hne z; exact g3 z)]
      have e1 : (List.map (fun p => D.ref p.1) (os ++ [(r, f)])).getLast? = some (.ref r) := by simp
      simp only [dAdd, dAddI, dSub, dEq, dNe, dLt, dLe, dGt, dGe, dIs, SL.isNon, dNeg, fLen, lenD, isTy, mLstrip, seqOf, tru, tyOf, Option.map_some, String.reduceEq, usNil, usSeq, usSet, usExpr, usRet, usRetN, usIf, usBrk, usCnt, usAug, usAsg, usDPut, usRaise, usSub, uVar, uC, uBin, uChain, uUn, uTru, uTb, uAnd, uOr, uNot, uAndV, uOrV, uNotV, uIte, uNil, uCons, uTup, uLst, uNoPart, uPart, uSl, vSl, uFn, gP, uIsi, uBM, uBM0, gM, gAppend, gPop, uCall, uA0, uA1, gId, gApp, isSeq, isRng, isRng2, uDGet, bodyE, startE, ugName, List.map_cons, List.map_nil, List.length_cons, List.length_nil, List.cons_append, List.nil_append, List.getElem?_cons_zero, List.getElem?_cons_succ, List.set_cons_zero, List.set_cons_succ, List.replicate, Nat.add_one_sub_one, Nat.sub_self, Nat.reduceSub, Nat.reduceAdd, Option.some.injEq, exists_eq_left', exists_eq_left, exists_and_left, true_and, and_true, D.bl.injEq, D.int.injEq, D.str.injEq, D.tup.injEq, D.ref.injEq, Ob.lst.injEq, List.cons.injEq, fTup, if_true, if_false, ite_true, ite_false, Bool.false_eq_true, Bool.true_eq_false, reduceIte, hso, dIx, SL.atI_last, e1, hr]
      have hwl : wordEnd rest ≤ 13 := wordEnd_le
      have hfl : f.length ≤ (pre ++ rest).length := by
        rw [h.ep]; unfold ren; rw [List.length_append, List.length_append]
        have := itm_len (f := f); omega
      refine ⟨rest.take (wordEnd rest), v, rfl, by rw [List.length_take]; omega, hne, g4, ?_⟩
      simp only [dAdd, dAddI, dSub, dEq, dNe, dLt, dLe, dGt, dGe, dIs, SL.isNon, dNeg, fLen, lenD, isTy, mLstrip, seqOf, tru, tyOf, Option.map_some, String.reduceEq, usNil, usSeq, usSet, usExpr, usRet, usRetN, usIf, usBrk, usCnt, usAug, usAsg, usDPut, usRaise, usSub, uVar, uC, uBin, uChain, uUn, uTru, uTb, uAnd, uOr, uNot, uAndV, uOrV, uNotV, uIte, uNil, uCons, uTup, uLst, uNoPart, uPart, uSl, vSl, uFn, gP, uIsi, uBM, uBM0, gM, gAppend, gPop, uCall, uA0, uA1, gId, gApp, isSeq, isRng, isRng2, uDGet, bodyE, startE, ugName, List.map_cons, List.map_nil, List.length_cons, List.length_nil, List.cons_append, List.nil_append, List.getElem?_cons_zero, List.getElem?_cons_succ, List.set_cons_zero, List.set_cons_succ, List.replicate, Nat.add_one_sub_one, Nat.sub_self, Nat.reduceSub, Nat.reduceAdd, Option.some.injEq, exists_eq_left', exists_eq_left, exists_and_left, true_and, and_true, D.bl.injEq, D.int.injEq, D.str.injEq, D.tup.injEq, D.ref.injEq, Ob.lst.injEq, List.cons.injEq, fTup, if_true, if_false, ite_true, ite_false, Bool.false_eq_true, Bool.true_eq_false, reduceIte, hr]
      refine ⟨by rw [sizeLine_eq]; omega, ?_⟩
      rw [e2, ← h.et]
      have el : pre.length + wordEnd rest = (pre ++ rest.take (wordEnd rest)).length := by rw [List.length_append, List.length_take, Nat.min_eq_left g1]
      rw [el]
      refine hk _ (f ++ [v]) (pre ++ rest.take (wordEnd rest)) (rest.drop (wordEnd rest)) _ (by rw [List.length_drop]; omega) ⟨by rw [h.et, List.append_assoc, List.take_append_drop], h.fr.snoc (g6.mono (Nat.zero_le _)), fun ho => ?_, .inl ⟨f, v, st, rfl, fun ho => ?_, ?_, ?_, g8, g9⟩⟩ hs.app
      · have := h.f0
        rw [List.getElem?_append_left (by simp; exact List.length_pos_iff.mpr ho)] at this
        exact this
      · subst ho; have := h.f0; simpa using this
      · rw [h.ep, g5]
      · rw [rn_app, h.ru]; exact g7
theorem wh2 {Z : EndsS} {e3 : Option D} : ∀ (n : Nat) (rest pre : List Nat) (os : List (Addr × List D)) (r : Addr) (f : List D) (e4 : Option D) (S : SS), rest.length < n → CLS t os f pre rest → Stk S0 S o (os ++ [(r, f)]) →
    (∀ rest' pre' os' r' f' e4' S', rest'.length ≤ rest.length → CLS t os' f' pre' rest' → Stk S0 S' o (os' ++ [(r', f')]) → (rest'.head? = some 41 → os' = []) → Z.nx (envR t o pre'.length e3 e4') S') →
    whL rvC2 rvB2 Z n (envR t o pre.length e3 e4) S
  | 0, rest, pre, os, r, f, e4, S, hn, _, _, _ => absurd hn (Nat.not_lt_zero _)
  | n + 1, rest, pre, os, r, f, e4, S, hn, h, hs, k => by
    show rvC2 _ _ _ _
    refine rvC2_of ht h.et hs.so ?_
    by_cases hh : rest.head? = some 41 ∧ os ≠ []
    · obtain ⟨hh, hd⟩ := hh
      obtain ⟨rest2, rfl⟩ : ∃ r2, rest = 41 :: r2 := by
        cases rest with
        | nil => simp at hh
        | cons a q => simp at hh; subst hh; exact ⟨q, rfl⟩
      obtain ⟨os2, z, e⟩ : ∃ q z, os = q ++ [z] := ⟨os.dropLast, os.getLast hd, (List.dropLast_concat_getLast hd).symm⟩
      obtain ⟨q, g⟩ := z
      subst e
      rw [if_pos (by simp)]
      have hl : os2.length ≤ 20 := by have := h.fr.1; simp at this; omega
      have hgl : g.length < sizeLine := by
        have hx : ∃ x, pre = ren0 (os2.map (·.2)) ++ itm g ++ x := by
          rcases h.cs with ⟨f', v, st, c1, c2, c3, _⟩ | ⟨c1, c2, c3, _⟩
          · exact ⟨[40] ++ (itm f' ++ txt v), by rw [c3]; simp [ren, ren0]⟩
          · exact ⟨[40], by rw [c3]; simp [ren, ren0, itm]⟩
        obtain ⟨x, hx⟩ := hx
        have h1 := itm_len (f := g)
        have h2 : (pre ++ 41 :: rest2).length ≤ 1000000 := by rw [← h.et]; exact ht
        rw [List.length_append, hx, List.length_append, List.length_append] at h2
        rw [sizeLine_eq]; omega
      refine rvB2_of hl hgl hs fun e4' S' hs2 => ?_
      exact wh2 n rest2 (pre ++ [41]) os2 q (g ++ [.tup f]) e4' S' (by simp at hn; omega) h.close hs2 (fun rest' pre' os' r' f' e4' S' a b c d => k rest' pre' os' r' f' e4' S' (by simp; omega) b c d)
    · rw [if_neg (by
        rw [decide_eq_true_iff]; rintro ⟨z1, z2⟩
        refine hh ⟨z1, fun z => ?_⟩
        subst z; simp at z2)]
      refine k rest pre os r f e4 S (Nat.le_refl _) h hs fun z => ?_
      by_cases ho : os = []
      · exact ho
      · exact absurd ⟨z, ho⟩ hh
theorem rvE_of {e3 e4 : Option D} {os : List (Addr × List D)} {f : List D} {r : Addr} {pre rest : List Nat} {S : SS} {Z : EndsS} (h : CLS t os f pre rest) (hs : Stk S0 S o (os ++ [(r, f)])) (hp : rest.head? = some 41 → os = [])
    (hbad : ∀ n env S', Le S0 S' → Bad s0 t n → Z.ex (.ref c.InvalidText) [("at", .int (n : Nat)), ("text", .str t)] env S')
    (hok : ∀ v st S', Le S0 S' → rn s0 t = some st → whole st → PlW 20 v → txt v = t → Z.rt v S')
    (hk : ∀ f' pre' rest', rest'.length < rest.length → HD t os f' .start pre' rest' → Stk S0 S o (os ++ [(r, f')]) → Z.nx (envR t o pre'.length e3 e4) S) :
    rvE c Z (envR t o pre.length e3 e4) S := by
  have hz : (pre ++ rest).length ≤ sizeLine := by rw [← h.et]; exact szl ht
  have hso := hs.so
  have hr := (hs.el (r, f) (by simp)).2
  have ho41 : os ≠ [] → rest.head? ≠ some 41 := fun z1 z2 => z1 (hp z2)
  obtain ⟨f', v, st, c1, c2, c3, c4, c5, c6⟩ : ∃ f' v st, f = f' ++ [v] ∧ (os = [] → f' = []) ∧ pre = ren (os.map (·.2)) f' ++ txt v ∧ rn s0 pre = some st ∧ st.dp = os.length ∧ AftS st rest := by
    rcases h.cs with z | ⟨z1, z2, z3, z4, z5⟩
    · exact z
    · exact absurd z4 (ho41 z2)
  have hw : os = [] ↔ st.dp = 0 := by rw [c5]; simp
  have hbad' : ∀ env S', Le S0 S' → ((rest = [] ∧ os ≠ []) ∨ ∃ a q, rest = a :: q ∧ (os = [] ∨ a ≠ 44)) → Z.ex (.ref c.InvalidText) [("at", .int (pre.length : Nat)), ("text", .str t)] env S' := fun env S' l z => by
    refine hbad _ _ _ l ⟨by rw [h.et, List.length_append]; omega, st, by rw [h.et, List.take_left]; exact c4, ?_⟩
    rcases z with ⟨z1, z2⟩ | ⟨a, q, z1, z2⟩
    · left; exact ⟨by rw [h.et, z1]; simp, fun w => z2 (hw.mpr w.1)⟩
    · right
      refine ⟨a, by rw [h.et, z1, List.getElem?_append_right (Nat.le_refl _)]; simp, ?_⟩
      rw [c6.nx a (by rw [z1]; rfl)]
      unfold aft
      by_cases hd : st.dp = 0
      · rw [if_pos hd]
      · have hos : os ≠ [] := fun w => hd (hw.mp w)
        rw [if_neg hd, if_neg (fun w => ho41 hos (by rw [z1, w]; rfl)), if_neg (by rcases z2 with w | w; exact absurd w hos; exact w)]
  have ell : (List.map (fun p => D.ref p.1) (os ++ [(r, f)])).length = os.length + 1 := by simp
  have elen : ((os.length + 1 : Nat) : Int) = (os.length : Int) + 1 := by omega
  unfold rvE
  simp only [dAdd, dAddI, dSub, dEq, dNe, dLt, dLe, dGt, dGe, dIs, SL.isNon, dNeg, fLen, lenD, isTy, mLstrip, seqOf, tru, tyOf, Option.map_some, String.reduceEq, usNil, usSeq, usSet, usExpr, usRet, usRetN, usIf, usBrk, usCnt, usAug, usAsg, usDPut, usRaise, usSub, uVar, uC, uBin, uChain, uUn, uTru, uTb, uAnd, uOr, uNot, uAndV, uOrV, uNotV, uIte, uNil, uCons, uTup, uLst, uNoPart, uPart, uSl, vSl, uFn, gP, uIsi, uBM, uBM0, gM, gAppend, gPop, uCall, uA0, uA1, gId, gApp, isSeq, isRng, isRng2, uDGet, bodyE, startE, ugName, List.map_cons, List.map_nil, List.length_cons, List.length_nil, List.cons_append, List.nil_append, List.getElem?_cons_zero, List.getElem?_cons_succ, List.set_cons_zero, List.set_cons_succ, List.replicate, Nat.add_one_sub_one, Nat.sub_self, Nat.reduceSub, Nat.reduceAdd, Option.some.injEq, exists_eq_left', exists_eq_left, exists_and_left, true_and, and_true, D.bl.injEq, D.int.injEq, D.str.injEq, D.tup.injEq, D.ref.injEq, Ob.lst.injEq, List.cons.injEq, fTup, if_true, if_false, ite_true, ite_false, Bool.false_eq_true, Bool.true_eq_false, reduceIte, envR, slA, atP, hso, hz, ell, cut_app (by decide : (0 : Int) ≤ 1), Int.reduceToNat, c_co, h.et, head1, List.zip_cons_cons, List.zip_nil_right, List.reverse_cons, List.reverse_nil]
  by_cases hos : os = []
  · subst hos
    rw [if_pos (by simp)]
    have hf' := c2 rfl
    subst hf'
    simp only [List.nil_append] at c1
    subst c1
    have hpt : pre = txt v := by rw [c3]; simp [ren, ren0, itm]
    have hv : PlW 20 v := by have := h.fr.top v (by simp); simpa using this
    by_cases hre : rest = []
    · subst hre
      have e1 : L2.atI [D.ref r] 0 = some (.ref r) := rfl
      have e2 : L2.atI [v] 0 = some v := rfl
      have hpp : (((pre ++ []).length : Nat) : Int) = (pre.length : Nat) := by simp
      simp only [dAdd, dAddI, dSub, dEq, dNe, dLt, dLe, dGt, dGe, dIs, SL.isNon, dNeg, fLen, lenD, isTy, mLstrip, seqOf, tru, tyOf, Option.map_some, String.reduceEq, usNil, usSeq, usSet, usExpr, usRet, usRetN, usIf, usBrk, usCnt, usAug, usAsg, usDPut, usRaise, usSub, uVar, uC, uBin, uChain, uUn, uTru, uTb, uAnd, uOr, uNot, uAndV, uOrV, uNotV, uIte, uNil, uCons, uTup, uLst, uNoPart, uPart, uSl, vSl, uFn, gP, uIsi, uBM, uBM0, gM, gAppend, gPop, uCall, uA0, uA1, gId, gApp, isSeq, isRng, isRng2, uDGet, bodyE, startE, ugName, List.map_cons, List.map_nil, List.length_cons, List.length_nil, List.cons_append, List.nil_append, List.getElem?_cons_zero, List.getElem?_cons_succ, List.set_cons_zero, List.set_cons_succ, List.replicate, Nat.add_one_sub_one, Nat.sub_self, Nat.reduceSub, Nat.reduceAdd, Option.some.injEq, exists_eq_left', exists_eq_left, exists_and_left, true_and, and_true, D.bl.injEq, D.int.injEq, D.str.injEq, D.tup.injEq, D.ref.injEq, Ob.lst.injEq, List.cons.injEq, fTup, if_true, if_false, ite_true, ite_false, Bool.false_eq_true, Bool.true_eq_false, reduceIte, dIx, hso, e1, hr, e2, hpp, beq_self_eq_true]
      exact hok v st S hs.le (by rw [h.et]; simpa using c4) ⟨hw.mp rfl, c6.md⟩ hv (by rw [h.et, ← hpt]; simp)
    · obtain ⟨a, q, e⟩ : ∃ a q, rest = a :: q := by
        cases rest with
        | nil => exact absurd rfl hre
        | cons a q => exact ⟨a, q, rfl⟩
      have hpp : ((pre.length : Int) == ((pre ++ rest).length : Int)) = false := by
        rw [beq_eq_false_iff_ne, e]; simp; omega
      simp only [hpp, dAdd, dAddI, dSub, dEq, dNe, dLt, dLe, dGt, dGe, dIs, SL.isNon, dNeg, fLen, lenD, isTy, mLstrip, seqOf, tru, tyOf, Option.map_some, String.reduceEq, usNil, usSeq, usSet, usExpr, usRet, usRetN, usIf, usBrk, usCnt, usAug, usAsg, usDPut, usRaise, usSub, uVar, uC, uBin, uChain, uUn, uTru, uTb, uAnd, uOr, uNot, uAndV, uOrV, uNotV, uIte, uNil, uCons, uTup, uLst, uNoPart, uPart, uSl, vSl, uFn, gP, uIsi, uBM, uBM0, gM, gAppend, gPop, uCall, uA0, uA1, gId, gApp, isSeq, isRng, isRng2, uDGet, bodyE, startE, ugName, List.map_cons, List.map_nil, List.length_cons, List.length_nil, List.cons_append, List.nil_append, List.getElem?_cons_zero, List.getElem?_cons_succ, List.set_cons_zero, List.set_cons_succ, List.replicate, Nat.add_one_sub_one, Nat.sub_self, Nat.reduceSub, Nat.reduceAdd, Option.some.injEq, exists_eq_left', exists_eq_left, exists_and_left, true_and, and_true, D.bl.injEq, D.int.injEq, D.str.injEq, D.tup.injEq, D.ref.injEq, Ob.lst.injEq, List.cons.injEq, fTup, if_true, if_false, ite_true, ite_false, Bool.false_eq_true, Bool.true_eq_false, reduceIte]
      rw [← h.et]
      exact ⟨by decide, hbad' _ _ hs.le (.inr ⟨a, q, e, .inl rfl⟩)⟩
  · have hn1 : (((os.length + 1 : Nat) : Int) == 1) = false := by
      rw [beq_eq_false_iff_ne]
      have := List.length_pos_iff.mpr hos
      omega
    simp only [hn1, dAdd, dAddI, dSub, dEq, dNe, dLt, dLe, dGt, dGe, dIs, SL.isNon, dNeg, fLen, lenD, isTy, mLstrip, seqOf, tru, tyOf, Option.map_some, String.reduceEq, usNil, usSeq, usSet, usExpr, usRet, usRetN, usIf, usBrk, usCnt, usAug, usAsg, usDPut, usRaise, usSub, uVar, uC, uBin, uChain, uUn, uTru, uTb, uAnd, uOr, uNot, uAndV, uOrV, uNotV, uIte, uNil, uCons, uTup, uLst, uNoPart, uPart, uSl, vSl, uFn, gP, uIsi, uBM, uBM0, gM, gAppend, gPop, uCall, uA0, uA1, gId, gApp, isSeq, isRng, isRng2, uDGet, bodyE, startE, ugName, List.map_cons, List.map_nil, List.length_cons, List.length_nil, List.cons_append, List.nil_append, List.getElem?_cons_zero, List.getElem?_cons_succ, List.set_cons_zero, List.set_cons_succ, List.replicate, Nat.add_one_sub_one, Nat.sub_self, Nat.reduceSub, Nat.reduceAdd, Option.some.injEq, exists_eq_left', exists_eq_left, exists_and_left, true_and, and_true, D.bl.injEq, D.int.injEq, D.str.injEq, D.tup.injEq, D.ref.injEq, Ob.lst.injEq, List.cons.injEq, fTup, if_true, if_false, ite_true, ite_false, Bool.false_eq_true, Bool.true_eq_false, reduceIte]
    cases rest with
    | nil =>
      simp only [dAdd, dAddI, dSub, dEq, dNe, dLt, dLe, dGt, dGe, dIs, SL.isNon, dNeg, fLen, lenD, isTy, mLstrip, seqOf, tru, tyOf, Option.map_some, String.reduceEq, usNil, usSeq, usSet, usExpr, usRet, usRetN, usIf, usBrk, usCnt, usAug, usAsg, usDPut, usRaise, usSub, uVar, uC, uBin, uChain, uUn, uTru, uTb, uAnd, uOr, uNot, uAndV, uOrV, uNotV, uIte, uNil, uCons, uTup, uLst, uNoPart, uPart, uSl, vSl, uFn, gP, uIsi, uBM, uBM0, gM, gAppend, gPop, uCall, uA0, uA1, gId, gApp, isSeq, isRng, isRng2, uDGet, bodyE, startE, ugName, List.map_cons, List.map_nil, List.length_cons, List.length_nil, List.cons_append, List.nil_append, List.getElem?_cons_zero, List.getElem?_cons_succ, List.set_cons_zero, List.set_cons_succ, List.replicate, Nat.add_one_sub_one, Nat.sub_self, Nat.reduceSub, Nat.reduceAdd, Option.some.injEq, exists_eq_left', exists_eq_left, exists_and_left, true_and, and_true, D.bl.injEq, D.int.injEq, D.str.injEq, D.tup.injEq, D.ref.injEq, Ob.lst.injEq, List.cons.injEq, fTup, if_true, if_false, ite_true, ite_false, Bool.false_eq_true, Bool.true_eq_false, reduceIte, List.head?_nil, reduceCtorEq, decide_false, Bool.not_false]
      rw [← h.et]
      exact ⟨by decide, hbad' _ _ hs.le (.inl ⟨rfl, hos⟩)⟩
    | cons a q =>
      by_cases ha : a = 44
      · subst ha
        rw [if_neg (by simp)]
        rw [← h.et]
        have e2 : ((pre.length : Nat) : Int) + 1 = (((pre ++ [44]).length : Nat) : Int) := by simp
        rw [e2]
        subst c1
        refine hk (f' ++ [v]) (pre ++ [44]) q (by simp) ⟨by rw [h.et]; simp, by rw [ren_snoc, c3, List.append_assoc], h.fr, ?_, rn_snoc c4 ?_, .inr ⟨rfl, .inl (by simp)⟩⟩ hs
        · have := h.f0 hos
          rw [List.getElem?_append_left (by simp; exact List.length_pos_iff.mpr hos)]
          exact this
        · rw [c6.nx 44 rfl]
          unfold aft
          rw [if_neg (fun z => hos (hw.mpr z)), if_neg (by decide), if_pos rfl, c5]
      · rw [if_pos (by simp [ha])]
        rw [← h.et]
        exact ⟨by decide, hbad' _ _ hs.le (.inr ⟨a, q, rfl, .inr ha⟩)⟩
theorem rvB_of {e3 e4 : Option D} {Z : EndsS} : ∀ (n : Nat) (rest pre : List Nat) (os : List (Addr × List D)) (r : Addr) (f : List D) (md : Md) (e3 e4 : Option D) (S : SS), rest.length < n → HD t os f md pre rest → Stk S0 S o (os ++ [(r, f)]) →
    (∀ n env S', Le S0 S' → Bad s0 t n → Z.ex (.ref c.InvalidText) [("at", .int (n : Nat)), ("text", .str t)] env S') →
    (∀ v st S', Le S0 S' → rn s0 t = some st → whole st → PlW 20 v → txt v = t → Z.rt v S') →
    whL (uTru (uC (.bl true))) (rvB c sp_word_end sp_value_of_word) Z n (envR t o pre.length e3 e4) S
  | 0, rest, pre, os, r, f, md, e3, e4, S, hn, _, _, _, _ => absurd hn (Nat.not_lt_zero _)
  | n + 1, rest, pre, os, r, f, md, e3, e4, S, hn, h, hs, hbad, hok => by
    refine ⟨true, rfl, ?_⟩
    show rvB c sp_word_end sp_value_of_word _ _ _
    refine ⟨rest.length + 1, wh1 ht (rest.length + 1) rest pre os r f md S (Nat.lt_succ_self _) h hs fun rest1 pre1 os1 r1 f1 md1 S1 l1 h1 hs1 hp1 => ?_⟩
    refine rvW_of ht h1 hs1 hp1 (fun n env S' l b => hbad n env S' l b) fun e3' f2 pre2 rest2 S2 l2 h2 hs2 => ?_
    refine ⟨rest2.length + 1, wh2 ht (rest2.length + 1) rest2 pre2 os1 r1 f2 e4 S2 (Nat.lt_succ_self _) h2 hs2 fun rest3 pre3 os3 r3 f3 e4' S3 l3 h3 hs3 hp3 => ?_⟩
    refine rvE_of ht h3 hs3 hp3 (fun n env S' l b => hbad n env S' l b) (fun v st S' l a b c d => hok v st S' l a b c d) fun f4 pre4 rest4 l4 h4 hs4 => ?_
    exact rvB_of (e3 := e3) (e4 := e4) n rest4 pre4 os3 r3 f4 .start e3' e4' S3 (by omega) h4 hs4 hbad hok
end
def sp_read_value (c : Cs) : FS := fun ds S Q X => ∃ t, ds = [.str t] ∧ t.length ≤ 1000000 ∧ (∀ v st, rn s0 t = some st → whole st → PlW 20 v → txt v = t → Q v S) ∧ (∀ n : Nat, Bad s0 t n → X (.ref c.InvalidText) [("at", .int (n : Nat)), ("text", .str t)] S)
theorem ok_read_value {ds : List D} {S : SS} {Q : QN} {X : QX} (h : sp_read_value c ds S Q X) : u_read_value K c sp_word_end sp_value_of_word (bodyE Q X) (startE N_read_value ds) S := by
  obtain ⟨t, rfl, ht, hok, hbad⟩ := h
  rw [rv_eq]
  have e0 : (["str"].any (isT "str")) = true := by decide
  simp only [dAdd, dAddI, dSub, dEq, dNe, dLt, dLe, dGt, dGe, dIs, SL.isNon, dNeg, fLen, lenD, isTy, mLstrip, seqOf, tru, tyOf, Option.map_some, String.reduceEq, usNil, usSeq, usSet, usExpr, usRet, usRetN, usIf, usBrk, usCnt, usAug, usAsg, usDPut, usRaise, usSub, uVar, uC, uBin, uChain, uUn, uTru, uTb, uAnd, uOr, uNot, uAndV, uOrV, uNotV, uIte, uNil, uCons, uTup, uLst, uNoPart, uPart, uSl, vSl, uFn, gP, uIsi, uBM, uBM0, gM, gAppend, gPop, uCall, uA0, uA1, gId, gApp, isSeq, isRng, isRng2, uDGet, bodyE, startE, ugName, List.map_cons, List.map_nil, List.length_cons, List.length_nil, List.cons_append, List.nil_append, List.getElem?_cons_zero, List.getElem?_cons_succ, List.set_cons_zero, List.set_cons_succ, List.replicate, Nat.add_one_sub_one, Nat.sub_self, Nat.reduceSub, Nat.reduceAdd, Option.some.injEq, exists_eq_left', exists_eq_left, exists_and_left, true_and, and_true, D.bl.injEq, D.int.injEq, D.str.injEq, D.tup.injEq, D.ref.injEq, Ob.lst.injEq, List.cons.injEq, fTup, if_true, if_false, ite_true, ite_false, Bool.false_eq_true, Bool.true_eq_false, reduceIte, e0]
  refine ⟨by rw [sizeLine_eq]; decide, fun p hp => ⟨by rw [sizeLine_eq]; decide, fun o ho => ?_⟩⟩
  have hs := Stk.new hp ho
  refine ⟨t.length + 1, ?_⟩
  refine rvB_of (S0 := S) (o := o) (e3 := none) (e4 := none) ht (t.length + 1) t [] [] p [] .start none none _ (Nat.lt_succ_self _) ⟨rfl, by simp [ren, ren0, itm], ⟨by simp, fun i g hg d hd => ?_⟩, rfl, rfl, .inr ⟨rfl, .inr rfl⟩⟩ hs (fun n env S' l b => ⟨S, l, hbad n b⟩) (fun v st S' l a b c d => ⟨S, l, hok v st a b c d⟩)
  have : g = [] := by
    cases i with
    | zero => simp at hg; exact hg
    | succ k => simp at hg
  subst this; cases hd
end K00

set_option Elab.async false
set_option linter.all false
set_option maxRecDepth 100000
set_option maxHeartbeats 4000000
namespace K00
open PySem PySem.Spec L2 SL
variable {K : PySem.W.Frag} {c : Cs}
theorem tw_all {p : Nat → Bool} : ∀ {x : List Nat}, (∀ a ∈ x, p a = true) → x.takeWhile p = x
  | [], _ => rfl
  | a :: r, h => by rw [List.takeWhile_cons, if_pos (h a (List.mem_cons_self ..)), tw_all fun b hb => h b (List.mem_cons_of_mem _ hb)]
theorem run12_all {sg x : List Nat} (h : ∀ a ∈ x, a ∈ sg) (hl : x.length ≤ 12) : run12 sg x = x.length := by
  unfold run12 spn
  rw [List.take_of_length_le hl, tw_all fun a ha => decide_eq_true (h a ha)]
def sp_is_token : FS := fun ds S Q X => ∃ x, ds = [.str x] ∧ Tkn x ∧ Q (.bl true) S
theorem ok_is_token {ds : List D} {S : SS} {Q : QN} {X : QX} (h : sp_is_token ds S Q X) : u_is_token K c sp_run_end (bodyE Q X) (startE N_is_token ds) S := by
  obtain ⟨x, rfl, ⟨a, r, e, ha, hr, hl⟩, q⟩ := h
  have hz : x.length ≤ sizeLine := szl (by omega)
  have hall : ∀ b ∈ x, b ∈ TOK := fun b hb => by
    rw [e] at hb
    rcases List.mem_cons.mp hb with z | z
    · rw [z]; exact tok_iff.mpr (by have := low_iff.mp ha; omega)
    · exact hr b z
  unfold u_is_token
  have ei : dIx S (.str x) (.int 0) = some (.str [a]) := by
    show (if _ then _ else none) = _
    have := atI_nat (xs := a :: r) (n := 0)
    rw [show ((0 : Nat) : Int) = 0 from rfl] at this
    rw [if_pos hz, e, this]; rfl
  have el : dNotIn1 S (.str [a]) gv_LETTERS = some (.bl (!decide (a ∈ LOW))) := rfl
  have e1 : (x == []) = false := by rw [e]; rfl
  simp only [dAdd, dAddI, dSub, dEq, dNe, dLt, dLe, dGt, dGe, dIs, SL.isNon, dNeg, fLen, lenD, isTy, mLstrip, seqOf, tru, tyOf, Option.map_some, String.reduceEq, usNil, usSeq, usSet, usExpr, usRet, usRetN, usIf, usBrk, usCnt, usAug, usAsg, usDPut, usRaise, usSub, uVar, uC, uBin, uChain, uUn, uTru, uTb, uAnd, uOr, uNot, uAndV, uOrV, uNotV, uIte, uNil, uCons, uTup, uLst, uNoPart, uPart, uSl, vSl, uFn, gP, uIsi, uBM, uBM0, gM, gAppend, gPop, uCall, uA0, uA1, gId, gApp, isSeq, isRng, isRng2, uDGet, bodyE, startE, ugName, List.map_cons, List.map_nil, List.length_cons, List.length_nil, List.cons_append, List.nil_append, List.getElem?_cons_zero, List.getElem?_cons_succ, List.set_cons_zero, List.set_cons_succ, List.replicate, Nat.add_one_sub_one, Nat.sub_self, Nat.reduceSub, Nat.reduceAdd, Option.some.injEq, exists_eq_left', exists_eq_left, exists_and_left, true_and, and_true, D.bl.injEq, D.int.injEq, D.str.injEq, D.tup.injEq, D.ref.injEq, Ob.lst.injEq, List.cons.injEq, fTup, if_true, if_false, ite_true, ite_false, Bool.false_eq_true, Bool.true_eq_false, reduceIte, c_e, e1, ei, el, ha, decide_true, Bool.not_true]
  refine ⟨[], x, TOK, rfl, by simp; omega, ?_⟩
  simp only [dAdd, dAddI, dSub, dEq, dNe, dLt, dLe, dGt, dGe, dIs, SL.isNon, dNeg, fLen, lenD, isTy, mLstrip, seqOf, tru, tyOf, Option.map_some, String.reduceEq, usNil, usSeq, usSet, usExpr, usRet, usRetN, usIf, usBrk, usCnt, usAug, usAsg, usDPut, usRaise, usSub, uVar, uC, uBin, uChain, uUn, uTru, uTb, uAnd, uOr, uNot, uAndV, uOrV, uNotV, uIte, uNil, uCons, uTup, uLst, uNoPart, uPart, uSl, vSl, uFn, gP, uIsi, uBM, uBM0, gM, gAppend, gPop, uCall, uA0, uA1, gId, gApp, isSeq, isRng, isRng2, uDGet, bodyE, startE, ugName, List.map_cons, List.map_nil, List.length_cons, List.length_nil, List.cons_append, List.nil_append, List.getElem?_cons_zero, List.getElem?_cons_succ, List.set_cons_zero, List.set_cons_succ, List.replicate, Nat.add_one_sub_one, Nat.sub_self, Nat.reduceSub, Nat.reduceAdd, Option.some.injEq, exists_eq_left', exists_eq_left, exists_and_left, true_and, and_true, D.bl.injEq, D.int.injEq, D.str.injEq, D.tup.injEq, D.ref.injEq, Ob.lst.injEq, List.cons.injEq, fTup, if_true, if_false, ite_true, ite_false, Bool.false_eq_true, Bool.true_eq_false, reduceIte, hz, run12_all hall hl]
  have e2 : ((((0 : Nat) : Int) + ((x.length : Nat) : Int)) == (x.length : Int)) = true := by simp
  rw [e2]
  exact ⟨S, Le.refl _, q⟩
def sp_pw (n : Nat) : FS := fun ds S Q X => ∃ v, ∃ m : Nat, m < n ∧ ds = [v, .int (m : Nat)] ∧ PlW m v ∧ Q (.bl true) S
theorem pw_for {n m : Nat} {v : D} {Z : EndsS} {S : SS} (hm : m < n) : ∀ (xs : List D) (e2 : Option D), (∀ x ∈ xs, PlW m x) → (∀ e2', Z.nx [some v, some (.int ((m + 1 : Nat) : Int)), e2'] S) →
    forL (ugName 2) (usIf (uNot (uTru (uCall (sp_pw n) gId (uA1 2 (uCons (uVar 2) (uCons (uBin dSub (uVar 1) (uC (.int 1))) uNil)))))) (usRet (uC (.bl false))) usNil) (fun _ => True) Z xs [some v, some (.int ((m + 1 : Nat) : Int)), e2] S
  | [], e2, _, k => ⟨trivial, k e2⟩
  | x :: xs, e2, h, k => by
    refine ⟨trivial, ?_⟩
    simp only [dAdd, dAddI, dSub, dEq, dNe, dLt, dLe, dGt, dGe, dIs, SL.isNon, dNeg, fLen, lenD, isTy, mLstrip, seqOf, tru, tyOf, Option.map_some, String.reduceEq, usNil, usSeq, usSet, usExpr, usRet, usRetN, usIf, usBrk, usCnt, usAug, usAsg, usDPut, usRaise, usSub, uVar, uC, uBin, uChain, uUn, uTru, uTb, uAnd, uOr, uNot, uAndV, uOrV, uNotV, uIte, uNil, uCons, uTup, uLst, uNoPart, uPart, uSl, vSl, uFn, gP, uIsi, uBM, uBM0, gM, gAppend, gPop, uCall, uA0, uA1, gId, gApp, isSeq, isRng, isRng2, uDGet, bodyE, startE, ugName, List.map_cons, List.map_nil, List.length_cons, List.length_nil, List.cons_append, List.nil_append, List.getElem?_cons_zero, List.getElem?_cons_succ, List.set_cons_zero, List.set_cons_succ, List.replicate, Nat.add_one_sub_one, Nat.sub_self, Nat.reduceSub, Nat.reduceAdd, Option.some.injEq, exists_eq_left', exists_eq_left, exists_and_left, true_and, and_true, D.bl.injEq, D.int.injEq, D.str.injEq, D.tup.injEq, D.ref.injEq, Ob.lst.injEq, List.cons.injEq, fTup, if_true, if_false, ite_true, ite_false, Bool.false_eq_true, Bool.true_eq_false, reduceIte]
    refine ⟨x, m, hm, ?_, h x (List.mem_cons_self ..), ?_⟩
    · congr 2; rw [D.int.injEq]; omega
    · simp only [dAdd, dAddI, dSub, dEq, dNe, dLt, dLe, dGt, dGe, dIs, SL.isNon, dNeg, fLen, lenD, isTy, mLstrip, seqOf, tru, tyOf, Option.map_some, String.reduceEq, usNil, usSeq, usSet, usExpr, usRet, usRetN, usIf, usBrk, usCnt, usAug, usAsg, usDPut, usRaise, usSub, uVar, uC, uBin, uChain, uUn, uTru, uTb, uAnd, uOr, uNot, uAndV, uOrV, uNotV, uIte, uNil, uCons, uTup, uLst, uNoPart, uPart, uSl, vSl, uFn, gP, uIsi, uBM, uBM0, gM, gAppend, gPop, uCall, uA0, uA1, gId, gApp, isSeq, isRng, isRng2, uDGet, bodyE, startE, ugName, List.map_cons, List.map_nil, List.length_cons, List.length_nil, List.cons_append, List.nil_append, List.getElem?_cons_zero, List.getElem?_cons_succ, List.set_cons_zero, List.set_cons_succ, List.replicate, Nat.add_one_sub_one, Nat.sub_self, Nat.reduceSub, Nat.reduceAdd, Option.some.injEq, exists_eq_left', exists_eq_left, exists_and_left, true_and, and_true, D.bl.injEq, D.int.injEq, D.str.injEq, D.tup.injEq, D.ref.injEq, Ob.lst.injEq, List.cons.injEq, fTup, if_true, if_false, ite_true, ite_false, Bool.false_eq_true, Bool.true_eq_false, reduceIte, Bool.not_true]
      exact pw_for hm xs _ (fun y hy => h y (List.mem_cons_of_mem _ hy)) k
theorem ok_pw {n : Nat} {ds : List D} {S : SS} {Q : QN} {X : QX} (h : sp_pw (n + 1) ds S Q X) : u_is_plain_within K c sp_is_token (sp_pw n) (bodyE Q X) (startE N_is_plain_within ds) S := by
  obtain ⟨v, m, hm, rfl, hp, q⟩ := h
  have i1 : ["bool"].any (isT "NoneType") = false := by decide
  have i2 : ["bool"].any (isT "bool") = true := by decide
  have i3 : ["bool"].any (isT "int") = false := by decide
  have i4 : ["bool"].any (isT "str") = false := by decide
  have i5 : ["bool"].any (isT "tuple") = false := by decide
  have i6 : ["int"].any (isT "int") = true := by decide
  have i7 : ["int"].any (isT "str") = false := by decide
  have i8 : ["int"].any (isT "tuple") = false := by decide
  have i9 : ["str"].any (isT "str") = true := by decide
  have i10 : ["str"].any (isT "tuple") = false := by decide
  have i11 : ["tuple"].any (isT "tuple") = true := by decide
  have e_ : ∃ S', Le S' S ∧ Q (.bl true) S' := ⟨S, Le.refl _, q⟩
  unfold u_is_plain_within
  cases v with
  | non => simp only [dAdd, dAddI, dSub, dEq, dNe, dLt, dLe, dGt, dGe, dIs, SL.isNon, dNeg, fLen, lenD, isTy, mLstrip, seqOf, tru, tyOf, Option.map_some, String.reduceEq, usNil, usSeq, usSet, usExpr, usRet, usRetN, usIf, usBrk, usCnt, usAug, usAsg, usDPut, usRaise, usSub, uVar, uC, uBin, uChain, uUn, uTru, uTb, uAnd, uOr, uNot, uAndV, uOrV, uNotV, uIte, uNil, uCons, uTup, uLst, uNoPart, uPart, uSl, vSl, uFn, gP, uIsi, uBM, uBM0, gM, gAppend, gPop, uCall, uA0, uA1, gId, gApp, isSeq, isRng, isRng2, uDGet, bodyE, startE, ugName, List.map_cons, List.map_nil, List.length_cons, List.length_nil, List.cons_append, List.nil_append, List.getElem?_cons_zero, List.getElem?_cons_succ, List.set_cons_zero, List.set_cons_succ, List.replicate, Nat.add_one_sub_one, Nat.sub_self, Nat.reduceSub, Nat.reduceAdd, Option.some.injEq, exists_eq_left', exists_eq_left, exists_and_left, true_and, and_true, D.bl.injEq, D.int.injEq, D.str.injEq, D.tup.injEq, D.ref.injEq, Ob.lst.injEq, List.cons.injEq, fTup, if_true, if_false, ite_true, ite_false, Bool.false_eq_true, Bool.true_eq_false, reduceIte, i1]; exact e_
  | bl b => simp only [dAdd, dAddI, dSub, dEq, dNe, dLt, dLe, dGt, dGe, dIs, SL.isNon, dNeg, fLen, lenD, isTy, mLstrip, seqOf, tru, tyOf, Option.map_some, String.reduceEq, usNil, usSeq, usSet, usExpr, usRet, usRetN, usIf, usBrk, usCnt, usAug, usAsg, usDPut, usRaise, usSub, uVar, uC, uBin, uChain, uUn, uTru, uTb, uAnd, uOr, uNot, uAndV, uOrV, uNotV, uIte, uNil, uCons, uTup, uLst, uNoPart, uPart, uSl, vSl, uFn, gP, uIsi, uBM, uBM0, gM, gAppend, gPop, uCall, uA0, uA1, gId, gApp, isSeq, isRng, isRng2, uDGet, bodyE, startE, ugName, List.map_cons, List.map_nil, List.length_cons, List.length_nil, List.cons_append, List.nil_append, List.getElem?_cons_zero, List.getElem?_cons_succ, List.set_cons_zero, List.set_cons_succ, List.replicate, Nat.add_one_sub_one, Nat.sub_self, Nat.reduceSub, Nat.reduceAdd, Option.some.injEq, exists_eq_left', exists_eq_left, exists_and_left, true_and, and_true, D.bl.injEq, D.int.injEq, D.str.injEq, D.tup.injEq, D.ref.injEq, Ob.lst.injEq, List.cons.injEq, fTup, if_true, if_false, ite_true, ite_false, Bool.false_eq_true, Bool.true_eq_false, reduceIte, i2]; exact e_
  | int i =>
    simp only [PlW] at hp
    have d1 : decide (-1000000000000 < i) = true := decide_eq_true hp.1
    have d2 : decide (i < 1000000000000) = true := decide_eq_true hp.2
    simp only [dAdd, dAddI, dSub, dEq, dNe, dLt, dLe, dGt, dGe, dIs, SL.isNon, dNeg, fLen, lenD, isTy, mLstrip, seqOf, tru, tyOf, Option.map_some, String.reduceEq, usNil, usSeq, usSet, usExpr, usRet, usRetN, usIf, usBrk, usCnt, usAug, usAsg, usDPut, usRaise, usSub, uVar, uC, uBin, uChain, uUn, uTru, uTb, uAnd, uOr, uNot, uAndV, uOrV, uNotV, uIte, uNil, uCons, uTup, uLst, uNoPart, uPart, uSl, vSl, uFn, gP, uIsi, uBM, uBM0, gM, gAppend, gPop, uCall, uA0, uA1, gId, gApp, isSeq, isRng, isRng2, uDGet, bodyE, startE, ugName, List.map_cons, List.map_nil, List.length_cons, List.length_nil, List.cons_append, List.nil_append, List.getElem?_cons_zero, List.getElem?_cons_succ, List.set_cons_zero, List.set_cons_succ, List.replicate, Nat.add_one_sub_one, Nat.sub_self, Nat.reduceSub, Nat.reduceAdd, Option.some.injEq, exists_eq_left', exists_eq_left, exists_and_left, true_and, and_true, D.bl.injEq, D.int.injEq, D.str.injEq, D.tup.injEq, D.ref.injEq, Ob.lst.injEq, List.cons.injEq, fTup, if_true, if_false, ite_true, ite_false, Bool.false_eq_true, Bool.true_eq_false, reduceIte, i3, i6, d1, d2]
    exact e_
  | str x =>
    simp only [dAdd, dAddI, dSub, dEq, dNe, dLt, dLe, dGt, dGe, dIs, SL.isNon, dNeg, fLen, lenD, isTy, mLstrip, seqOf, tru, tyOf, Option.map_some, String.reduceEq, usNil, usSeq, usSet, usExpr, usRet, usRetN, usIf, usBrk, usCnt, usAug, usAsg, usDPut, usRaise, usSub, uVar, uC, uBin, uChain, uUn, uTru, uTb, uAnd, uOr, uNot, uAndV, uOrV, uNotV, uIte, uNil, uCons, uTup, uLst, uNoPart, uPart, uSl, vSl, uFn, gP, uIsi, uBM, uBM0, gM, gAppend, gPop, uCall, uA0, uA1, gId, gApp, isSeq, isRng, isRng2, uDGet, bodyE, startE, ugName, List.map_cons, List.map_nil, List.length_cons, List.length_nil, List.cons_append, List.nil_append, List.getElem?_cons_zero, List.getElem?_cons_succ, List.set_cons_zero, List.set_cons_succ, List.replicate, Nat.add_one_sub_one, Nat.sub_self, Nat.reduceSub, Nat.reduceAdd, Option.some.injEq, exists_eq_left', exists_eq_left, exists_and_left, true_and, and_true, D.bl.injEq, D.int.injEq, D.str.injEq, D.tup.injEq, D.ref.injEq, Ob.lst.injEq, List.cons.injEq, fTup, if_true, if_false, ite_true, ite_false, Bool.false_eq_true, Bool.true_eq_false, reduceIte, i4, i7, i9]
    exact ⟨x, rfl, by cases m <;> exact hp, e_⟩
  | tup xs =>
    cases m with
    | zero => simp [PlW] at hp
    | succ m =>
      have e0 : (((m + 1 : Nat) : Int) == 0) = false := by rw [beq_eq_false_iff_ne]; omega
      simp only [dAdd, dAddI, dSub, dEq, dNe, dLt, dLe, dGt, dGe, dIs, SL.isNon, dNeg, fLen, lenD, isTy, mLstrip, seqOf, tru, tyOf, Option.map_some, String.reduceEq, usNil, usSeq, usSet, usExpr, usRet, usRetN, usIf, usBrk, usCnt, usAug, usAsg, usDPut, usRaise, usSub, uVar, uC, uBin, uChain, uUn, uTru, uTb, uAnd, uOr, uNot, uAndV, uOrV, uNotV, uIte, uNil, uCons, uTup, uLst, uNoPart, uPart, uSl, vSl, uFn, gP, uIsi, uBM, uBM0, gM, gAppend, gPop, uCall, uA0, uA1, gId, gApp, isSeq, isRng, isRng2, uDGet, bodyE, startE, ugName, List.map_cons, List.map_nil, List.length_cons, List.length_nil, List.cons_append, List.nil_append, List.getElem?_cons_zero, List.getElem?_cons_succ, List.set_cons_zero, List.set_cons_succ, List.replicate, Nat.add_one_sub_one, Nat.sub_self, Nat.reduceSub, Nat.reduceAdd, Option.some.injEq, exists_eq_left', exists_eq_left, exists_and_left, true_and, and_true, D.bl.injEq, D.int.injEq, D.str.injEq, D.tup.injEq, D.ref.injEq, Ob.lst.injEq, List.cons.injEq, fTup, if_true, if_false, ite_true, ite_false, Bool.false_eq_true, Bool.true_eq_false, reduceIte, i5, i8, i10, i11, e0, Bool.not_true, usFor, vSeq]
      exact pw_for (by omega) xs none (by simpa [PlW] using hp) fun e2 => e_
  | ref a => simp [PlW] at hp
  | exc _ _ _ _ => simp [PlW] at hp
  | kl _ => simp [PlW] at hp
def sp_is_plain : FS := fun ds S Q X => ∃ v, ds = [v] ∧ PlW 20 v ∧ Q (.bl true) S
theorem ok_is_plain {ds : List D} {S : SS} {Q : QN} {X : QX} (h : sp_is_plain ds S Q X) : u_is_plain K c (sp_pw 21) (bodyE Q X) (startE N_is_plain ds) S := by
  obtain ⟨v, rfl, hp, q⟩ := h
  unfold u_is_plain
  simp only [dAdd, dAddI, dSub, dEq, dNe, dLt, dLe, dGt, dGe, dIs, SL.isNon, dNeg, fLen, lenD, isTy, mLstrip, seqOf, tru, tyOf, Option.map_some, String.reduceEq, usNil, usSeq, usSet, usExpr, usRet, usRetN, usIf, usBrk, usCnt, usAug, usAsg, usDPut, usRaise, usSub, uVar, uC, uBin, uChain, uUn, uTru, uTb, uAnd, uOr, uNot, uAndV, uOrV, uNotV, uIte, uNil, uCons, uTup, uLst, uNoPart, uPart, uSl, vSl, uFn, gP, uIsi, uBM, uBM0, gM, gAppend, gPop, uCall, uA0, uA1, gId, gApp, isSeq, isRng, isRng2, uDGet, bodyE, startE, ugName, List.map_cons, List.map_nil, List.length_cons, List.length_nil, List.cons_append, List.nil_append, List.getElem?_cons_zero, List.getElem?_cons_succ, List.set_cons_zero, List.set_cons_succ, List.replicate, Nat.add_one_sub_one, Nat.sub_self, Nat.reduceSub, Nat.reduceAdd, Option.some.injEq, exists_eq_left', exists_eq_left, exists_and_left, true_and, and_true, D.bl.injEq, D.int.injEq, D.str.injEq, D.tup.injEq, D.ref.injEq, Ob.lst.injEq, List.cons.injEq, fTup, if_true, if_false, ite_true, ite_false, Bool.false_eq_true, Bool.true_eq_false, reduceIte]
  exact ⟨v, 20, by omega, rfl, hp, S, Le.refl _, q⟩
theorem join_txt : ∀ {xs : List D}, sJoin [44] (xs.map txt) = txtL xs := by
  have e : ∀ l : List (List Nat), sJoin [44] l = TL.joinL [44] l := fun l => by
    unfold sJoin
    rw [TL.join_eq]
    have := TL.tl_join (tx [44]) (l.map tx)
    unfold TL.tl at this
    rw [this, tx_cps, List.map_map]
    congr 1
    have : ((fun x : Str => x.cps.toList) ∘ tx) = id := by funext z; simp [tx_cps]
    rw [this, List.map_id]
  intro xs
  rw [e]
  cases xs with
  | nil => rfl
  | cons x xs =>
    have key : ∀ (xs : List D) (x : D), TL.joinL [44] (txt x :: xs.map txt) = txt x ++ txtT xs := by
      intro xs
      induction xs with
      | nil => intro x; simp [TL.joinL, txtT]
      | cons y ys ih => intro x; rw [List.map_cons, TL.joinL, ih, txtT]; rfl
    exact key xs x
theorem strs_map : ∀ {l : List (List Nat)}, strsOf (l.map .str) = some l
  | [] => rfl
  | x :: l => by rw [List.map_cons, strsOf, strs_map]; rfl
theorem txtL_len {xs : List D} {x : D} (h : x ∈ xs) : (txt x).length ≤ (txtL xs).length := by
  have ht : ∀ {xs : List D}, x ∈ xs → (txt x).length ≤ (txtT xs).length := by
    intro xs
    induction xs with
    | nil => intro h; cases h
    | cons y ys ih =>
      intro h
      rw [txtT, List.length_cons, List.length_append]
      rcases List.mem_cons.mp h with z | z
      · subst z; omega
      · have := ih z; omega
  cases xs with
  | nil => cases h
  | cons y ys =>
    rw [txtL, List.length_append]
    rcases List.mem_cons.mp h with z | z
    · subst z; omega
    · have := ht z; omega
theorem txtL_sum {xs : List D} : ((xs.map txt).map List.length).sum + xs.length ≤ (txtL xs).length + 1 := by
  have ht : ∀ {xs : List D}, ((xs.map txt).map List.length).sum + xs.length ≤ (txtT xs).length := by
    intro xs
    induction xs with
    | nil => simp [txtT]
    | cons y ys ih => simp only [List.map_cons, List.sum_cons, List.length_cons, txtT, List.length_append]; omega
  cases xs with
  | nil => simp [txtL]
  | cons y ys => have := ht (xs := ys); simp only [List.map_cons, List.sum_cons, List.length_cons, txtL, List.length_append]; omega
def sp_to (n : Nat) : FS := fun ds S Q X => ∃ v, ∃ m : Nat, m < n ∧ ds = [v] ∧ PlW m v ∧ (txt v).length ≤ 1000000 ∧ Q (.str (txt v)) S
theorem to_lc {n m : Nat} (hm : m < n) {vs : List Nat} {p : Addr} {env : En} {Q : SS → Prop} (hw : (wipeE env vs).length = 2) : ∀ (xs acc : List D) (S : SS), S p = some (.lst acc) → acc.length + xs.length ≤ 1000000 → (∀ x ∈ xs, PlW m x ∧ (txt x).length ≤ 1000000) →
    (∀ S', (∀ b, b ≠ p → S' b = S b) → S' p = some (.lst (acc ++ xs.map fun x => .str (txt x))) → Q S') →
    lcL (ugName 1) utYes (uCall (sp_to n) gId (uA1 1 (uCons (uVar 1) uNil))) (fun _ => True) vs p env Q xs S
  | [], acc, S, hp, _, _, k => ⟨trivial, k S (fun _ _ => rfl) (by simpa using hp)⟩
  | x :: xs, acc, S, hp, hl, h, k => by
    have hx := h x (List.mem_cons_self ..)
    have hg : ((wipeE env vs).set 1 (some x))[1]? = some (some x) := by rw [List.getElem?_set_self (by omega)]
    refine ⟨trivial, ?_⟩
    simp only [dAdd, dAddI, dSub, dEq, dNe, dLt, dLe, dGt, dGe, dIs, SL.isNon, dNeg, fLen, lenD, isTy, mLstrip, seqOf, tru, tyOf, Option.map_some, String.reduceEq, usNil, usSeq, usSet, usExpr, usRet, usRetN, usIf, usBrk, usCnt, usAug, usAsg, usDPut, usRaise, usSub, uVar, uC, uBin, uChain, uUn, uTru, uTb, uAnd, uOr, uNot, uAndV, uOrV, uNotV, uIte, uNil, uCons, uTup, uLst, uNoPart, uPart, uSl, vSl, uFn, gP, uIsi, uBM, uBM0, gM, gAppend, gPop, uCall, uA0, uA1, gId, gApp, isSeq, isRng, isRng2, uDGet, bodyE, startE, ugName, List.map_cons, List.map_nil, List.length_cons, List.length_nil, List.cons_append, List.nil_append, List.getElem?_cons_zero, List.getElem?_cons_succ, List.set_cons_zero, List.set_cons_succ, List.replicate, Nat.add_one_sub_one, Nat.sub_self, Nat.reduceSub, Nat.reduceAdd, Option.some.injEq, exists_eq_left', exists_eq_left, exists_and_left, true_and, and_true, D.bl.injEq, D.int.injEq, D.str.injEq, D.tup.injEq, D.ref.injEq, Ob.lst.injEq, List.cons.injEq, fTup, if_true, if_false, ite_true, ite_false, Bool.false_eq_true, Bool.true_eq_false, reduceIte, utYes, hg]
    refine ⟨x, m, hm, rfl, hx.1, hx.2, acc, hp, by rw [sizeLine_eq]; omega, ?_⟩
    refine to_lc hm hw xs (acc ++ [.str (txt x)]) _ sup_same (by simp only [List.length_append, List.length_cons, List.length_nil] at hl ⊢; omega) (fun y hy => h y (List.mem_cons_of_mem _ hy)) fun S' hS hp' => k S' (fun b hb => (hS b hb).trans (sup_ne hb)) (by simpa using hp')
theorem ok_to {n : Nat} {ds : List D} {S : SS} {Q : QN} {X : QX} (h : sp_to (n + 1) ds S Q X) : u_text_of K c (sp_to n) (bodyE Q X) (startE N_text_of ds) S := by
  obtain ⟨v, m, hm, rfl, hp, hl, q⟩ := h
  have i1 : ["bool"].any (isT "NoneType") = false := by decide
  have i2 : ["bool"].any (isT "bool") = true := by decide
  have i3 : ["bool"].any (isT "int") = false := by decide
  have i4 : ["bool"].any (isT "str") = false := by decide
  have i5 : ["bool"].any (isT "tuple") = false := by decide
  have i6 : ["int"].any (isT "int") = true := by decide
  have i7 : ["int"].any (isT "str") = false := by decide
  have i8 : ["int"].any (isT "tuple") = false := by decide
  have i9 : ["str"].any (isT "str") = true := by decide
  have i10 : ["str"].any (isT "tuple") = false := by decide
  have e_ : ∃ S', Le S' S ∧ Q (.str (txt v)) S' := ⟨S, Le.refl _, q⟩
  unfold u_text_of
  cases v with
  | non => simp only [dAdd, dAddI, dSub, dEq, dNe, dLt, dLe, dGt, dGe, dIs, SL.isNon, dNeg, fLen, lenD, isTy, mLstrip, seqOf, tru, tyOf, Option.map_some, String.reduceEq, usNil, usSeq, usSet, usExpr, usRet, usRetN, usIf, usBrk, usCnt, usAug, usAsg, usDPut, usRaise, usSub, uVar, uC, uBin, uChain, uUn, uTru, uTb, uAnd, uOr, uNot, uAndV, uOrV, uNotV, uIte, uNil, uCons, uTup, uLst, uNoPart, uPart, uSl, vSl, uFn, gP, uIsi, uBM, uBM0, gM, gAppend, gPop, uCall, uA0, uA1, gId, gApp, isSeq, isRng, isRng2, uDGet, bodyE, startE, ugName, List.map_cons, List.map_nil, List.length_cons, List.length_nil, List.cons_append, List.nil_append, List.getElem?_cons_zero, List.getElem?_cons_succ, List.set_cons_zero, List.set_cons_succ, List.replicate, Nat.add_one_sub_one, Nat.sub_self, Nat.reduceSub, Nat.reduceAdd, Option.some.injEq, exists_eq_left', exists_eq_left, exists_and_left, true_and, and_true, D.bl.injEq, D.int.injEq, D.str.injEq, D.tup.injEq, D.ref.injEq, Ob.lst.injEq, List.cons.injEq, fTup, if_true, if_false, ite_true, ite_false, Bool.false_eq_true, Bool.true_eq_false, reduceIte, i1, c_N]; exact e_
  | bl b => cases b <;> (simp only [dAdd, dAddI, dSub, dEq, dNe, dLt, dLe, dGt, dGe, dIs, SL.isNon, dNeg, fLen, lenD, isTy, mLstrip, seqOf, tru, tyOf, Option.map_some, String.reduceEq, usNil, usSeq, usSet, usExpr, usRet, usRetN, usIf, usBrk, usCnt, usAug, usAsg, usDPut, usRaise, usSub, uVar, uC, uBin, uChain, uUn, uTru, uTb, uAnd, uOr, uNot, uAndV, uOrV, uNotV, uIte, uNil, uCons, uTup, uLst, uNoPart, uPart, uSl, vSl, uFn, gP, uIsi, uBM, uBM0, gM, gAppend, gPop, uCall, uA0, uA1, gId, gApp, isSeq, isRng, isRng2, uDGet, bodyE, startE, ugName, List.map_cons, List.map_nil, List.length_cons, List.length_nil, List.cons_append, List.nil_append, List.getElem?_cons_zero, List.getElem?_cons_succ, List.set_cons_zero, List.set_cons_succ, List.replicate, Nat.add_one_sub_one, Nat.sub_self, Nat.reduceSub, Nat.reduceAdd, Option.some.injEq, exists_eq_left', exists_eq_left, exists_and_left, true_and, and_true, D.bl.injEq, D.int.injEq, D.str.injEq, D.tup.injEq, D.ref.injEq, Ob.lst.injEq, List.cons.injEq, fTup, if_true, if_false, ite_true, ite_false, Bool.false_eq_true, Bool.true_eq_false, reduceIte, i2, c_T, c_F]; exact e_)
  | int i =>
    have hlog : i.natAbs.log2 < 1920 := by
      simp only [PlW] at hp
      by_cases z : i.natAbs = 0
      · rw [z]; decide
      · exact Nat.lt_of_lt_of_le ((Nat.log2_lt z).mpr (by omega : i.natAbs < 2 ^ 40)) (by decide)
    simp only [dAdd, dAddI, dSub, dEq, dNe, dLt, dLe, dGt, dGe, dIs, SL.isNon, dNeg, fLen, lenD, isTy, mLstrip, seqOf, tru, tyOf, Option.map_some, String.reduceEq, usNil, usSeq, usSet, usExpr, usRet, usRetN, usIf, usBrk, usCnt, usAug, usAsg, usDPut, usRaise, usSub, uVar, uC, uBin, uChain, uUn, uTru, uTb, uAnd, uOr, uNot, uAndV, uOrV, uNotV, uIte, uNil, uCons, uTup, uLst, uNoPart, uPart, uSl, vSl, uFn, gP, uIsi, uBM, uBM0, gM, gAppend, gPop, uCall, uA0, uA1, gId, gApp, isSeq, isRng, isRng2, uDGet, bodyE, startE, ugName, List.map_cons, List.map_nil, List.length_cons, List.length_nil, List.cons_append, List.nil_append, List.getElem?_cons_zero, List.getElem?_cons_succ, List.set_cons_zero, List.set_cons_succ, List.replicate, Nat.add_one_sub_one, Nat.sub_self, Nat.reduceSub, Nat.reduceAdd, Option.some.injEq, exists_eq_left', exists_eq_left, exists_and_left, true_and, and_true, D.bl.injEq, D.int.injEq, D.str.injEq, D.tup.injEq, D.ref.injEq, Ob.lst.injEq, List.cons.injEq, fTup, if_true, if_false, ite_true, ite_false, Bool.false_eq_true, Bool.true_eq_false, reduceIte, i3, i6, fStr, hlog]; exact e_
  | str x => simp only [dAdd, dAddI, dSub, dEq, dNe, dLt, dLe, dGt, dGe, dIs, SL.isNon, dNeg, fLen, lenD, isTy, mLstrip, seqOf, tru, tyOf, Option.map_some, String.reduceEq, usNil, usSeq, usSet, usExpr, usRet, usRetN, usIf, usBrk, usCnt, usAug, usAsg, usDPut, usRaise, usSub, uVar, uC, uBin, uChain, uUn, uTru, uTb, uAnd, uOr, uNot, uAndV, uOrV, uNotV, uIte, uNil, uCons, uTup, uLst, uNoPart, uPart, uSl, vSl, uFn, gP, uIsi, uBM, uBM0, gM, gAppend, gPop, uCall, uA0, uA1, gId, gApp, isSeq, isRng, isRng2, uDGet, bodyE, startE, ugName, List.map_cons, List.map_nil, List.length_cons, List.length_nil, List.cons_append, List.nil_append, List.getElem?_cons_zero, List.getElem?_cons_succ, List.set_cons_zero, List.set_cons_succ, List.replicate, Nat.add_one_sub_one, Nat.sub_self, Nat.reduceSub, Nat.reduceAdd, Option.some.injEq, exists_eq_left', exists_eq_left, exists_and_left, true_and, and_true, D.bl.injEq, D.int.injEq, D.str.injEq, D.tup.injEq, D.ref.injEq, Ob.lst.injEq, List.cons.injEq, fTup, if_true, if_false, ite_true, ite_false, Bool.false_eq_true, Bool.true_eq_false, reduceIte, i4, i7, i9]; exact e_
  | tup xs =>
    cases m with
    | zero => simp [PlW] at hp
    | succ m =>
      have hl2 : (txtL xs).length + 2 ≤ 1000000 := by rw [txt] at hl; simp at hl; omega
      have hsum := txtL_sum (xs := xs)
      simp only [dAdd, dAddI, dSub, dEq, dNe, dLt, dLe, dGt, dGe, dIs, SL.isNon, dNeg, fLen, lenD, isTy, mLstrip, seqOf, tru, tyOf, Option.map_some, String.reduceEq, usNil, usSeq, usSet, usExpr, usRet, usRetN, usIf, usBrk, usCnt, usAug, usAsg, usDPut, usRaise, usSub, uVar, uC, uBin, uChain, uUn, uTru, uTb, uAnd, uOr, uNot, uAndV, uOrV, uNotV, uIte, uNil, uCons, uTup, uLst, uNoPart, uPart, uSl, vSl, uFn, gP, uIsi, uBM, uBM0, gM, gAppend, gPop, uCall, uA0, uA1, gId, gApp, isSeq, isRng, isRng2, uDGet, bodyE, startE, ugName, List.map_cons, List.map_nil, List.length_cons, List.length_nil, List.cons_append, List.nil_append, List.getElem?_cons_zero, List.getElem?_cons_succ, List.set_cons_zero, List.set_cons_succ, List.replicate, Nat.add_one_sub_one, Nat.sub_self, Nat.reduceSub, Nat.reduceAdd, Option.some.injEq, exists_eq_left', exists_eq_left, exists_and_left, true_and, and_true, D.bl.injEq, D.int.injEq, D.str.injEq, D.tup.injEq, D.ref.injEq, Ob.lst.injEq, List.cons.injEq, fTup, if_true, if_false, ite_true, ite_false, Bool.false_eq_true, Bool.true_eq_false, reduceIte, i5, i8, i10, uLc, vSeq, c_co, c_op, c_cl]
      intro p hp0
      refine to_lc (m := m) (by omega) rfl xs [] _ sup_same (by simp; omega) (fun x hx => ⟨by simp only [PlW] at hp; exact hp x hx, Nat.le_trans (txtL_len hx) (by omega)⟩) fun S' hS hp' => ?_
      refine ⟨[44], .ref p, xs.map fun x => .str (txt x), xs.map txt, rfl, rfl, ?_, ?_, ?_, ?_⟩
      · simp only [seqOf, hp']; simp
      · have : (xs.map fun x => D.str (txt x)) = (xs.map txt).map .str := by rw [List.map_map]; rfl
        rw [this]; exact strs_map
      · rw [List.length_map]; simp only [List.length_cons, List.length_nil]; omega
      · rw [join_txt]
        have z1 : [40].length + (txtL xs).length ≤ sizeLine := by rw [sizeLine_eq]; simp; omega
        have z2 : ([40] ++ txtL xs).length + [41].length ≤ sizeLine := by rw [sizeLine_eq]; simp; omega
        simp only [dAdd, z1, z2, if_true, Option.some.injEq, exists_eq_left', List.append_assoc]
        refine ⟨S, fun b o e => ?_, by simpa [txt] using q⟩
        have hb : b ≠ p := fun z => by rw [z, hp0] at e; cases e
        rw [hS b hb, sup_ne hb]; exact e
  | ref a => simp [PlW] at hp
  | exc _ _ _ _ => simp [PlW] at hp
  | kl _ => simp [PlW] at hp
def sp_write_value : FS := fun ds S Q X => ∃ v, ds = [v] ∧ PlW 20 v ∧ (txt v).length ≤ 1000000 ∧ Q (.str (txt v)) S
theorem ok_write_value {ds : List D} {S : SS} {Q : QN} {X : QX} (h : sp_write_value ds S Q X) : u_write_value K c sp_is_plain (sp_to 21) (bodyE Q X) (startE N_write_value ds) S := by
  obtain ⟨v, rfl, hp, hl, q⟩ := h
  unfold u_write_value
  simp only [dAdd, dAddI, dSub, dEq, dNe, dLt, dLe, dGt, dGe, dIs, SL.isNon, dNeg, fLen, lenD, isTy, mLstrip, seqOf, tru, tyOf, Option.map_some, String.reduceEq, usNil, usSeq, usSet, usExpr, usRet, usRetN, usIf, usBrk, usCnt, usAug, usAsg, usDPut, usRaise, usSub, uVar, uC, uBin, uChain, uUn, uTru, uTb, uAnd, uOr, uNot, uAndV, uOrV, uNotV, uIte, uNil, uCons, uTup, uLst, uNoPart, uPart, uSl, vSl, uFn, gP, uIsi, uBM, uBM0, gM, gAppend, gPop, uCall, uA0, uA1, gId, gApp, isSeq, isRng, isRng2, uDGet, bodyE, startE, ugName, List.map_cons, List.map_nil, List.length_cons, List.length_nil, List.cons_append, List.nil_append, List.getElem?_cons_zero, List.getElem?_cons_succ, List.set_cons_zero, List.set_cons_succ, List.replicate, Nat.add_one_sub_one, Nat.sub_self, Nat.reduceSub, Nat.reduceAdd, Option.some.injEq, exists_eq_left', exists_eq_left, exists_and_left, true_and, and_true, D.bl.injEq, D.int.injEq, D.str.injEq, D.tup.injEq, D.ref.injEq, Ob.lst.injEq, List.cons.injEq, fTup, if_true, if_false, ite_true, ite_false, Bool.false_eq_true, Bool.true_eq_false, reduceIte]
  refine ⟨v, rfl, hp, ?_⟩
  simp only [dAdd, dAddI, dSub, dEq, dNe, dLt, dLe, dGt, dGe, dIs, SL.isNon, dNeg, fLen, lenD, isTy, mLstrip, seqOf, tru, tyOf, Option.map_some, String.reduceEq, usNil, usSeq, usSet, usExpr, usRet, usRetN, usIf, usBrk, usCnt, usAug, usAsg, usDPut, usRaise, usSub, uVar, uC, uBin, uChain, uUn, uTru, uTb, uAnd, uOr, uNot, uAndV, uOrV, uNotV, uIte, uNil, uCons, uTup, uLst, uNoPart, uPart, uSl, vSl, uFn, gP, uIsi, uBM, uBM0, gM, gAppend, gPop, uCall, uA0, uA1, gId, gApp, isSeq, isRng, isRng2, uDGet, bodyE, startE, ugName, List.map_cons, List.map_nil, List.length_cons, List.length_nil, List.cons_append, List.nil_append, List.getElem?_cons_zero, List.getElem?_cons_succ, List.set_cons_zero, List.set_cons_succ, List.replicate, Nat.add_one_sub_one, Nat.sub_self, Nat.reduceSub, Nat.reduceAdd, Option.some.injEq, exists_eq_left', exists_eq_left, exists_and_left, true_and, and_true, D.bl.injEq, D.int.injEq, D.str.injEq, D.tup.injEq, D.ref.injEq, Ob.lst.injEq, List.cons.injEq, fTup, if_true, if_false, ite_true, ite_false, Bool.false_eq_true, Bool.true_eq_false, reduceIte, Bool.not_true]
  exact ⟨v, 20, by omega, rfl, hp, hl, S, Le.refl _, q⟩
end K00

set_option Elab.async false
set_option linter.all false
set_option maxRecDepth 100000
set_option maxHeartbeats 4000000
namespace K00
open PySem PySem.Spec L2 SL
variable {K : PySem.W.Frag} {c : Cs}
def mdS : Md → List Nat
  | .start => cs "start" | .opened => cs "opened" | .minus => cs "minus" | .figures => cs "figures" | .token => cs "token" | .ended => cs "ended"
theorem md_eq (m m' : Md) : (mdS m == mdS m') = decide (m = m') := by cases m <;> cases m' <;> decide +kernel
theorem m_start : cs "start" = mdS .start := rfl
theorem m_opened : cs "opened" = mdS .opened := rfl
theorem m_minus : cs "minus" = mdS .minus := rfl
theorem m_figures : cs "figures" = mdS .figures := rfl
theorem m_token : cs "token" = mdS .token := rfl
theorem m_ended : cs "ended" = mdS .ended := rfl
def eS (s : Stt) : D := .tup [.str (mdS s.md), .int (s.ct : Nat), .int (s.dp : Nat)]
def eO : Option Stt → D
  | some s => eS s
  | none => .non
theorem z3 : (3 : Nat) ≤ sizeLine := by rw [sizeLine_eq]; decide
theorem z2 : (2 : Nat) ≤ sizeLine := by rw [sizeLine_eq]; decide
theorem sgl {a b : Nat} : ([a] == [b]) = decide (a = b) := by rw [Bool.eq_iff_iff]; simp
def sp__law_first : FS := fun ds S Q X => ∃ a, ∃ dp : Nat, ds = [.str [a], .int (dp : Nat)] ∧ Q (eO (fst1 a dp)) S
theorem ok_law_first {ds : List D} {S : SS} {Q : QN} {X : QX} (h : sp__law_first ds S Q X) : u__law_first K c (bodyE Q X) (startE N__law_first ds) S := by
  obtain ⟨a, dp, rfl, q⟩ := h
  unfold fst1 at q
  unfold u__law_first
  simp only [dAdd, dAddI, dSub, dEq, dNe, dLt, dLe, dGt, dGe, dIs, SL.isNon, dNeg, fLen, lenD, isTy, mLstrip, seqOf, tru, tyOf, Option.map_some, String.reduceEq, usNil, usSeq, usSet, usExpr, usRet, usRetN, usIf, usBrk, usCnt, usAug, usAsg, usDPut, usRaise, usSub, uVar, uC, uBin, uChain, uUn, uTru, uTb, uAnd, uOr, uNot, uAndV, uOrV, uNotV, uIte, uNil, uCons, uTup, uLst, uNoPart, uPart, uSl, vSl, uFn, gP, uIsi, uBM, uBM0, gM, gAppend, gPop, uCall, uA0, uA1, gId, gApp, isSeq, isRng, isRng2, uDGet, bodyE, startE, ugName, List.map_cons, List.map_nil, List.length_cons, List.length_nil, List.cons_append, List.nil_append, List.getElem?_cons_zero, List.getElem?_cons_succ, List.set_cons_zero, List.set_cons_succ, List.replicate, Nat.add_one_sub_one, Nat.sub_self, Nat.reduceSub, Nat.reduceAdd, Option.some.injEq, exists_eq_left', exists_eq_left, exists_and_left, true_and, and_true, D.bl.injEq, D.int.injEq, D.str.injEq, D.tup.injEq, D.ref.injEq, Ob.lst.injEq, List.cons.injEq, fTup, if_true, if_false, ite_true, ite_false, Bool.false_eq_true, Bool.true_eq_false, reduceIte, c_op, c_min, sgl, dIn1, z3, m_start, m_opened, m_minus, m_figures, m_token, m_ended, decide_eq_true_eq]
  have e_ : ∀ {d : D}, d = eO (if a = 40 then (if dp < 20 then some ⟨.opened, 0, dp + 1⟩ else none) else if a = 45 then some ⟨.minus, 0, dp⟩ else if a ∈ cs "0NTF" then some ⟨.ended, 0, dp⟩ else if a ∈ FI1 then some ⟨.figures, 1, dp⟩ else if a ∈ LOW then some ⟨.token, 1, dp⟩ else none) → ∃ S', Le S' S ∧ Q d S' := fun {d} e => ⟨S, Le.refl _, by rw [e]; exact q⟩
  by_cases h1 : a = 40
  · rw [if_pos h1]
    by_cases h2 : dp < 20
    · rw [if_pos (by omega)]; exact e_ (by rw [if_pos h1, if_pos h2]; rfl)
    · rw [if_neg (by omega)]; exact e_ (by rw [if_pos h1, if_neg h2]; rfl)
  · rw [if_neg h1]
    by_cases h2 : a = 45
    · rw [if_pos h2]; exact e_ (by rw [if_neg h1, if_pos h2]; rfl)
    · rw [if_neg h2]
      by_cases h3 : a ∈ cs "0NTF"
      · rw [if_pos h3]; exact e_ (by rw [if_neg h1, if_neg h2, if_pos h3]; rfl)
      · rw [if_neg h3]
        by_cases h4 : a ∈ FI1
        · rw [if_pos h4]; exact e_ (by rw [if_neg h1, if_neg h2, if_neg h3, if_pos h4]; rfl)
        · rw [if_neg h4]
          by_cases h5 : a ∈ LOW
          · rw [if_pos h5]; exact e_ (by rw [if_neg h1, if_neg h2, if_neg h3, if_neg h4, if_pos h5]; rfl)
          · rw [if_neg h5]; exact e_ (by rw [if_neg h1, if_neg h2, if_neg h3, if_neg h4, if_neg h5]; rfl)
def sp__law_step : FS := fun ds S Q X => ∃ s a, ds = [eS s, .str [a]] ∧ Q (eO (stp s a)) S
theorem ok_law_step {ds : List D} {S : SS} {Q : QN} {X : QX} (h : sp__law_step ds S Q X) : u__law_step K c sp__law_first (bodyE Q X) (startE N__law_step ds) S := by
  obtain ⟨⟨md, ct, dp⟩, a, rfl, q⟩ := h
  have i0 : L2.atI [D.str (mdS md), .int (ct : Nat), .int (dp : Nat)] 0 = some (.str (mdS md)) := rfl
  have i1 : L2.atI [D.str (mdS md), .int (ct : Nat), .int (dp : Nat)] 1 = some (.int (ct : Nat)) := rfl
  have i2 : L2.atI [D.str (mdS md), .int (ct : Nat), .int (dp : Nat)] 2 = some (.int (dp : Nat)) := rfl
  unfold u__law_step
  have e_ : ∀ {d : D}, d = eO (stp ⟨md, ct, dp⟩ a) → ∃ S', Le S' S ∧ Q d S' := fun {d} e => ⟨S, Le.refl _, by rw [e]; exact q⟩
  simp only [dAdd, dAddI, dSub, dEq, dNe, dLt, dLe, dGt, dGe, dIs, SL.isNon, dNeg, fLen, lenD, isTy, mLstrip, seqOf, tru, tyOf, Option.map_some, String.reduceEq, usNil, usSeq, usSet, usExpr, usRet, usRetN, usIf, usBrk, usCnt, usAug, usAsg, usDPut, usRaise, usSub, uVar, uC, uBin, uChain, uUn, uTru, uTb, uAnd, uOr, uNot, uAndV, uOrV, uNotV, uIte, uNil, uCons, uTup, uLst, uNoPart, uPart, uSl, vSl, uFn, gP, uIsi, uBM, uBM0, gM, gAppend, gPop, uCall, uA0, uA1, gId, gApp, isSeq, isRng, isRng2, uDGet, bodyE, startE, ugName, List.map_cons, List.map_nil, List.length_cons, List.length_nil, List.cons_append, List.nil_append, List.getElem?_cons_zero, List.getElem?_cons_succ, List.set_cons_zero, List.set_cons_succ, List.replicate, Nat.add_one_sub_one, Nat.sub_self, Nat.reduceSub, Nat.reduceAdd, Option.some.injEq, exists_eq_left', exists_eq_left, exists_and_left, true_and, and_true, D.bl.injEq, D.int.injEq, D.str.injEq, D.tup.injEq, D.ref.injEq, Ob.lst.injEq, List.cons.injEq, fTup, if_true, if_false, ite_true, ite_false, Bool.false_eq_true, Bool.true_eq_false, reduceIte, eS, dIx, i0, i1, i2, m_start, m_opened, m_minus, m_figures, m_token, m_ended, md_eq, c_cl, c_co, sgl, dIn1, z3, decide_eq_true_eq, Bool.not_eq_true', decide_eq_false_iff_not]
  have tail : ∀ (hs : stp ⟨md, ct, dp⟩ a = aft dp a), (if ((dp : Int) == 0) = true then ∃ S', Le S' S ∧ Q .non S' else if a = 41 then ∃ S', Le S' S ∧ Q (.tup [.str (mdS .ended), .int 0, .int ((dp : Int) - 1)]) S' else if a = 44 then ∃ S', Le S' S ∧ Q (.tup [.str (mdS .start), .int 0, .int (dp : Int)]) S' else ∃ S', Le S' S ∧ Q .non S') := fun hs => by
    unfold aft at hs
    by_cases h1 : dp = 0
    · rw [if_pos h1] at hs
      rw [if_pos (by rw [beq_iff_eq]; omega)]; exact e_ (by rw [hs]; rfl)
    · rw [if_neg h1] at hs
      rw [if_neg (by rw [beq_iff_eq]; omega)]
      by_cases h2 : a = 41
      · rw [if_pos h2] at hs ⊢
        refine e_ (by rw [hs]; simp only [eO, eS]; congr 5; omega)
      · rw [if_neg h2] at hs ⊢
        by_cases h3 : a = 44
        · rw [if_pos h3] at hs ⊢; exact e_ (by rw [hs]; rfl)
        · rw [if_neg h3] at hs ⊢; exact e_ (by rw [hs]; rfl)
  cases md
  · simp only [reduceCtorEq, if_true, if_false]
    exact ⟨a, dp, rfl, e_ (by simp [stp])⟩
  · simp only [reduceCtorEq, if_true, if_false]
    by_cases h : a = 41
    · rw [if_neg (not_not_intro h)]
      exact tail (by simp [stp, aft, h])
    · rw [if_pos h]
      exact ⟨a, dp, rfl, e_ (by simp [stp, h])⟩
  · simp only [reduceCtorEq, if_true, if_false]
    by_cases h : a ∈ FI1
    · rw [if_pos h]; exact e_ (by simp [stp, h, eO, eS])
    · rw [if_neg h]; exact e_ (by simp [stp, h, eO, eS])
  · simp only [reduceCtorEq, if_true, if_false]
    by_cases h : a ∈ FIG
    · rw [if_pos h]
      by_cases h2 : ct < 12
      · rw [if_pos (by omega)]; exact e_ (by simp [stp, h, h2, eO, eS])
      · rw [if_neg (by omega)]; exact e_ (by simp [stp, h, h2, eO, eS])
    · rw [if_neg h]; exact tail (by simp [stp, aft, h])
  · simp only [reduceCtorEq, if_true, if_false]
    by_cases h : a ∈ TOK
    · rw [if_pos h]
      by_cases h2 : ct < 12
      · rw [if_pos (by omega)]; exact e_ (by simp [stp, h, h2, eO, eS])
      · rw [if_neg (by omega)]; exact e_ (by simp [stp, h, h2, eO, eS])
    · rw [if_neg h]; exact tail (by simp [stp, aft, h])
  · simp only [reduceCtorEq, if_true, if_false]
    exact tail (by simp [stp, aft])
def sp__law_whole : FS := fun ds S Q X => ∃ s, ds = [eS s] ∧ Q (.bl (decide (whole s))) S
theorem ok_law_whole {ds : List D} {S : SS} {Q : QN} {X : QX} (h : sp__law_whole ds S Q X) : u__law_whole K c (bodyE Q X) (startE N__law_whole ds) S := by
  obtain ⟨⟨md, ct, dp⟩, rfl, q⟩ := h
  have i0 : L2.atI [D.str (mdS md), .int (ct : Nat), .int (dp : Nat)] 0 = some (.str (mdS md)) := rfl
  have i2 : L2.atI [D.str (mdS md), .int (ct : Nat), .int (dp : Nat)] 2 = some (.int (dp : Nat)) := rfl
  have et : ∀ x y z w : List Nat, dIn1 S (.str x) (.tup [.str y, .str z, .str w]) = some (.bl ((x == y) || ((x == z) || (x == w)))) := fun x y z w => by
    simp [dIn1, scV, deq]
    rw [Bool.beq_comm (a := y), Bool.beq_comm (a := z), Bool.beq_comm (a := w)]
  unfold u__law_whole
  simp only [dAdd, dAddI, dSub, dEq, dNe, dLt, dLe, dGt, dGe, dIs, SL.isNon, dNeg, fLen, lenD, isTy, mLstrip, seqOf, tru, tyOf, Option.map_some, String.reduceEq, usNil, usSeq, usSet, usExpr, usRet, usRetN, usIf, usBrk, usCnt, usAug, usAsg, usDPut, usRaise, usSub, uVar, uC, uBin, uChain, uUn, uTru, uTb, uAnd, uOr, uNot, uAndV, uOrV, uNotV, uIte, uNil, uCons, uTup, uLst, uNoPart, uPart, uSl, vSl, uFn, gP, uIsi, uBM, uBM0, gM, gAppend, gPop, uCall, uA0, uA1, gId, gApp, isSeq, isRng, isRng2, uDGet, bodyE, startE, ugName, List.map_cons, List.map_nil, List.length_cons, List.length_nil, List.cons_append, List.nil_append, List.getElem?_cons_zero, List.getElem?_cons_succ, List.set_cons_zero, List.set_cons_succ, List.replicate, Nat.add_one_sub_one, Nat.sub_self, Nat.reduceSub, Nat.reduceAdd, Option.some.injEq, exists_eq_left', exists_eq_left, exists_and_left, true_and, and_true, D.bl.injEq, D.int.injEq, D.str.injEq, D.tup.injEq, D.ref.injEq, Ob.lst.injEq, List.cons.injEq, fTup, if_true, if_false, ite_true, ite_false, Bool.false_eq_true, Bool.true_eq_false, reduceIte, eS, dIx, i0, i2, m_ended, m_figures, m_token, et, md_eq, z3]
  have e_ : ∀ {b : Bool}, b = decide (whole ⟨md, ct, dp⟩) → ∃ S', Le S' S ∧ Q (.bl b) S' := fun {b} e => ⟨S, Le.refl _, by rw [e]; exact q⟩
  by_cases h : dp = 0
  · rw [if_pos (by rw [beq_iff_eq]; omega)]
    exact e_ (by simp [whole, h, Bool.decide_or])
  · rw [if_neg (by rw [beq_iff_eq]; omega)]
    have : ((dp : Int) == 0) = false := by rw [beq_eq_false_iff_ne]; omega
    rw [this]
    exact e_ (by simp [whole, h])

/-! ### _law_same -/
def EzW : Nat → D → Prop
  | _, .non => True
  | _, .bl _ => True
  | _, .int _ => True
  | _, .str _ => True
  | n + 1, .tup xs => ∀ x ∈ xs, EzW n x
  | _, _ => False
theorem PlW.ez : ∀ {n : Nat} {d : D}, PlW n d → EzW n d := by
  intro n
  induction n with
  | zero => intro d h; cases d <;> simp_all [PlW, EzW]
  | succ n ih => intro d h; cases d <;> simp_all [PlW, EzW]
def sp_ls (n : Nat) : FS := fun ds S Q X => ∃ v, ∃ m : Nat, m < n ∧ ds = [v, v] ∧ EzW m v ∧ (txt v).length ≤ 1000000 ∧ Q (.bl true) S
theorem ls_for {n m : Nat} {xs : List D} {Z : EndsS} {S : SS} (hm : m < n) (hx : ∀ x ∈ xs, EzW m x ∧ (txt x).length ≤ 1000000) : ∀ (j : Nat) (e2 : Option D), j ≤ xs.length → (∀ e2', Z.nx [some (.tup xs), some (.tup xs), e2'] S) →
    forL (ugName 2) (usIf (uNot (uTru (uCall (sp_ls n) gId (uA1 2 (uCons (uBin dIx (uVar 0) (uVar 2)) (uCons (uBin dIx (uVar 1) (uVar 2)) uNil)))))) (usRet (uC (.bl false))) usNil) (fun _ => True) Z ((irng 0 xs.length).drop (xs.length - j)) [some (.tup xs), some (.tup xs), e2] S
  | 0, e2, _, k => by
    have : (irng 0 xs.length).drop (xs.length - 0) = [] := by unfold irng; rw [List.drop_eq_nil_iff]; simp
    rw [this]
    exact ⟨trivial, k e2⟩
  | j + 1, e2, hj, k => by
    have e : (irng 0 xs.length).drop (xs.length - (j + 1)) = .int ((xs.length - (j + 1) : Nat) : Int) :: (irng 0 xs.length).drop (xs.length - j) := by
      have hl : xs.length - (j + 1) < (irng 0 xs.length).length := by simp [irng]; omega
      rw [List.drop_eq_getElem_cons hl]
      congr 1
      · simp [irng]
      · congr 1; omega
    rw [e]
    obtain ⟨x, hxx⟩ : ∃ x, xs[xs.length - (j + 1)]? = some x := ⟨_, List.getElem?_eq_getElem (by omega)⟩
    refine ⟨trivial, ?_⟩
    simp only [dAdd, dAddI, dSub, dEq, dNe, dLt, dLe, dGt, dGe, dIs, SL.isNon, dNeg, fLen, lenD, isTy, mLstrip, seqOf, tru, tyOf, Option.map_some, String.reduceEq, usNil, usSeq, usSet, usExpr, usRet, usRetN, usIf, usBrk, usCnt, usAug, usAsg, usDPut, usRaise, usSub, uVar, uC, uBin, uChain, uUn, uTru, uTb, uAnd, uOr, uNot, uAndV, uOrV, uNotV, uIte, uNil, uCons, uTup, uLst, uNoPart, uPart, uSl, vSl, uFn, gP, uIsi, uBM, uBM0, gM, gAppend, gPop, uCall, uA0, uA1, gId, gApp, isSeq, isRng, isRng2, uDGet, bodyE, startE, ugName, List.map_cons, List.map_nil, List.length_cons, List.length_nil, List.cons_append, List.nil_append, List.getElem?_cons_zero, List.getElem?_cons_succ, List.set_cons_zero, List.set_cons_succ, List.replicate, Nat.add_one_sub_one, Nat.sub_self, Nat.reduceSub, Nat.reduceAdd, Option.some.injEq, exists_eq_left', exists_eq_left, exists_and_left, true_and, and_true, D.bl.injEq, D.int.injEq, D.str.injEq, D.tup.injEq, D.ref.injEq, Ob.lst.injEq, List.cons.injEq, fTup, if_true, if_false, ite_true, ite_false, Bool.false_eq_true, Bool.true_eq_false, reduceIte, dIx, SL.atI_nat, hxx]
    have hmem : x ∈ xs := List.mem_of_getElem? hxx
    refine ⟨x, m, hm, rfl, (hx x hmem).1, (hx x hmem).2, ?_⟩
    simp only [dAdd, dAddI, dSub, dEq, dNe, dLt, dLe, dGt, dGe, dIs, SL.isNon, dNeg, fLen, lenD, isTy, mLstrip, seqOf, tru, tyOf, Option.map_some, String.reduceEq, usNil, usSeq, usSet, usExpr, usRet, usRetN, usIf, usBrk, usCnt, usAug, usAsg, usDPut, usRaise, usSub, uVar, uC, uBin, uChain, uUn, uTru, uTb, uAnd, uOr, uNot, uAndV, uOrV, uNotV, uIte, uNil, uCons, uTup, uLst, uNoPart, uPart, uSl, vSl, uFn, gP, uIsi, uBM, uBM0, gM, gAppend, gPop, uCall, uA0, uA1, gId, gApp, isSeq, isRng, isRng2, uDGet, bodyE, startE, ugName, List.map_cons, List.map_nil, List.length_cons, List.length_nil, List.cons_append, List.nil_append, List.getElem?_cons_zero, List.getElem?_cons_succ, List.set_cons_zero, List.set_cons_succ, List.replicate, Nat.add_one_sub_one, Nat.sub_self, Nat.reduceSub, Nat.reduceAdd, Option.some.injEq, exists_eq_left', exists_eq_left, exists_and_left, true_and, and_true, D.bl.injEq, D.int.injEq, D.str.injEq, D.tup.injEq, D.ref.injEq, Ob.lst.injEq, List.cons.injEq, fTup, if_true, if_false, ite_true, ite_false, Bool.false_eq_true, Bool.true_eq_false, reduceIte, Bool.not_true]
    exact ls_for hm hx j _ (by omega) k
theorem ok_ls {n : Nat} {ds : List D} {S : SS} {Q : QN} {X : QX} (h : sp_ls (n + 1) ds S Q X) : u__law_same K c (sp_ls n) (bodyE Q X) (startE N__law_same ds) S := by
  obtain ⟨v, m, hm, rfl, hp, hl, q⟩ := h
  have j1 : ["tuple"].any (isT "NoneType") = false := by decide
  have j2 : ["tuple"].any (isT "bool") = false := by decide
  have j3 : ["tuple"].any (isT "int") = false := by decide
  have j4 : ["tuple"].any (isT "str") = false := by decide
  have j5 : ["tuple"].any (isT "tuple") = true := by decide
  have i6 : ["int"].any (isT "int") = true := by decide
  have i3 : ["bool"].any (isT "int") = false := by decide
  have i7 : ["int"].any (isT "str") = false := by decide
  have i9 : ["str"].any (isT "str") = true := by decide
  have e_ : ∃ S', Le S' S ∧ Q (.bl true) S' := ⟨S, Le.refl _, q⟩
  unfold u__law_same
  cases v with
  | non => simp only [dAdd, dAddI, dSub, dEq, dNe, dLt, dLe, dGt, dGe, dIs, SL.isNon, dNeg, fLen, lenD, isTy, mLstrip, seqOf, tru, tyOf, Option.map_some, String.reduceEq, usNil, usSeq, usSet, usExpr, usRet, usRetN, usIf, usBrk, usCnt, usAug, usAsg, usDPut, usRaise, usSub, uVar, uC, uBin, uChain, uUn, uTru, uTb, uAnd, uOr, uNot, uAndV, uOrV, uNotV, uIte, uNil, uCons, uTup, uLst, uNoPart, uPart, uSl, vSl, uFn, gP, uIsi, uBM, uBM0, gM, gAppend, gPop, uCall, uA0, uA1, gId, gApp, isSeq, isRng, isRng2, uDGet, bodyE, startE, ugName, List.map_cons, List.map_nil, List.length_cons, List.length_nil, List.cons_append, List.nil_append, List.getElem?_cons_zero, List.getElem?_cons_succ, List.set_cons_zero, List.set_cons_succ, List.replicate, Nat.add_one_sub_one, Nat.sub_self, Nat.reduceSub, Nat.reduceAdd, Option.some.injEq, exists_eq_left', exists_eq_left, exists_and_left, true_and, and_true, D.bl.injEq, D.int.injEq, D.str.injEq, D.tup.injEq, D.ref.injEq, Ob.lst.injEq, List.cons.injEq, fTup, if_true, if_false, ite_true, ite_false, Bool.false_eq_true, Bool.true_eq_false, reduceIte, j1]; exact e_
  | bl b => cases b <;> (simp only [dAdd, dAddI, dSub, dEq, dNe, dLt, dLe, dGt, dGe, dIs, SL.isNon, dNeg, fLen, lenD, isTy, mLstrip, seqOf, tru, tyOf, Option.map_some, String.reduceEq, usNil, usSeq, usSet, usExpr, usRet, usRetN, usIf, usBrk, usCnt, usAug, usAsg, usDPut, usRaise, usSub, uVar, uC, uBin, uChain, uUn, uTru, uTb, uAnd, uOr, uNot, uAndV, uOrV, uNotV, uIte, uNil, uCons, uTup, uLst, uNoPart, uPart, uSl, vSl, uFn, gP, uIsi, uBM, uBM0, gM, gAppend, gPop, uCall, uA0, uA1, gId, gApp, isSeq, isRng, isRng2, uDGet, bodyE, startE, ugName, List.map_cons, List.map_nil, List.length_cons, List.length_nil, List.cons_append, List.nil_append, List.getElem?_cons_zero, List.getElem?_cons_succ, List.set_cons_zero, List.set_cons_succ, List.replicate, Nat.add_one_sub_one, Nat.sub_self, Nat.reduceSub, Nat.reduceAdd, Option.some.injEq, exists_eq_left', exists_eq_left, exists_and_left, true_and, and_true, D.bl.injEq, D.int.injEq, D.str.injEq, D.tup.injEq, D.ref.injEq, Ob.lst.injEq, List.cons.injEq, fTup, if_true, if_false, ite_true, ite_false, Bool.false_eq_true, Bool.true_eq_false, reduceIte, j2, beq_self_eq_true]; exact e_)
  | int i => simp only [dAdd, dAddI, dSub, dEq, dNe, dLt, dLe, dGt, dGe, dIs, SL.isNon, dNeg, fLen, lenD, isTy, mLstrip, seqOf, tru, tyOf, Option.map_some, String.reduceEq, usNil, usSeq, usSet, usExpr, usRet, usRetN, usIf, usBrk, usCnt, usAug, usAsg, usDPut, usRaise, usSub, uVar, uC, uBin, uChain, uUn, uTru, uTb, uAnd, uOr, uNot, uAndV, uOrV, uNotV, uIte, uNil, uCons, uTup, uLst, uNoPart, uPart, uSl, vSl, uFn, gP, uIsi, uBM, uBM0, gM, gAppend, gPop, uCall, uA0, uA1, gId, gApp, isSeq, isRng, isRng2, uDGet, bodyE, startE, ugName, List.map_cons, List.map_nil, List.length_cons, List.length_nil, List.cons_append, List.nil_append, List.getElem?_cons_zero, List.getElem?_cons_succ, List.set_cons_zero, List.set_cons_succ, List.replicate, Nat.add_one_sub_one, Nat.sub_self, Nat.reduceSub, Nat.reduceAdd, Option.some.injEq, exists_eq_left', exists_eq_left, exists_and_left, true_and, and_true, D.bl.injEq, D.int.injEq, D.str.injEq, D.tup.injEq, D.ref.injEq, Ob.lst.injEq, List.cons.injEq, fTup, if_true, if_false, ite_true, ite_false, Bool.false_eq_true, Bool.true_eq_false, reduceIte, j3, i6, i3, Bool.not_false, beq_self_eq_true]; exact e_
  | str x => simp only [dAdd, dAddI, dSub, dEq, dNe, dLt, dLe, dGt, dGe, dIs, SL.isNon, dNeg, fLen, lenD, isTy, mLstrip, seqOf, tru, tyOf, Option.map_some, String.reduceEq, usNil, usSeq, usSet, usExpr, usRet, usRetN, usIf, usBrk, usCnt, usAug, usAsg, usDPut, usRaise, usSub, uVar, uC, uBin, uChain, uUn, uTru, uTb, uAnd, uOr, uNot, uAndV, uOrV, uNotV, uIte, uNil, uCons, uTup, uLst, uNoPart, uPart, uSl, vSl, uFn, gP, uIsi, uBM, uBM0, gM, gAppend, gPop, uCall, uA0, uA1, gId, gApp, isSeq, isRng, isRng2, uDGet, bodyE, startE, ugName, List.map_cons, List.map_nil, List.length_cons, List.length_nil, List.cons_append, List.nil_append, List.getElem?_cons_zero, List.getElem?_cons_succ, List.set_cons_zero, List.set_cons_succ, List.replicate, Nat.add_one_sub_one, Nat.sub_self, Nat.reduceSub, Nat.reduceAdd, Option.some.injEq, exists_eq_left', exists_eq_left, exists_and_left, true_and, and_true, D.bl.injEq, D.int.injEq, D.str.injEq, D.tup.injEq, D.ref.injEq, Ob.lst.injEq, List.cons.injEq, fTup, if_true, if_false, ite_true, ite_false, Bool.false_eq_true, Bool.true_eq_false, reduceIte, j4, i7, i9, beq_self_eq_true]; exact e_
  | tup xs =>
    cases m with
    | zero => simp [EzW] at hp
    | succ m =>
      have hl2 : (txtL xs).length + 2 ≤ 1000000 := by rw [txt] at hl; simp at hl; omega
      have hsum := txtL_sum (xs := xs)
      simp only [dAdd, dAddI, dSub, dEq, dNe, dLt, dLe, dGt, dGe, dIs, SL.isNon, dNeg, fLen, lenD, isTy, mLstrip, seqOf, tru, tyOf, Option.map_some, String.reduceEq, usNil, usSeq, usSet, usExpr, usRet, usRetN, usIf, usBrk, usCnt, usAug, usAsg, usDPut, usRaise, usSub, uVar, uC, uBin, uChain, uUn, uTru, uTb, uAnd, uOr, uNot, uAndV, uOrV, uNotV, uIte, uNil, uCons, uTup, uLst, uNoPart, uPart, uSl, vSl, uFn, gP, uIsi, uBM, uBM0, gM, gAppend, gPop, uCall, uA0, uA1, gId, gApp, isSeq, isRng, isRng2, uDGet, bodyE, startE, ugName, List.map_cons, List.map_nil, List.length_cons, List.length_nil, List.cons_append, List.nil_append, List.getElem?_cons_zero, List.getElem?_cons_succ, List.set_cons_zero, List.set_cons_succ, List.replicate, Nat.add_one_sub_one, Nat.sub_self, Nat.reduceSub, Nat.reduceAdd, Option.some.injEq, exists_eq_left', exists_eq_left, exists_and_left, true_and, and_true, D.bl.injEq, D.int.injEq, D.str.injEq, D.tup.injEq, D.ref.injEq, Ob.lst.injEq, List.cons.injEq, fTup, if_true, if_false, ite_true, ite_false, Bool.false_eq_true, Bool.true_eq_false, reduceIte, j5, Bool.not_true, beq_self_eq_true, usFor]
      refine ⟨by omega, by omega, ?_⟩
      have := ls_for (n := n) (m := m) (xs := xs) (Z := { bodyE Q X with nx := fun env S => ∃ S', Le S' S ∧ Q (.bl true) S' }) (S := S) (by omega) (fun x hx => ⟨by simp only [EzW] at hp; exact hp x hx, Nat.le_trans (txtL_len hx) (by omega)⟩) xs.length none (Nat.le_refl _) (fun _ => e_)
      rw [Nat.sub_self, List.drop_zero] at this
      exact this
  | ref a => simp [EzW] at hp
  | exc _ _ _ _ => simp [EzW] at hp
  | kl _ => simp [EzW] at hp
end K00

set_option Elab.async false
set_option linter.all false
set_option maxRecDepth 100000
set_option maxHeartbeats 4000000
namespace K00
open PySem PySem.Spec L2 SL
variable {K : PySem.W.Frag} {c : Cs}
theorem numL_mem {n : Nat} : ∀ a ∈ TL.numL n, 48 ≤ a ∧ a ≤ 57 := TL.numL_digits n
theorem dig_cases (i : Int) : (∃ n : Nat, i = n ∧ dig i = TL.numL n) ∨ (∃ n : Nat, 0 < n ∧ i = -(n : Int) ∧ dig i = 45 :: TL.numL n) := by
  rcases Int.lt_or_le i 0 with h | h
  · right
    refine ⟨i.natAbs, by omega, by omega, ?_⟩
    have e : i = -((i.natAbs : Nat) : Int) := by omega
    rw [e, dig_neg (by omega)]; simp
  · left
    refine ⟨i.toNat, by omega, ?_⟩
    have e : i = ((i.toNat : Nat) : Int) := by omega
    have h2 := dig_nat i.toNat
    rwa [← e] at h2
theorem dig_len {i : Int} (h : PlW 0 (.int i)) : (dig i).length ≤ 13 := by
  simp only [PlW] at h
  rcases dig_cases i with ⟨n, e, d⟩ | ⟨n, h0, e, d⟩
  · rw [d]; have := TL.numL_len (n := n) (k := 12) (by decide) (by omega); omega
  · rw [d, List.length_cons]; have := TL.numL_len (n := n) (k := 12) (by decide) (by omega); omega
theorem int_back {i : Int} (h : PlW 0 (.int i)) : PySem.intText? (tx (dig i)) = some i := by
  have hl := dig_len h
  rcases dig_cases i with ⟨n, e, d⟩ | ⟨n, h0, e, d⟩
  · rw [d] at hl ⊢
    have := intText_digits (x := tx (TL.numL n)) (by rw [tx_cps]; exact TL.numL_digits n) (by rw [tx_cps]; exact TL.numL_ne n) (by rw [tx_len]; omega)
    rw [this, tx_cps, TL.numL_val, e]
  · rw [d] at hl ⊢
    have := intText_neg (x := tx (45 :: TL.numL n)) (cs := TL.numL n) (by rw [tx_cps]) (TL.numL_digits n) (TL.numL_ne n) (by rw [tx_len]; omega)
    rw [this, TL.numL_val, e]
theorem dig_head (i : Int) : ∃ a r, dig i = a :: r ∧ (a = 45 ∨ (48 ≤ a ∧ a ≤ 57)) := by
  rcases dig_cases i with ⟨n, e, d⟩ | ⟨n, h0, e, d⟩
  · cases hn : TL.numL n with
    | nil => exact absurd hn (TL.numL_ne n)
    | cons a r => exact ⟨a, r, by rw [d, hn], .inr (numL_mem a (by rw [hn]; exact List.mem_cons_self ..))⟩
  · exact ⟨45, _, d, .inl rfl⟩
theorem dig_mem {i : Int} : ∀ a ∈ dig i, a = 45 ∨ (48 ≤ a ∧ a ≤ 57) := fun a ha => by
  rcases dig_cases i with ⟨n, e, d⟩ | ⟨n, h0, e, d⟩
  · rw [d] at ha; exact .inr (numL_mem a ha)
  · rw [d] at ha
    rcases List.mem_cons.mp ha with z | z
    · exact .inl z
    · exact .inr (numL_mem a z)
/-- an atom -/
def Atm : D → Prop
  | .non => True | .bl _ => True | .int _ => True | .str _ => True
  | _ => False
theorem atm_len {v : D} (ha : Atm v) (hp : PlW 0 v) : (txt v).length ≤ 13 ∧ txt v ≠ [] := by
  cases v with
  | non => exact ⟨by simp [txt], by simp [txt]⟩
  | bl b => cases b <;> simp [txt]
  | int i =>
    obtain ⟨a, r, e, _⟩ := dig_head i
    exact ⟨dig_len hp, by rw [txt, e]; simp⟩
  | str x => obtain ⟨a, r, e, _, _, h⟩ := hp; exact ⟨by rw [txt]; omega, by rw [txt, e]; simp⟩
  | _ => cases ha
theorem atm_mem {v : D} (ha : Atm v) (hp : PlW 0 v) : ∀ a ∈ txt v, a ≠ 40 ∧ a ≠ 41 ∧ a ≠ 44 := by
  intro a hm
  cases v with
  | non => simp [txt] at hm; omega
  | bl b => cases b <;> (simp [txt] at hm; omega)
  | int i => rw [txt] at hm; have := dig_mem a hm; omega
  | str x =>
    obtain ⟨b, r, e, h1, h2, h⟩ := hp
    rw [txt, e] at hm
    rcases List.mem_cons.mp hm with z | z
    · have := low_iff.mp h1; omega
    · have := tok_iff.mp (h2 a z); omega
  | _ => cases ha
theorem mdf_iff {a : Nat} : a ∈ cs "-0123456789" ↔ a = 45 ∨ (48 ≤ a ∧ a ≤ 57) := by
  have e : cs "-0123456789" = 45 :: FIG := by decide +kernel
  rw [e, List.mem_cons, fig_iff]
def sp__law_atom_value : FS := fun ds S Q X => ∃ v, ds = [.str (txt v)] ∧ Atm v ∧ PlW 0 v ∧ Q v S
theorem ok_law_atom_value {ds : List D} {S : SS} {Q : QN} {X : QX} (h : sp__law_atom_value ds S Q X) : u__law_atom_value K c (bodyE Q X) (startE N__law_atom_value ds) S := by
  obtain ⟨v, rfl, ha, hp, q⟩ := h
  have hlen := atm_len ha hp
  have hz : (txt v).length ≤ sizeLine := szl (by omega)
  have e_ : ∃ S', Le S' S ∧ Q v S' := ⟨S, Le.refl _, q⟩
  unfold u__law_atom_value
  simp only [dAdd, dAddI, dSub, dEq, dNe, dLt, dLe, dGt, dGe, dIs, SL.isNon, dNeg, fLen, lenD, isTy, mLstrip, seqOf, tru, tyOf, Option.map_some, String.reduceEq, usNil, usSeq, usSet, usExpr, usRet, usRetN, usIf, usBrk, usCnt, usAug, usAsg, usDPut, usRaise, usSub, uVar, uC, uBin, uChain, uUn, uTru, uTb, uAnd, uOr, uNot, uAndV, uOrV, uNotV, uIte, uNil, uCons, uTup, uLst, uNoPart, uPart, uSl, vSl, uFn, gP, uIsi, uBM, uBM0, gM, gAppend, gPop, uCall, uA0, uA1, gId, gApp, isSeq, isRng, isRng2, uDGet, bodyE, startE, ugName, List.map_cons, List.map_nil, List.length_cons, List.length_nil, List.cons_append, List.nil_append, List.getElem?_cons_zero, List.getElem?_cons_succ, List.set_cons_zero, List.set_cons_succ, List.replicate, Nat.add_one_sub_one, Nat.sub_self, Nat.reduceSub, Nat.reduceAdd, Option.some.injEq, exists_eq_left', exists_eq_left, exists_and_left, true_and, and_true, D.bl.injEq, D.int.injEq, D.str.injEq, D.tup.injEq, D.ref.injEq, Ob.lst.injEq, List.cons.injEq, fTup, if_true, if_false, ite_true, ite_false, Bool.false_eq_true, Bool.true_eq_false, reduceIte, c_N, c_T, c_F, beq_iff_eq, hz, dIx]
  cases v with
  | non => rw [if_pos (show txt .non = [78] from rfl)]; exact e_
  | bl b =>
    cases b
    · rw [if_neg (by decide), if_neg (by decide), if_pos (show txt (.bl false) = [70] from rfl)]; exact e_
    · rw [if_neg (by decide), if_pos (show txt (.bl true) = [84] from rfl)]; exact e_
  | int i =>
    obtain ⟨a, r, e, h1⟩ := dig_head i
    have hne : ∀ b, (b = 78 ∨ b = 84 ∨ b = 70) → txt (.int i) ≠ [b] := fun b hb z => by
      rw [txt, e] at z; injection z with z1 z2; omega
    rw [if_neg (hne 78 (by omega)), if_neg (hne 84 (by omega)), if_neg (hne 70 (by omega))]
    have ei : L2.atI (txt (.int i)) 0 = some a := by
      have := SL.atI_nat (xs := txt (.int i)) (n := 0)
      rw [show ((0 : Nat) : Int) = 0 from rfl] at this
      rw [this, txt, e]; rfl
    have hl : (txt (.int i)).length ≤ 640 := by omega
    have hb : PySem.intText? (tx (txt (.int i))) = some i := int_back hp
    simp only [ei, dAdd, dAddI, dSub, dEq, dNe, dLt, dLe, dGt, dGe, dIs, SL.isNon, dNeg, fLen, lenD, isTy, mLstrip, seqOf, tru, tyOf, Option.map_some, String.reduceEq, usNil, usSeq, usSet, usExpr, usRet, usRetN, usIf, usBrk, usCnt, usAug, usAsg, usDPut, usRaise, usSub, uVar, uC, uBin, uChain, uUn, uTru, uTb, uAnd, uOr, uNot, uAndV, uOrV, uNotV, uIte, uNil, uCons, uTup, uLst, uNoPart, uPart, uSl, vSl, uFn, gP, uIsi, uBM, uBM0, gM, gAppend, gPop, uCall, uA0, uA1, gId, gApp, isSeq, isRng, isRng2, uDGet, bodyE, startE, ugName, List.map_cons, List.map_nil, List.length_cons, List.length_nil, List.cons_append, List.nil_append, List.getElem?_cons_zero, List.getElem?_cons_succ, List.set_cons_zero, List.set_cons_succ, List.replicate, Nat.add_one_sub_one, Nat.sub_self, Nat.reduceSub, Nat.reduceAdd, Option.some.injEq, exists_eq_left', exists_eq_left, exists_and_left, true_and, and_true, D.bl.injEq, D.int.injEq, D.str.injEq, D.tup.injEq, D.ref.injEq, Ob.lst.injEq, List.cons.injEq, fTup, if_true, if_false, ite_true, ite_false, Bool.false_eq_true, Bool.true_eq_false, reduceIte, dIn1, mdf_iff, h1, decide_true, fInt, hl, hb]
    exact e_
  | str x =>
    obtain ⟨a, r, e, h1, h2, h3⟩ := hp
    have hla := low_iff.mp h1
    have hne : ∀ b, (b = 78 ∨ b = 84 ∨ b = 70) → txt (.str x) ≠ [b] := fun b hb z => by
      rw [txt, e] at z; injection z with z1 z2; omega
    rw [if_neg (hne 78 (by omega)), if_neg (hne 84 (by omega)), if_neg (hne 70 (by omega))]
    have ei : L2.atI (txt (.str x)) 0 = some a := by
      have := SL.atI_nat (xs := txt (.str x)) (n := 0)
      rw [show ((0 : Nat) : Int) = 0 from rfl] at this
      rw [this, txt, e]; rfl
    have hn : decide (a ∈ cs "-0123456789") = false := by rw [decide_eq_false_iff_not, mdf_iff]; omega
    simp only [ei, dAdd, dAddI, dSub, dEq, dNe, dLt, dLe, dGt, dGe, dIs, SL.isNon, dNeg, fLen, lenD, isTy, mLstrip, seqOf, tru, tyOf, Option.map_some, String.reduceEq, usNil, usSeq, usSet, usExpr, usRet, usRetN, usIf, usBrk, usCnt, usAug, usAsg, usDPut, usRaise, usSub, uVar, uC, uBin, uChain, uUn, uTru, uTb, uAnd, uOr, uNot, uAndV, uOrV, uNotV, uIte, uNil, uCons, uTup, uLst, uNoPart, uPart, uSl, vSl, uFn, gP, uIsi, uBM, uBM0, gM, gAppend, gPop, uCall, uA0, uA1, gId, gApp, isSeq, isRng, isRng2, uDGet, bodyE, startE, ugName, List.map_cons, List.map_nil, List.length_cons, List.length_nil, List.cons_append, List.nil_append, List.getElem?_cons_zero, List.getElem?_cons_succ, List.set_cons_zero, List.set_cons_succ, List.replicate, Nat.add_one_sub_one, Nat.sub_self, Nat.reduceSub, Nat.reduceAdd, Option.some.injEq, exists_eq_left', exists_eq_left, exists_and_left, true_and, and_true, D.bl.injEq, D.int.injEq, D.str.injEq, D.tup.injEq, D.ref.injEq, Ob.lst.injEq, List.cons.injEq, fTup, if_true, if_false, ite_true, ite_false, Bool.false_eq_true, Bool.true_eq_false, reduceIte, dIn1, hn]
    exact e_
  | tup xs => cases ha
  | ref a => cases ha
  | exc _ _ _ _ => cases ha
  | kl _ => cases ha

/-! ### _law_value -/
def lvB (sp__law_atom_value : FS) : US := usIf (uTb (uBin dEq (uVar 3) (uC (.str (cs "("))))) (usExpr (uBM "list" gAppend (uVar 1) (uCons (uLst uNil) uNil))) (usIf (uOr (uTb (uBin dEq (uVar 3) (uC (.str (cs ","))))) (uTb (uBin dEq (uVar 3) (uC (.str (cs ")")))))) (usSeq (usSet 4 (uBin dIx (uVar 1) (uUn dNeg (uC (.int 1)))))
  (usSeq (usIf (uTb (uBin dNe (uVar 2) (uC (.str (cs ""))))) (usSeq (usExpr (uBM "list" gAppend (uVar 4) (uCons (uCall (sp__law_atom_value) gId (uA1 1 (uCons (uVar 2) uNil))) uNil)))
  (usSet 2 (uC (.str (cs ""))))) usNil)
  (usIf (uTb (uBin dEq (uVar 3) (uC (.str (cs ")"))))) (usSeq (usSet 4 (uBM0 "list" gPop (uVar 1)))
  (usSeq (usSet 5 (uBin dIx (uVar 1) (uUn dNeg (uC (.int 1)))))
  (usExpr (uBM "list" gAppend (uVar 5) (uCons (uFn (gP fTup) (uCons (uVar 4) uNil)) uNil))))) usNil))) (usSet 2 (uBin dAdd (uVar 2) (uVar 3))))
theorem lv_eq {a : FS} : u__law_value K c a = usSeq (usSet 1 (uLst (uCons (uLst uNil) uNil))) (usSeq (usSet 2 (uC (.str (cs "")))) (usSeq (usFor (isSeq (uBin dAdd (uVar 0) (uC (.str (cs ","))))) (ugName 3) (lvB a)) (usRet (uBin dIx (uBin dIx (uVar 1) (uC (.int 0))) (uC (.int 0)))))) := rfl
abbrev envL (t : List Nat) (o : Addr) (w : List Nat) (e3 e4 e5 : Option D) : En := [some (.str t), some (.ref o), some (.str w), e3, e4, e5]
section
variable {S0 : SS} {o : Addr} {t : List Nat} {Z : EndsS}
/-- a sign of a word -/
theorem lv_sign {w : List Nat} {a : Nat} {e4 e5 : Option D} {S : SS} (h1 : a ≠ 40) (h2 : a ≠ 41) (h3 : a ≠ 44) (hl : w.length ≤ 1000) (k : Z.nx (envL t o (w ++ [a]) (some (.str [a])) e4 e5) S) :
    lvB sp__law_atom_value Z (envL t o w (some (.str [a])) e4 e5) S := by
  unfold lvB
  have hz : w.length + 1 ≤ sizeLine := by rw [sizeLine_eq]; omega
  simp only [dAdd, dAddI, dSub, dEq, dNe, dLt, dLe, dGt, dGe, dIs, SL.isNon, dNeg, fLen, lenD, isTy, mLstrip, seqOf, tru, tyOf, Option.map_some, String.reduceEq, usNil, usSeq, usSet, usExpr, usRet, usRetN, usIf, usBrk, usCnt, usAug, usAsg, usDPut, usRaise, usSub, uVar, uC, uBin, uChain, uUn, uTru, uTb, uAnd, uOr, uNot, uAndV, uOrV, uNotV, uIte, uNil, uCons, uTup, uLst, uNoPart, uPart, uSl, vSl, uFn, gP, uIsi, uBM, uBM0, gM, gAppend, gPop, uCall, uA0, uA1, gId, gApp, isSeq, isRng, isRng2, uDGet, bodyE, startE, ugName, List.map_cons, List.map_nil, List.length_cons, List.length_nil, List.cons_append, List.nil_append, List.getElem?_cons_zero, List.getElem?_cons_succ, List.set_cons_zero, List.set_cons_succ, List.replicate, Nat.add_one_sub_one, Nat.sub_self, Nat.reduceSub, Nat.reduceAdd, Option.some.injEq, exists_eq_left', exists_eq_left, exists_and_left, true_and, and_true, D.bl.injEq, D.int.injEq, D.str.injEq, D.tup.injEq, D.ref.injEq, Ob.lst.injEq, List.cons.injEq, fTup, if_true, if_false, ite_true, ite_false, Bool.false_eq_true, Bool.true_eq_false, reduceIte, envL, c_op, c_cl, c_co, sgl, decide_eq_false h1, decide_eq_false h2, decide_eq_false h3, hz]
  exact k
theorem lv_open {os : List (Addr × List D)} {e4 e5 : Option D} {S : SS} (hs : Stk S0 S o os) (hl : os.length ≤ 1000) (k : ∀ p S', Stk S0 S' o (os ++ [(p, [])]) → Z.nx (envL t o [] (some (.str [40])) e4 e5) S') :
    lvB sp__law_atom_value Z (envL t o [] (some (.str [40])) e4 e5) S := by
  have hso := hs.so
  unfold lvB
  simp only [dAdd, dAddI, dSub, dEq, dNe, dLt, dLe, dGt, dGe, dIs, SL.isNon, dNeg, fLen, lenD, isTy, mLstrip, seqOf, tru, tyOf, Option.map_some, String.reduceEq, usNil, usSeq, usSet, usExpr, usRet, usRetN, usIf, usBrk, usCnt, usAug, usAsg, usDPut, usRaise, usSub, uVar, uC, uBin, uChain, uUn, uTru, uTb, uAnd, uOr, uNot, uAndV, uOrV, uNotV, uIte, uNil, uCons, uTup, uLst, uNoPart, uPart, uSl, vSl, uFn, gP, uIsi, uBM, uBM0, gM, gAppend, gPop, uCall, uA0, uA1, gId, gApp, isSeq, isRng, isRng2, uDGet, bodyE, startE, ugName, List.map_cons, List.map_nil, List.length_cons, List.length_nil, List.cons_append, List.nil_append, List.getElem?_cons_zero, List.getElem?_cons_succ, List.set_cons_zero, List.set_cons_succ, List.replicate, Nat.add_one_sub_one, Nat.sub_self, Nat.reduceSub, Nat.reduceAdd, Option.some.injEq, exists_eq_left', exists_eq_left, exists_and_left, true_and, and_true, D.bl.injEq, D.int.injEq, D.str.injEq, D.tup.injEq, D.ref.injEq, Ob.lst.injEq, List.cons.injEq, fTup, if_true, if_false, ite_true, ite_false, Bool.false_eq_true, Bool.true_eq_false, reduceIte, envL, c_op, c_cl, c_co, sgl, decide_true, hso]
  refine ⟨by rw [sizeLine_eq]; decide, fun p hp => ?_⟩
  have hpo : o ≠ p := fun z => by rw [← z, hso] at hp; cases hp
  rw [sup_ne hpo, hso]
  simp only [dAdd, dAddI, dSub, dEq, dNe, dLt, dLe, dGt, dGe, dIs, SL.isNon, dNeg, fLen, lenD, isTy, mLstrip, seqOf, tru, tyOf, Option.map_some, String.reduceEq, usNil, usSeq, usSet, usExpr, usRet, usRetN, usIf, usBrk, usCnt, usAug, usAsg, usDPut, usRaise, usSub, uVar, uC, uBin, uChain, uUn, uTru, uTb, uAnd, uOr, uNot, uAndV, uOrV, uNotV, uIte, uNil, uCons, uTup, uLst, uNoPart, uPart, uSl, vSl, uFn, gP, uIsi, uBM, uBM0, gM, gAppend, gPop, uCall, uA0, uA1, gId, gApp, isSeq, isRng, isRng2, uDGet, bodyE, startE, ugName, List.map_cons, List.map_nil, List.length_cons, List.length_nil, List.cons_append, List.nil_append, List.getElem?_cons_zero, List.getElem?_cons_succ, List.set_cons_zero, List.set_cons_succ, List.replicate, Nat.add_one_sub_one, Nat.sub_self, Nat.reduceSub, Nat.reduceAdd, Option.some.injEq, exists_eq_left', exists_eq_left, exists_and_left, true_and, and_true, D.bl.injEq, D.int.injEq, D.str.injEq, D.tup.injEq, D.ref.injEq, Ob.lst.injEq, List.cons.injEq, fTup, if_true, if_false, ite_true, ite_false, Bool.false_eq_true, Bool.true_eq_false, reduceIte]
  refine ⟨by rw [List.length_map, sizeLine_eq]; omega, ?_⟩
  exact k p _ (hs.push hp)
/-- behind v -/
def PV (S0 S : SS) (o : Addr) (fs : List (Addr × List D)) (r : Addr) (f : List D) (v : D) (w : List Nat) : Prop :=
  (Stk S0 S o (fs ++ [(r, f)]) ∧ w = txt v ∧ Atm v ∧ PlW 0 v) ∨ (Stk S0 S o (fs ++ [(r, f ++ [v])]) ∧ w = [])
theorem last_ref {os : List (Addr × List D)} {r : Addr} {f : List D} : (List.map (fun p => D.ref p.1) (os ++ [(r, f)])).getLast? = some (.ref r) := by simp
theorem lv_comma {os : List (Addr × List D)} {r : Addr} {f : List D} {v : D} {w : List Nat} {e4 e5 : Option D} {S : SS} (h : PV S0 S o os r f v w) (hl : f.length ≤ 1000000)
    (k : ∀ e4 S', Stk S0 S' o (os ++ [(r, f ++ [v])]) → Z.nx (envL t o [] (some (.str [44])) e4 e5) S') :
    lvB sp__law_atom_value Z (envL t o w (some (.str [44])) e4 e5) S := by
  have hfz : f.length < sizeLine := by rw [sizeLine_eq]; omega
  have d1 : decide (44 = 40) = false := rfl
  have d2 : decide (44 = 41) = false := rfl
  unfold lvB
  rcases h with ⟨hs, hw, ha, hp⟩ | ⟨hs, hw⟩
  · have hso := hs.so
    have hr := (hs.el (r, f) (by simp)).2
    have hne : (w == []) = false := by rw [hw, beq_eq_false_iff_ne]; exact (atm_len ha hp).2
    simp only [dAdd, dAddI, dSub, dEq, dNe, dLt, dLe, dGt, dGe, dIs, SL.isNon, dNeg, fLen, lenD, isTy, mLstrip, seqOf, tru, tyOf, Option.map_some, String.reduceEq, usNil, usSeq, usSet, usExpr, usRet, usRetN, usIf, usBrk, usCnt, usAug, usAsg, usDPut, usRaise, usSub, uVar, uC, uBin, uChain, uUn, uTru, uTb, uAnd, uOr, uNot, uAndV, uOrV, uNotV, uIte, uNil, uCons, uTup, uLst, uNoPart, uPart, uSl, vSl, uFn, gP, uIsi, uBM, uBM0, gM, gAppend, gPop, uCall, uA0, uA1, gId, gApp, isSeq, isRng, isRng2, uDGet, bodyE, startE, ugName, List.map_cons, List.map_nil, List.length_cons, List.length_nil, List.cons_append, List.nil_append, List.getElem?_cons_zero, List.getElem?_cons_succ, List.set_cons_zero, List.set_cons_succ, List.replicate, Nat.add_one_sub_one, Nat.sub_self, Nat.reduceSub, Nat.reduceAdd, Option.some.injEq, exists_eq_left', exists_eq_left, exists_and_left, true_and, and_true, D.bl.injEq, D.int.injEq, D.str.injEq, D.tup.injEq, D.ref.injEq, Ob.lst.injEq, List.cons.injEq, fTup, if_true, if_false, ite_true, ite_false, Bool.false_eq_true, Bool.true_eq_false, reduceIte, envL, c_op, c_cl, c_co, c_e, sgl, d1, d2, decide_true, hso, dIx, SL.atI_last, last_ref, hne, Bool.not_false, hr]
    refine ⟨v, by rw [hw], ha, hp, ?_⟩
    simp only [dAdd, dAddI, dSub, dEq, dNe, dLt, dLe, dGt, dGe, dIs, SL.isNon, dNeg, fLen, lenD, isTy, mLstrip, seqOf, tru, tyOf, Option.map_some, String.reduceEq, usNil, usSeq, usSet, usExpr, usRet, usRetN, usIf, usBrk, usCnt, usAug, usAsg, usDPut, usRaise, usSub, uVar, uC, uBin, uChain, uUn, uTru, uTb, uAnd, uOr, uNot, uAndV, uOrV, uNotV, uIte, uNil, uCons, uTup, uLst, uNoPart, uPart, uSl, vSl, uFn, gP, uIsi, uBM, uBM0, gM, gAppend, gPop, uCall, uA0, uA1, gId, gApp, isSeq, isRng, isRng2, uDGet, bodyE, startE, ugName, List.map_cons, List.map_nil, List.length_cons, List.length_nil, List.cons_append, List.nil_append, List.getElem?_cons_zero, List.getElem?_cons_succ, List.set_cons_zero, List.set_cons_succ, List.replicate, Nat.add_one_sub_one, Nat.sub_self, Nat.reduceSub, Nat.reduceAdd, Option.some.injEq, exists_eq_left', exists_eq_left, exists_and_left, true_and, and_true, D.bl.injEq, D.int.injEq, D.str.injEq, D.tup.injEq, D.ref.injEq, Ob.lst.injEq, List.cons.injEq, fTup, if_true, if_false, ite_true, ite_false, Bool.false_eq_true, Bool.true_eq_false, reduceIte, hr]
    exact ⟨hfz, k _ _ hs.app⟩
  · have hso := hs.so
    subst hw
    simp only [dAdd, dAddI, dSub, dEq, dNe, dLt, dLe, dGt, dGe, dIs, SL.isNon, dNeg, fLen, lenD, isTy, mLstrip, seqOf, tru, tyOf, Option.map_some, String.reduceEq, usNil, usSeq, usSet, usExpr, usRet, usRetN, usIf, usBrk, usCnt, usAug, usAsg, usDPut, usRaise, usSub, uVar, uC, uBin, uChain, uUn, uTru, uTb, uAnd, uOr, uNot, uAndV, uOrV, uNotV, uIte, uNil, uCons, uTup, uLst, uNoPart, uPart, uSl, vSl, uFn, gP, uIsi, uBM, uBM0, gM, gAppend, gPop, uCall, uA0, uA1, gId, gApp, isSeq, isRng, isRng2, uDGet, bodyE, startE, ugName, List.map_cons, List.map_nil, List.length_cons, List.length_nil, List.cons_append, List.nil_append, List.getElem?_cons_zero, List.getElem?_cons_succ, List.set_cons_zero, List.set_cons_succ, List.replicate, Nat.add_one_sub_one, Nat.sub_self, Nat.reduceSub, Nat.reduceAdd, Option.some.injEq, exists_eq_left', exists_eq_left, exists_and_left, true_and, and_true, D.bl.injEq, D.int.injEq, D.str.injEq, D.tup.injEq, D.ref.injEq, Ob.lst.injEq, List.cons.injEq, fTup, if_true, if_false, ite_true, ite_false, Bool.false_eq_true, Bool.true_eq_false, reduceIte, envL, c_op, c_cl, c_co, c_e, sgl, d1, d2, decide_true, hso, dIx, SL.atI_last, last_ref, beq_self_eq_true, Bool.not_true]
    exact k _ _ hs
/-- the ) of a tuple: f its parts -/
theorem lv_pop {os : List (Addr × List D)} {q r : Addr} {g f : List D} {v : D} {w : List Nat} {e4 e5 : Option D} {S : SS} (h : (PV S0 S o (os ++ [(q, g)]) r f v w ∧ f.length ≤ 1000000 ∧ y = f ++ [v]) ∨ (Stk S0 S o (os ++ [(q, g)] ++ [(r, [])]) ∧ w = [] ∧ y = []))
    (hl : g.length ≤ 1000000) (k : ∀ e4 e5 S', Stk S0 S' o (os ++ [(q, g ++ [.tup y])]) → Z.nx (envL t o [] (some (.str [41])) e4 e5) S') :
    lvB sp__law_atom_value Z (envL t o w (some (.str [41])) e4 e5) S := by
  have hgz : g.length < sizeLine := by rw [sizeLine_eq]; omega
  have d1 : decide (41 = 40) = false := rfl
  have d2 : decide (41 = 44) = false := rfl
  -- the second half
  have fin : ∀ {S1 : SS} {e4 : Option D}, Stk S0 S1 o (os ++ [(q, g)] ++ [(r, y)]) → ∃ l z, S1 o = some (.lst l) ∧ l[l.length - 1]? = some z ∧ (usSeq (usSet 5 (uBin dIx (uVar 1) (uUn dNeg (uC (.int 1))))) (usExpr (uBM "list" gAppend (uVar 5) (uCons (uFn (gP fTup) (uCons (uVar 4) uNil)) uNil)))) Z (envL t o [] (some (.str [41])) (some z) e5) (SL.sup S1 o (.lst l.dropLast)) := fun {S1 e4} hs => by
    have hso := hs.so
    obtain ⟨hs2, hr2⟩ := hs.pop
    have hso2 := hs2.so
    have hq := (hs2.el (q, g) (by simp)).2
    have hd : (List.map (fun p => D.ref p.1) (os ++ [(q, g)] ++ [(r, y)])).dropLast = List.map (fun p => D.ref p.1) (os ++ [(q, g)]) := by rw [List.map_append (l₂ := [(r, y)])]; simp
    refine ⟨_, .ref r, hso, by rw [← List.getLast?_eq_getElem?]; exact last_ref, ?_⟩
    simp only [dAdd, dAddI, dSub, dEq, dNe, dLt, dLe, dGt, dGe, dIs, SL.isNon, dNeg, fLen, lenD, isTy, mLstrip, seqOf, tru, tyOf, Option.map_some, String.reduceEq, usNil, usSeq, usSet, usExpr, usRet, usRetN, usIf, usBrk, usCnt, usAug, usAsg, usDPut, usRaise, usSub, uVar, uC, uBin, uChain, uUn, uTru, uTb, uAnd, uOr, uNot, uAndV, uOrV, uNotV, uIte, uNil, uCons, uTup, uLst, uNoPart, uPart, uSl, vSl, uFn, gP, uIsi, uBM, uBM0, gM, gAppend, gPop, uCall, uA0, uA1, gId, gApp, isSeq, isRng, isRng2, uDGet, bodyE, startE, ugName, List.map_cons, List.map_nil, List.length_cons, List.length_nil, List.cons_append, List.nil_append, List.getElem?_cons_zero, List.getElem?_cons_succ, List.set_cons_zero, List.set_cons_succ, List.replicate, Nat.add_one_sub_one, Nat.sub_self, Nat.reduceSub, Nat.reduceAdd, Option.some.injEq, exists_eq_left', exists_eq_left, exists_and_left, true_and, and_true, D.bl.injEq, D.int.injEq, D.str.injEq, D.tup.injEq, D.ref.injEq, Ob.lst.injEq, List.cons.injEq, fTup, if_true, if_false, ite_true, ite_false, Bool.false_eq_true, Bool.true_eq_false, reduceIte, envL, hd, hso2, dIx, SL.atI_last, last_ref, hq, hr2]
    exact ⟨hgz, k _ _ _ hs2.app⟩
  unfold lvB
  rcases h with ⟨h, hfl, rfl⟩ | ⟨hs, hw, rfl⟩
  · have hfz : f.length < sizeLine := by rw [sizeLine_eq]; omega
    rcases h with ⟨hs, hw, ha, hp⟩ | ⟨hs, hw⟩
    · have hso := hs.so
      have hr := (hs.el (r, f) (by simp)).2
      have hne : (w == []) = false := by rw [hw, beq_eq_false_iff_ne]; exact (atm_len ha hp).2
      obtain ⟨l, z, f1, f2, f3⟩ := fin (e4 := e4) hs.app
      simp only [dAdd, dAddI, dSub, dEq, dNe, dLt, dLe, dGt, dGe, dIs, SL.isNon, dNeg, fLen, lenD, isTy, mLstrip, seqOf, tru, tyOf, Option.map_some, String.reduceEq, usNil, usSeq, usSet, usExpr, usRet, usRetN, usIf, usBrk, usCnt, usAug, usAsg, usDPut, usRaise, usSub, uVar, uC, uBin, uChain, uUn, uTru, uTb, uAnd, uOr, uNot, uAndV, uOrV, uNotV, uIte, uNil, uCons, uTup, uLst, uNoPart, uPart, uSl, vSl, uFn, gP, uIsi, uBM, uBM0, gM, gAppend, gPop, uCall, uA0, uA1, gId, gApp, isSeq, isRng, isRng2, uDGet, bodyE, startE, ugName, List.map_cons, List.map_nil, List.length_cons, List.length_nil, List.cons_append, List.nil_append, List.getElem?_cons_zero, List.getElem?_cons_succ, List.set_cons_zero, List.set_cons_succ, List.replicate, Nat.add_one_sub_one, Nat.sub_self, Nat.reduceSub, Nat.reduceAdd, Option.some.injEq, exists_eq_left', exists_eq_left, exists_and_left, true_and, and_true, D.bl.injEq, D.int.injEq, D.str.injEq, D.tup.injEq, D.ref.injEq, Ob.lst.injEq, List.cons.injEq, fTup, if_true, if_false, ite_true, ite_false, Bool.false_eq_true, Bool.true_eq_false, reduceIte, envL, c_op, c_cl, c_co, c_e, sgl, d1, d2, decide_true, hso, dIx, SL.atI_last, last_ref, hne, Bool.not_false, hr]
      refine ⟨v, by rw [hw], ha, hp, ?_⟩
      simp only [dAdd, dAddI, dSub, dEq, dNe, dLt, dLe, dGt, dGe, dIs, SL.isNon, dNeg, fLen, lenD, isTy, mLstrip, seqOf, tru, tyOf, Option.map_some, String.reduceEq, usNil, usSeq, usSet, usExpr, usRet, usRetN, usIf, usBrk, usCnt, usAug, usAsg, usDPut, usRaise, usSub, uVar, uC, uBin, uChain, uUn, uTru, uTb, uAnd, uOr, uNot, uAndV, uOrV, uNotV, uIte, uNil, uCons, uTup, uLst, uNoPart, uPart, uSl, vSl, uFn, gP, uIsi, uBM, uBM0, gM, gAppend, gPop, uCall, uA0, uA1, gId, gApp, isSeq, isRng, isRng2, uDGet, bodyE, startE, ugName, List.map_cons, List.map_nil, List.length_cons, List.length_nil, List.cons_append, List.nil_append, List.getElem?_cons_zero, List.getElem?_cons_succ, List.set_cons_zero, List.set_cons_succ, List.replicate, Nat.add_one_sub_one, Nat.sub_self, Nat.reduceSub, Nat.reduceAdd, Option.some.injEq, exists_eq_left', exists_eq_left, exists_and_left, true_and, and_true, D.bl.injEq, D.int.injEq, D.str.injEq, D.tup.injEq, D.ref.injEq, Ob.lst.injEq, List.cons.injEq, fTup, if_true, if_false, ite_true, ite_false, Bool.false_eq_true, Bool.true_eq_false, reduceIte, hr, f1, f2]
      refine ⟨hfz, ?_⟩
      simpa only [dAdd, dAddI, dSub, dEq, dNe, dLt, dLe, dGt, dGe, dIs, SL.isNon, dNeg, fLen, lenD, isTy, mLstrip, seqOf, tru, tyOf, Option.map_some, String.reduceEq, usNil, usSeq, usSet, usExpr, usRet, usRetN, usIf, usBrk, usCnt, usAug, usAsg, usDPut, usRaise, usSub, uVar, uC, uBin, uChain, uUn, uTru, uTb, uAnd, uOr, uNot, uAndV, uOrV, uNotV, uIte, uNil, uCons, uTup, uLst, uNoPart, uPart, uSl, vSl, uFn, gP, uIsi, uBM, uBM0, gM, gAppend, gPop, uCall, uA0, uA1, gId, gApp, isSeq, isRng, isRng2, uDGet, bodyE, startE, ugName, List.map_cons, List.map_nil, List.length_cons, List.length_nil, List.cons_append, List.nil_append, List.getElem?_cons_zero, List.getElem?_cons_succ, List.set_cons_zero, List.set_cons_succ, List.replicate, Nat.add_one_sub_one, Nat.sub_self, Nat.reduceSub, Nat.reduceAdd, Option.some.injEq, exists_eq_left', exists_eq_left, exists_and_left, true_and, and_true, D.bl.injEq, D.int.injEq, D.str.injEq, D.tup.injEq, D.ref.injEq, Ob.lst.injEq, List.cons.injEq, fTup, if_true, if_false, ite_true, ite_false, Bool.false_eq_true, Bool.true_eq_false, reduceIte, envL, dIx, SL.atI_last] using f3
    · have hso := hs.so
      subst hw
      obtain ⟨l, z, f1, f2, f3⟩ := fin (e4 := e4) hs
      simp only [dAdd, dAddI, dSub, dEq, dNe, dLt, dLe, dGt, dGe, dIs, SL.isNon, dNeg, fLen, lenD, isTy, mLstrip, seqOf, tru, tyOf, Option.map_some, String.reduceEq, usNil, usSeq, usSet, usExpr, usRet, usRetN, usIf, usBrk, usCnt, usAug, usAsg, usDPut, usRaise, usSub, uVar, uC, uBin, uChain, uUn, uTru, uTb, uAnd, uOr, uNot, uAndV, uOrV, uNotV, uIte, uNil, uCons, uTup, uLst, uNoPart, uPart, uSl, vSl, uFn, gP, uIsi, uBM, uBM0, gM, gAppend, gPop, uCall, uA0, uA1, gId, gApp, isSeq, isRng, isRng2, uDGet, bodyE, startE, ugName, List.map_cons, List.map_nil, List.length_cons, List.length_nil, List.cons_append, List.nil_append, List.getElem?_cons_zero, List.getElem?_cons_succ, List.set_cons_zero, List.set_cons_succ, List.replicate, Nat.add_one_sub_one, Nat.sub_self, Nat.reduceSub, Nat.reduceAdd, Option.some.injEq, exists_eq_left', exists_eq_left, exists_and_left, true_and, and_true, D.bl.injEq, D.int.injEq, D.str.injEq, D.tup.injEq, D.ref.injEq, Ob.lst.injEq, List.cons.injEq, fTup, if_true, if_false, ite_true, ite_false, Bool.false_eq_true, Bool.true_eq_false, reduceIte, envL, c_op, c_cl, c_co, c_e, sgl, d1, d2, decide_true, hso, dIx, SL.atI_last, last_ref, beq_self_eq_true, Bool.not_true]
      rw [hso] at f1
      simp only [Option.some.injEq, Ob.lst.injEq] at f1
      subst f1
      simp only [dAdd, dAddI, dSub, dEq, dNe, dLt, dLe, dGt, dGe, dIs, SL.isNon, dNeg, fLen, lenD, isTy, mLstrip, seqOf, tru, tyOf, Option.map_some, String.reduceEq, usNil, usSeq, usSet, usExpr, usRet, usRetN, usIf, usBrk, usCnt, usAug, usAsg, usDPut, usRaise, usSub, uVar, uC, uBin, uChain, uUn, uTru, uTb, uAnd, uOr, uNot, uAndV, uOrV, uNotV, uIte, uNil, uCons, uTup, uLst, uNoPart, uPart, uSl, vSl, uFn, gP, uIsi, uBM, uBM0, gM, gAppend, gPop, uCall, uA0, uA1, gId, gApp, isSeq, isRng, isRng2, uDGet, bodyE, startE, ugName, List.map_cons, List.map_nil, List.length_cons, List.length_nil, List.cons_append, List.nil_append, List.getElem?_cons_zero, List.getElem?_cons_succ, List.set_cons_zero, List.set_cons_succ, List.replicate, Nat.add_one_sub_one, Nat.sub_self, Nat.reduceSub, Nat.reduceAdd, Option.some.injEq, exists_eq_left', exists_eq_left, exists_and_left, true_and, and_true, D.bl.injEq, D.int.injEq, D.str.injEq, D.tup.injEq, D.ref.injEq, Ob.lst.injEq, List.cons.injEq, fTup, if_true, if_false, ite_true, ite_false, Bool.false_eq_true, Bool.true_eq_false, reduceIte, f2]
      simpa only [dAdd, dAddI, dSub, dEq, dNe, dLt, dLe, dGt, dGe, dIs, SL.isNon, dNeg, fLen, lenD, isTy, mLstrip, seqOf, tru, tyOf, Option.map_some, String.reduceEq, usNil, usSeq, usSet, usExpr, usRet, usRetN, usIf, usBrk, usCnt, usAug, usAsg, usDPut, usRaise, usSub, uVar, uC, uBin, uChain, uUn, uTru, uTb, uAnd, uOr, uNot, uAndV, uOrV, uNotV, uIte, uNil, uCons, uTup, uLst, uNoPart, uPart, uSl, vSl, uFn, gP, uIsi, uBM, uBM0, gM, gAppend, gPop, uCall, uA0, uA1, gId, gApp, isSeq, isRng, isRng2, uDGet, bodyE, startE, ugName, List.map_cons, List.map_nil, List.length_cons, List.length_nil, List.cons_append, List.nil_append, List.getElem?_cons_zero, List.getElem?_cons_succ, List.set_cons_zero, List.set_cons_succ, List.replicate, Nat.add_one_sub_one, Nat.sub_self, Nat.reduceSub, Nat.reduceAdd, Option.some.injEq, exists_eq_left', exists_eq_left, exists_and_left, true_and, and_true, D.bl.injEq, D.int.injEq, D.str.injEq, D.tup.injEq, D.ref.injEq, Ob.lst.injEq, List.cons.injEq, fTup, if_true, if_false, ite_true, ite_false, Bool.false_eq_true, Bool.true_eq_false, reduceIte, envL, dIx, SL.atI_last] using f3
  · have hso := hs.so
    subst hw
    obtain ⟨l, z, f1, f2, f3⟩ := fin (e4 := e4) hs
    simp only [dAdd, dAddI, dSub, dEq, dNe, dLt, dLe, dGt, dGe, dIs, SL.isNon, dNeg, fLen, lenD, isTy, mLstrip, seqOf, tru, tyOf, Option.map_some, String.reduceEq, usNil, usSeq, usSet, usExpr, usRet, usRetN, usIf, usBrk, usCnt, usAug, usAsg, usDPut, usRaise, usSub, uVar, uC, uBin, uChain, uUn, uTru, uTb, uAnd, uOr, uNot, uAndV, uOrV, uNotV, uIte, uNil, uCons, uTup, uLst, uNoPart, uPart, uSl, vSl, uFn, gP, uIsi, uBM, uBM0, gM, gAppend, gPop, uCall, uA0, uA1, gId, gApp, isSeq, isRng, isRng2, uDGet, bodyE, startE, ugName, List.map_cons, List.map_nil, List.length_cons, List.length_nil, List.cons_append, List.nil_append, List.getElem?_cons_zero, List.getElem?_cons_succ, List.set_cons_zero, List.set_cons_succ, List.replicate, Nat.add_one_sub_one, Nat.sub_self, Nat.reduceSub, Nat.reduceAdd, Option.some.injEq, exists_eq_left', exists_eq_left, exists_and_left, true_and, and_true, D.bl.injEq, D.int.injEq, D.str.injEq, D.tup.injEq, D.ref.injEq, Ob.lst.injEq, List.cons.injEq, fTup, if_true, if_false, ite_true, ite_false, Bool.false_eq_true, Bool.true_eq_false, reduceIte, envL, c_op, c_cl, c_co, c_e, sgl, d1, d2, decide_true, hso, dIx, SL.atI_last, last_ref, beq_self_eq_true, Bool.not_true]
    rw [hso] at f1
    simp only [Option.some.injEq, Ob.lst.injEq] at f1
    subst f1
    simp only [dAdd, dAddI, dSub, dEq, dNe, dLt, dLe, dGt, dGe, dIs, SL.isNon, dNeg, fLen, lenD, isTy, mLstrip, seqOf, tru, tyOf, Option.map_some, String.reduceEq, usNil, usSeq, usSet, usExpr, usRet, usRetN, usIf, usBrk, usCnt, usAug, usAsg, usDPut, usRaise, usSub, uVar, uC, uBin, uChain, uUn, uTru, uTb, uAnd, uOr, uNot, uAndV, uOrV, uNotV, uIte, uNil, uCons, uTup, uLst, uNoPart, uPart, uSl, vSl, uFn, gP, uIsi, uBM, uBM0, gM, gAppend, gPop, uCall, uA0, uA1, gId, gApp, isSeq, isRng, isRng2, uDGet, bodyE, startE, ugName, List.map_cons, List.map_nil, List.length_cons, List.length_nil, List.cons_append, List.nil_append, List.getElem?_cons_zero, List.getElem?_cons_succ, List.set_cons_zero, List.set_cons_succ, List.replicate, Nat.add_one_sub_one, Nat.sub_self, Nat.reduceSub, Nat.reduceAdd, Option.some.injEq, exists_eq_left', exists_eq_left, exists_and_left, true_and, and_true, D.bl.injEq, D.int.injEq, D.str.injEq, D.tup.injEq, D.ref.injEq, Ob.lst.injEq, List.cons.injEq, fTup, if_true, if_false, ite_true, ite_false, Bool.false_eq_true, Bool.true_eq_false, reduceIte, f2]
    simpa only [dAdd, dAddI, dSub, dEq, dNe, dLt, dLe, dGt, dGe, dIs, SL.isNon, dNeg, fLen, lenD, isTy, mLstrip, seqOf, tru, tyOf, Option.map_some, String.reduceEq, usNil, usSeq, usSet, usExpr, usRet, usRetN, usIf, usBrk, usCnt, usAug, usAsg, usDPut, usRaise, usSub, uVar, uC, uBin, uChain, uUn, uTru, uTb, uAnd, uOr, uNot, uAndV, uOrV, uNotV, uIte, uNil, uCons, uTup, uLst, uNoPart, uPart, uSl, vSl, uFn, gP, uIsi, uBM, uBM0, gM, gAppend, gPop, uCall, uA0, uA1, gId, gApp, isSeq, isRng, isRng2, uDGet, bodyE, startE, ugName, List.map_cons, List.map_nil, List.length_cons, List.length_nil, List.cons_append, List.nil_append, List.getElem?_cons_zero, List.getElem?_cons_succ, List.set_cons_zero, List.set_cons_succ, List.replicate, Nat.add_one_sub_one, Nat.sub_self, Nat.reduceSub, Nat.reduceAdd, Option.some.injEq, exists_eq_left', exists_eq_left, exists_and_left, true_and, and_true, D.bl.injEq, D.int.injEq, D.str.injEq, D.tup.injEq, D.ref.injEq, Ob.lst.injEq, List.cons.injEq, fTup, if_true, if_false, ite_true, ite_false, Bool.false_eq_true, Bool.true_eq_false, reduceIte, envL, dIx, SL.atI_last] using f3
abbrev chs (l : List Nat) : List D := l.map fun a => D.str [a]
abbrev lvF (Z : EndsS) : List D → En → SS → Prop := forL (ugName 3) (lvB sp__law_atom_value) (fun _ => True) Z
theorem lv_word {e4 e5 : Option D} {S : SS} {rest : List D} : ∀ (x w : List Nat) (e3 : Option D), (∀ a ∈ x, a ≠ 40 ∧ a ≠ 41 ∧ a ≠ 44) → w.length + x.length ≤ 1000 → (∀ e3, lvF Z rest (envL t o (w ++ x) e3 e4 e5) S) → lvF Z (chs x ++ rest) (envL t o w e3 e4 e5) S
  | [], w, e3, _, _, k => by have := k e3; rw [List.append_nil] at this; exact this
  | a :: x, w, e3, hx, hl, k => by
    have ha := hx a (List.mem_cons_self ..)
    simp only [List.length_cons] at hl
    refine ⟨trivial, lv_sign ha.1 ha.2.1 ha.2.2 (by omega) ?_⟩
    refine lv_word x (w ++ [a]) _ (fun b hb => hx b (List.mem_cons_of_mem _ hb)) (by rw [List.length_append]; simp; omega) fun e3 => ?_
    have := k e3
    rw [List.append_assoc]; exact this
theorem lv_rest {n : Nat} {q : Addr} {g0 : List D} {os : List (Addr × List D)} (hg0 : g0.length ≤ 1000000) {p : Addr} {rest : List D}
    (ih : ∀ v, PlW n v → ∀ (g : List D) (S : SS) (rest : List D) (e3 e4 e5 : Option D), g.length + (txt v).length ≤ 1000000 → Stk S0 S o (os ++ [(q, g0)] ++ [(p, g)]) → (∀ w e3 e4 e5 S', PV S0 S' o (os ++ [(q, g0)]) p g v w → lvF Z rest (envL t o w e3 e4 e5) S') → lvF Z (chs (txt v) ++ rest) (envL t o [] e3 e4 e5) S) :
    ∀ (ys g : List D) (v : D) (w : List Nat) (e3 e4 e5 : Option D) (S : SS), (∀ y ∈ ys, PlW n y) → g.length + 1 + (txtT ys).length ≤ 1000000 → PV S0 S o (os ++ [(q, g0)]) p g v w →
    (∀ e3 e4 e5 S', Stk S0 S' o (os ++ [(q, g0 ++ [.tup (g ++ v :: ys)])]) → lvF Z rest (envL t o [] e3 e4 e5) S') → lvF Z (chs (txtT ys ++ [41]) ++ rest) (envL t o w e3 e4 e5) S
  | [], g, v, w, e3, e4, e5, S, hy, hl, h, k => by
    refine ⟨trivial, ?_⟩
    exact lv_pop (.inl ⟨h, by omega, rfl⟩) hg0 fun e4 e5 S' hs => k _ e4 e5 S' hs
  | y :: ys, g, v, w, e3, e4, e5, S, hy, hl, h, k => by
    have e : chs (txtT (y :: ys) ++ [41]) ++ rest = D.str [44] :: (chs (txt y) ++ (chs (txtT ys ++ [41]) ++ rest)) := by simp [chs, txtT]
    rw [e]
    have e2 : (txtT (y :: ys)).length = 1 + ((txt y).length + (txtT ys).length) := by simp [txtT]; omega
    rw [e2] at hl
    refine ⟨trivial, lv_comma h (by omega) fun e4 S' hs => ?_⟩
    refine ih y (hy y (List.mem_cons_self ..)) (g ++ [v]) S' _ _ _ _ (by rw [List.length_append]; simp; omega) hs fun w2 e3 e4 e5 S2 h2 => ?_
    refine lv_rest hg0 ih ys (g ++ [v]) y w2 e3 e4 e5 S2 (fun z hz => hy z (List.mem_cons_of_mem _ hz)) (by rw [List.length_append]; simp; omega) h2 fun e3 e4 e5 S3 h3 => k e3 e4 e5 S3 ?_
    rw [List.append_assoc] at h3; exact h3
theorem lv_val : ∀ (n : Nat) (v : D), PlW n v → ∀ (os : List (Addr × List D)) (r : Addr) (f : List D) (S : SS) (rest : List D) (e3 e4 e5 : Option D), os.length + n ≤ 100 → f.length + (txt v).length ≤ 1000000 → Stk S0 S o (os ++ [(r, f)]) →
    (∀ w e3 e4 e5 S', PV S0 S' o os r f v w → lvF Z rest (envL t o w e3 e4 e5) S') → lvF Z (chs (txt v) ++ rest) (envL t o [] e3 e4 e5) S := by
  have atom : ∀ (v : D), Atm v → PlW 0 v → ∀ (os : List (Addr × List D)) (r : Addr) (f : List D) (S : SS) (rest : List D) (e3 e4 e5 : Option D), Stk S0 S o (os ++ [(r, f)]) →
    (∀ w e3 e4 e5 S', PV S0 S' o os r f v w → lvF Z rest (envL t o w e3 e4 e5) S') → lvF Z (chs (txt v) ++ rest) (envL t o [] e3 e4 e5) S := fun v ha hp os r f S rest e3 e4 e5 hs k => by
    have hl := atm_len ha hp
    refine lv_word (txt v) [] e3 (atm_mem ha hp) (by simp; omega) fun e3 => ?_
    exact k _ e3 e4 e5 S (.inl ⟨hs, rfl, ha, hp⟩)
  intro n
  induction n with
  | zero =>
    intro v hp os r f S rest e3 e4 e5 hn hl hs k
    refine atom v ?_ hp os r f S rest e3 e4 e5 hs k
    cases v <;> simp_all [PlW, Atm]
  | succ n ih =>
    intro v hp os r f S rest e3 e4 e5 hn hl hs k
    cases v with
    | tup xs =>
      simp only [PlW] at hp
      have e : chs (txt (.tup xs)) ++ rest = D.str [40] :: (chs (txtL xs ++ [41]) ++ rest) := by simp [chs, txt]
      have el : (txt (.tup xs)).length = (txtL xs).length + 2 := by simp [txt]
      rw [el] at hl
      rw [e]
      refine ⟨trivial, lv_open hs (by simp; omega) fun p S' hs2 => ?_⟩
      cases xs with
      | nil =>
        refine ⟨trivial, ?_⟩
        exact lv_pop (v := .non) (f := []) (.inr ⟨hs2, rfl, rfl⟩) (by omega) fun e4 e5 S3 h3 => k _ _ e4 e5 S3 (.inr ⟨h3, rfl⟩)
      | cons x xs =>
        have e2 : chs (txtL (x :: xs) ++ [41]) ++ rest = chs (txt x) ++ (chs (txtT xs ++ [41]) ++ rest) := by simp [chs, txtL]
        have e3l : (txtL (x :: xs)).length = (txt x).length + (txtT xs).length := by simp [txtL]
        show lvF Z (chs (txtL (x :: xs) ++ [41]) ++ rest) _ _
        rw [e2]
        have ih2 : ∀ v, PlW n v → ∀ (g : List D) (S : SS) (rest : List D) (e3 e4 e5 : Option D), g.length + (txt v).length ≤ 1000000 → Stk S0 S o (os ++ [(r, f)] ++ [(p, g)]) → (∀ w e3 e4 e5 S', PV S0 S' o (os ++ [(r, f)]) p g v w → lvF Z rest (envL t o w e3 e4 e5) S') → lvF Z (chs (txt v) ++ rest) (envL t o [] e3 e4 e5) S := fun v hv g S rest e3 e4 e5 hl hs k => ih v hv (os ++ [(r, f)]) p g S rest e3 e4 e5 (by simp; omega) hl hs k
        refine ih2 x (hp x (List.mem_cons_self ..)) [] S' _ _ _ _ (by simp; omega) hs2 fun w e3 e4 e5 S2 h2 => ?_
        exact lv_rest (by omega) ih2 xs [] x w e3 e4 e5 S2 (fun y hy => hp y (List.mem_cons_of_mem _ hy)) (by simp; omega) h2 fun e3 e4 e5 S3 h3 => k _ e3 e4 e5 S3 (.inr ⟨h3, rfl⟩)
    | non => exact atom .non trivial trivial os r f S rest e3 e4 e5 hs k
    | bl b => exact atom (.bl b) trivial trivial os r f S rest e3 e4 e5 hs k
    | int i => exact atom (.int i) trivial hp os r f S rest e3 e4 e5 hs k
    | str x => exact atom (.str x) trivial hp os r f S rest e3 e4 e5 hs k
    | ref a => simp [PlW] at hp
    | exc _ _ _ _ => simp [PlW] at hp
    | kl _ => simp [PlW] at hp
end
def sp__law_value : FS := fun ds S Q X => ∃ v, ds = [.str (txt v)] ∧ PlW 20 v ∧ (txt v).length ≤ 100000 ∧ Q v S
theorem ok_law_value {ds : List D} {S : SS} {Q : QN} {X : QX} (h : sp__law_value ds S Q X) : u__law_value K c sp__law_atom_value (bodyE Q X) (startE N__law_value ds) S := by
  obtain ⟨v, rfl, hp, hl, q⟩ := h
  have hz : (txt v).length + 1 ≤ sizeLine := by rw [sizeLine_eq]; omega
  rw [lv_eq]
  simp only [dAdd, dAddI, dSub, dEq, dNe, dLt, dLe, dGt, dGe, dIs, SL.isNon, dNeg, fLen, lenD, isTy, mLstrip, seqOf, tru, tyOf, Option.map_some, String.reduceEq, usNil, usSeq, usSet, usExpr, usRet, usRetN, usIf, usBrk, usCnt, usAug, usAsg, usDPut, usRaise, usSub, uVar, uC, uBin, uChain, uUn, uTru, uTb, uAnd, uOr, uNot, uAndV, uOrV, uNotV, uIte, uNil, uCons, uTup, uLst, uNoPart, uPart, uSl, vSl, uFn, gP, uIsi, uBM, uBM0, gM, gAppend, gPop, uCall, uA0, uA1, gId, gApp, isSeq, isRng, isRng2, uDGet, bodyE, startE, ugName, List.map_cons, List.map_nil, List.length_cons, List.length_nil, List.cons_append, List.nil_append, List.getElem?_cons_zero, List.getElem?_cons_succ, List.set_cons_zero, List.set_cons_succ, List.replicate, Nat.add_one_sub_one, Nat.sub_self, Nat.reduceSub, Nat.reduceAdd, Option.some.injEq, exists_eq_left', exists_eq_left, exists_and_left, true_and, and_true, D.bl.injEq, D.int.injEq, D.str.injEq, D.tup.injEq, D.ref.injEq, Ob.lst.injEq, List.cons.injEq, fTup, if_true, if_false, ite_true, ite_false, Bool.false_eq_true, Bool.true_eq_false, reduceIte, usFor, c_e, c_co, hz, vSeq]
  refine ⟨by rw [sizeLine_eq]; decide, fun p hp0 => ⟨by rw [sizeLine_eq]; decide, fun o ho => ?_⟩⟩
  have hs := Stk.new hp0 ho
  rw [List.map_append]
  refine lv_val (S0 := S) (o := o) (t := txt v) 20 v hp [] p [] _ _ none none none (by simp) (by simp; omega) hs fun w e3 e4 e5 S2 h2 => ?_
  refine ⟨trivial, lv_comma h2 (by simp) fun e4 S3 h3 => ?_⟩
  refine ⟨trivial, ?_⟩
  have e1 : L2.atI [D.ref p] 0 = some (.ref p) := rfl
  have e2 : L2.atI [v] 0 = some v := rfl
  have hso := h3.so
  have hpp := (h3.el (p, [v]) (by simp)).2
  simp only [dAdd, dAddI, dSub, dEq, dNe, dLt, dLe, dGt, dGe, dIs, SL.isNon, dNeg, fLen, lenD, isTy, mLstrip, seqOf, tru, tyOf, Option.map_some, String.reduceEq, usNil, usSeq, usSet, usExpr, usRet, usRetN, usIf, usBrk, usCnt, usAug, usAsg, usDPut, usRaise, usSub, uVar, uC, uBin, uChain, uUn, uTru, uTb, uAnd, uOr, uNot, uAndV, uOrV, uNotV, uIte, uNil, uCons, uTup, uLst, uNoPart, uPart, uSl, vSl, uFn, gP, uIsi, uBM, uBM0, gM, gAppend, gPop, uCall, uA0, uA1, gId, gApp, isSeq, isRng, isRng2, uDGet, bodyE, startE, ugName, List.map_cons, List.map_nil, List.length_cons, List.length_nil, List.cons_append, List.nil_append, List.getElem?_cons_zero, List.getElem?_cons_succ, List.set_cons_zero, List.set_cons_succ, List.replicate, Nat.add_one_sub_one, Nat.sub_self, Nat.reduceSub, Nat.reduceAdd, Option.some.injEq, exists_eq_left', exists_eq_left, exists_and_left, true_and, and_true, D.bl.injEq, D.int.injEq, D.str.injEq, D.tup.injEq, D.ref.injEq, Ob.lst.injEq, List.cons.injEq, fTup, if_true, if_false, ite_true, ite_false, Bool.false_eq_true, Bool.true_eq_false, reduceIte, envL, dIx, hso, e1, hpp, e2]
  exact ⟨S, h3.le, q⟩
end K00

set_option Elab.async false
set_option linter.all false
set_option maxRecDepth 100000
set_option maxHeartbeats 4000000
namespace K00
open PySem PySem.Spec L2 SL
/-- what the classes say of each other -/
structure Ks (K : PySem.W.Frag) (c : Cs) : Prop where
  ex : PySem.W.exmOne K (.ref c.InvalidText) (.ref c.InvalidText) = some true
  k1 : PySem.W.kitOne K (.ref c.InvalidText) (.ref c.ShopError) = some true
  k2 : PySem.W.kitOne K (.ref c.InvalidText) (.type "ValueError") = some true
  k3 : PySem.W.kitOne K (.ref c.InvalidText) (.ref c.InvalidValue) = some false
  k4 : PySem.W.kitOne K (.ref c.InvalidText) (.ref c.InvalidDeed) = some false
variable {K : PySem.W.Frag} {c : Cs}
abbrev tV (v : D) : D := .tup [.str (cs "value"), v]
abbrev tW (t : List Nat) (n : Nat) : D := .tup [.str (cs "wrong"), .str t, .int (n : Nat), .bl true]
def sp__law_told : FS := fun ds S Q X => ∃ t, ds = [.str t] ∧ t.length ≤ 1000000 ∧ (∀ v st, rn s0 t = some st → whole st → PlW 20 v → txt v = t → Q (tV v) S) ∧ (∀ n : Nat, Bad s0 t n → Q (tW t n) S)
theorem ok_law_told (k : Ks K c) {ds : List D} {S : SS} {Q : QN} {X : QX} (h : sp__law_told ds S Q X) : u__law_told K c (sp_read_value c) (bodyE Q X) (startE N__law_told ds) S := by
  obtain ⟨t, rfl, ht, hok, hbad⟩ := h
  unfold u__law_told usTryAs
  simp only [dAdd, dAddI, dSub, dEq, dNe, dLt, dLe, dGt, dGe, dIs, SL.isNon, dNeg, fLen, lenD, isTy, mLstrip, seqOf, tru, tyOf, Option.map_some, String.reduceEq, usNil, usSeq, usSet, usExpr, usRet, usRetN, usIf, usBrk, usCnt, usAug, usAsg, usDPut, usRaise, usSub, uVar, uC, uBin, uChain, uUn, uTru, uTb, uAnd, uOr, uNot, uAndV, uOrV, uNotV, uIte, uNil, uCons, uTup, uLst, uNoPart, uPart, uSl, vSl, uFn, gP, uIsi, uBM, uBM0, gM, gAppend, gPop, uCall, uA0, uA1, gId, gApp, isSeq, isRng, isRng2, uDGet, bodyE, startE, ugName, List.map_cons, List.map_nil, List.length_cons, List.length_nil, List.cons_append, List.nil_append, List.getElem?_cons_zero, List.getElem?_cons_succ, List.set_cons_zero, List.set_cons_succ, List.replicate, Nat.add_one_sub_one, Nat.sub_self, Nat.reduceSub, Nat.reduceAdd, Option.some.injEq, exists_eq_left', exists_eq_left, exists_and_left, true_and, and_true, D.bl.injEq, D.int.injEq, D.str.injEq, D.tup.injEq, D.ref.injEq, Ob.lst.injEq, List.cons.injEq, fTup, if_true, if_false, ite_true, ite_false, Bool.false_eq_true, Bool.true_eq_false, reduceIte, tryD]
  refine ⟨t, rfl, ht, fun v st h1 h2 h3 h4 => ⟨z2, S, Le.refl _, hok v st h1 h2 h3 h4⟩, fun n hn => ?_⟩
  refine ⟨true, k.ex, fun _ a dd => ?_, fun z => by cases z⟩
  have l1 : List.lookup ("text" : Str) [(("at" : Str), D.int (n : Nat)), ("text", .str t)] = some (.str t) := rfl
  have l2 : List.lookup ("at" : Str) [(("at" : Str), D.int (n : Nat)), ("text", .str t)] = some (.int (n : Nat)) := rfl
  simp only [dAdd, dAddI, dSub, dEq, dNe, dLt, dLe, dGt, dGe, dIs, SL.isNon, dNeg, fLen, lenD, isTy, mLstrip, seqOf, tru, tyOf, Option.map_some, String.reduceEq, usNil, usSeq, usSet, usExpr, usRet, usRetN, usIf, usBrk, usCnt, usAug, usAsg, usDPut, usRaise, usSub, uVar, uC, uBin, uChain, uUn, uTru, uTb, uAnd, uOr, uNot, uAndV, uOrV, uNotV, uIte, uNil, uCons, uTup, uLst, uNoPart, uPart, uSl, vSl, uFn, gP, uIsi, uBM, uBM0, gM, gAppend, gPop, uCall, uA0, uA1, gId, gApp, isSeq, isRng, isRng2, uDGet, bodyE, startE, ugName, List.map_cons, List.map_nil, List.length_cons, List.length_nil, List.cons_append, List.nil_append, List.getElem?_cons_zero, List.getElem?_cons_succ, List.set_cons_zero, List.set_cons_succ, List.replicate, Nat.add_one_sub_one, Nat.sub_self, Nat.reduceSub, Nat.reduceAdd, Option.some.injEq, exists_eq_left', exists_eq_left, exists_and_left, true_and, and_true, D.bl.injEq, D.int.injEq, D.str.injEq, D.tup.injEq, D.ref.injEq, Ob.lst.injEq, List.cons.injEq, fTup, if_true, if_false, ite_true, ite_false, Bool.false_eq_true, Bool.true_eq_false, reduceIte, uIsE, uExF, asD, List.set_cons_succ, List.set_cons_zero, D.exc.injEq, k.k1, k.k2, k.k3, k.k4, Bool.not_false, and_self]
  exact ⟨_, _, ⟨rfl, rfl⟩, _, _, ⟨rfl, rfl⟩, _, _, ⟨rfl, rfl⟩, _, _, ⟨rfl, rfl⟩, _, _, ⟨rfl, rfl⟩, _, l1, _, _, ⟨rfl, rfl⟩, _, l2, by rw [sizeLine_eq]; decide, S, Le.refl _, hbad n hn⟩
/-! ### _law_judge -/
/-- a text's fate: its state, or where it fails -/
def JP (t : List Nat) (now : D) (at_ : Nat) : Prop := (∃ st, rn s0 t = some st ∧ now = eS st ∧ at_ = t.length) ∨ (now = .non ∧ ∃ st a, rn s0 (t.take at_) = some st ∧ t[at_]? = some a ∧ stp st a = none)
theorem fail_none {t : List Nat} {k m a : Nat} {st : Stt} (h1 : rn s0 (t.take k) = some st) (h2 : t[k]? = some a) (h3 : stp st a = none) (hm : k < m) : rn s0 (t.take m) = none := by
  obtain ⟨hk, _⟩ := List.getElem?_eq_some_iff.mp h2
  have e : t.take m = t.take k ++ a :: (t.drop (k + 1)).take (m - (k + 1)) := by
    have e0 : m = k + (1 + (m - (k + 1))) := by omega
    have e2 : t.take m = t.take (k + (1 + (m - (k + 1)))) := by rw [← e0]
    rw [e2, List.take_add]
    congr 1
    have e1 : t.drop k = a :: t.drop (k + 1) := by
      rw [List.drop_eq_getElem_cons hk]
      rw [List.getElem?_eq_getElem hk] at h2
      rw [Option.some.inj h2]
    rw [e1, Nat.add_comm 1, List.take_succ_cons]
  rw [e, rn_app, h1]
  show (stp st a).bind _ = none
  rw [h3]; rfl
theorem eS_ne {s : Stt} : eS s ≠ .non := fun z => by cases z
def judW (c : Cs) (a b : FS) : US := usIf (uTb (uBin dIs (uVar 4) (uC .non))) (usSeq (usSet 5 (uBin dAdd (uFn (gP fLen) (uCons (uVar 0) uNil)) (uVar 6))) usBrk) usNil
abbrev envJ (head : List Nat) (st : Stt) (sg t : List Nat) (now : D) (at_ : Nat) (e6 : Option D) : En := [some (.str head), some (eS st), some (.str sg), some (.str t), some now, some (.int (at_ : Nat)), e6, none, none]
theorem jud_loop {head sg : List Nat} {st : Stt} {Z : EndsS} {S : SS} (hh : rn s0 head = some st) (hl : (head ++ sg).length ≤ 1000000) (k : ∀ now at_ e6, JP (head ++ sg) now at_ → Z.nx (envJ head st sg (head ++ sg) now at_ e6) S) :
    ∀ (j : Nat) (s1 : Stt) (e6 : Option D), j ≤ sg.length → rn s0 (head ++ sg.take (sg.length - j)) = some s1 →
      forL (ugName 6) (usSeq (usSet 4 (uCall sp__law_step gId (uA1 2 (uCons (uVar 4) (uCons (uBin dIx (uVar 2) (uVar 6)) uNil)))))
  (usIf (uTb (uBin dIs (uVar 4) (uC .non))) (usSeq (usSet 5 (uBin dAdd (uFn (gP fLen) (uCons (uVar 0) uNil)) (uVar 6)))
  usBrk) usNil)) (fun _ => True) Z ((irng 0 sg.length).drop (sg.length - j)) (envJ head st sg (head ++ sg) (eS s1) (head ++ sg).length e6) S
  | 0, s1, e6, hj, hr => by
    have : (irng 0 sg.length).drop (sg.length - 0) = [] := by unfold irng; rw [List.drop_eq_nil_iff]; simp
    rw [this]
    refine ⟨trivial, k _ _ _ (.inl ⟨s1, ?_, rfl, rfl⟩)⟩
    simpa using hr
  | j + 1, s1, e6, hj, hr => by
    have e : (irng 0 sg.length).drop (sg.length - (j + 1)) = .int ((sg.length - (j + 1) : Nat) : Int) :: (irng 0 sg.length).drop (sg.length - j) := by
      have hl : sg.length - (j + 1) < (irng 0 sg.length).length := by simp [irng]; omega
      rw [List.drop_eq_getElem_cons hl]
      congr 1
      · simp [irng]
      · congr 1; omega
    rw [e]
    obtain ⟨a, ha⟩ : ∃ a, sg[sg.length - (j + 1)]? = some a := ⟨_, List.getElem?_eq_getElem (by omega)⟩
    have hz : sg.length ≤ sizeLine := szl (by rw [List.length_append] at hl; omega)
    have hz0 : head.length ≤ sizeLine := szl (by rw [List.length_append] at hl; omega)
    refine ⟨trivial, ?_⟩
    simp only [dAdd, dAddI, dSub, dEq, dNe, dLt, dLe, dGt, dGe, dIs, SL.isNon, dNeg, fLen, lenD, isTy, mLstrip, seqOf, tru, tyOf, Option.map_some, String.reduceEq, usNil, usSeq, usSet, usExpr, usRet, usRetN, usIf, usBrk, usCnt, usAug, usAsg, usDPut, usRaise, usSub, uVar, uC, uBin, uChain, uUn, uTru, uTb, uAnd, uOr, uNot, uAndV, uOrV, uNotV, uIte, uNil, uCons, uTup, uLst, uNoPart, uPart, uSl, vSl, uFn, gP, uIsi, uBM, uBM0, gM, gAppend, gPop, uCall, uA0, uA1, gId, gApp, isSeq, isRng, isRng2, uDGet, bodyE, startE, ugName, List.map_cons, List.map_nil, List.length_cons, List.length_nil, List.cons_append, List.nil_append, List.getElem?_cons_zero, List.getElem?_cons_succ, List.set_cons_zero, List.set_cons_succ, List.replicate, Nat.add_one_sub_one, Nat.sub_self, Nat.reduceSub, Nat.reduceAdd, Option.some.injEq, exists_eq_left', exists_eq_left, exists_and_left, true_and, and_true, D.bl.injEq, D.int.injEq, D.str.injEq, D.tup.injEq, D.ref.injEq, Ob.lst.injEq, List.cons.injEq, fTup, if_true, if_false, ite_true, ite_false, Bool.false_eq_true, Bool.true_eq_false, reduceIte, envJ, dIx, SL.atI_nat, ha, hz, hz0]
    refine ⟨s1, a, rfl, ?_⟩
    have et : head ++ sg.take (sg.length - j) = head ++ sg.take (sg.length - (j + 1)) ++ [a] := by
      have e0 : sg.length - j = (sg.length - (j + 1)) + 1 := by omega
      rw [e0, List.take_succ, ha]; simp
    cases hs : stp s1 a with
    | none =>
      have z : SL.isNon D.non = true := rfl
      simp only [eO, z, dAdd, dAddI, dSub, dEq, dNe, dLt, dLe, dGt, dGe, dIs, SL.isNon, dNeg, fLen, lenD, isTy, mLstrip, seqOf, tru, tyOf, Option.map_some, String.reduceEq, usNil, usSeq, usSet, usExpr, usRet, usRetN, usIf, usBrk, usCnt, usAug, usAsg, usDPut, usRaise, usSub, uVar, uC, uBin, uChain, uUn, uTru, uTb, uAnd, uOr, uNot, uAndV, uOrV, uNotV, uIte, uNil, uCons, uTup, uLst, uNoPart, uPart, uSl, vSl, uFn, gP, uIsi, uBM, uBM0, gM, gAppend, gPop, uCall, uA0, uA1, gId, gApp, isSeq, isRng, isRng2, uDGet, bodyE, startE, ugName, List.map_cons, List.map_nil, List.length_cons, List.length_nil, List.cons_append, List.nil_append, List.getElem?_cons_zero, List.getElem?_cons_succ, List.set_cons_zero, List.set_cons_succ, List.replicate, Nat.add_one_sub_one, Nat.sub_self, Nat.reduceSub, Nat.reduceAdd, Option.some.injEq, exists_eq_left', exists_eq_left, exists_and_left, true_and, and_true, D.bl.injEq, D.int.injEq, D.str.injEq, D.tup.injEq, D.ref.injEq, Ob.lst.injEq, List.cons.injEq, fTup, if_true, if_false, ite_true, ite_false, Bool.false_eq_true, Bool.true_eq_false, reduceIte]
      have e5 : ((head.length : Nat) : Int) + ((sg.length - (j + 1) : Nat) : Int) = ((head.length + (sg.length - (j + 1)) : Nat) : Int) := by omega
      rw [e5]
      refine k .non _ _ (.inr ⟨rfl, s1, a, ?_, ?_, hs⟩)
      · rw [List.take_append, List.take_of_length_le (by omega), Nat.add_sub_cancel_left]; exact hr
      · rw [List.getElem?_append_right (by omega), Nat.add_sub_cancel_left]; exact ha
    | some s2 =>
      have z : SL.isNon (eS s2) = false := rfl
      simp only [eO, z, dAdd, dAddI, dSub, dEq, dNe, dLt, dLe, dGt, dGe, dIs, SL.isNon, dNeg, fLen, lenD, isTy, mLstrip, seqOf, tru, tyOf, Option.map_some, String.reduceEq, usNil, usSeq, usSet, usExpr, usRet, usRetN, usIf, usBrk, usCnt, usAug, usAsg, usDPut, usRaise, usSub, uVar, uC, uBin, uChain, uUn, uTru, uTb, uAnd, uOr, uNot, uAndV, uOrV, uNotV, uIte, uNil, uCons, uTup, uLst, uNoPart, uPart, uSl, vSl, uFn, gP, uIsi, uBM, uBM0, gM, gAppend, gPop, uCall, uA0, uA1, gId, gApp, isSeq, isRng, isRng2, uDGet, bodyE, startE, ugName, List.map_cons, List.map_nil, List.length_cons, List.length_nil, List.cons_append, List.nil_append, List.getElem?_cons_zero, List.getElem?_cons_succ, List.set_cons_zero, List.set_cons_succ, List.replicate, Nat.add_one_sub_one, Nat.sub_self, Nat.reduceSub, Nat.reduceAdd, Option.some.injEq, exists_eq_left', exists_eq_left, exists_and_left, true_and, and_true, D.bl.injEq, D.int.injEq, D.str.injEq, D.tup.injEq, D.ref.injEq, Ob.lst.injEq, List.cons.injEq, fTup, if_true, if_false, ite_true, ite_false, Bool.false_eq_true, Bool.true_eq_false, reduceIte]
      exact jud_loop hh hl k j s2 _ (by omega) (by rw [et]; exact rn_snoc hr hs)
def sp__law_judge : FS := fun ds S Q X => ∃ head st sg, ds = [.str head, eS st, .str sg] ∧ rn s0 head = some st ∧ (head ++ sg).length ≤ 100000 ∧ Q (.bl true) S
theorem ok_law_judge {ds : List D} {S : SS} {Q : QN} {X : QX} (h : sp__law_judge ds S Q X) : u__law_judge K c sp__law_step sp__law_told sp__law_whole sp__law_value (sp_ls 22) sp_is_plain sp_write_value (bodyE Q X) (startE N__law_judge ds) S := by
  obtain ⟨head, st, sg, rfl, hh, hl, q⟩ := h
  have e_ : ∃ S', Le S' S ∧ Q (.bl true) S' := ⟨S, Le.refl _, q⟩
  have hz : head.length + sg.length ≤ sizeLine := by rw [List.length_append] at hl; rw [sizeLine_eq]; omega
  have hz1 : (head ++ sg).length ≤ sizeLine := by rw [List.length_append]; exact hz
  have hz2 : sg.length ≤ sizeLine := by omega
  have hsz : (sg.length : Int) ≤ 16777216 := by have := hz2; rw [sizeLine_eq] at this; omega
  unfold u__law_judge
  simp only [dAdd, dAddI, dSub, dEq, dNe, dLt, dLe, dGt, dGe, dIs, SL.isNon, dNeg, fLen, lenD, isTy, mLstrip, seqOf, tru, tyOf, Option.map_some, String.reduceEq, usNil, usSeq, usSet, usExpr, usRet, usRetN, usIf, usBrk, usCnt, usAug, usAsg, usDPut, usRaise, usSub, uVar, uC, uBin, uChain, uUn, uTru, uTb, uAnd, uOr, uNot, uAndV, uOrV, uNotV, uIte, uNil, uCons, uTup, uLst, uNoPart, uPart, uSl, vSl, uFn, gP, uIsi, uBM, uBM0, gM, gAppend, gPop, uCall, uA0, uA1, gId, gApp, isSeq, isRng, isRng2, uDGet, bodyE, startE, ugName, List.map_cons, List.map_nil, List.length_cons, List.length_nil, List.cons_append, List.nil_append, List.getElem?_cons_zero, List.getElem?_cons_succ, List.set_cons_zero, List.set_cons_succ, List.replicate, Nat.add_one_sub_one, Nat.sub_self, Nat.reduceSub, Nat.reduceAdd, Option.some.injEq, exists_eq_left', exists_eq_left, exists_and_left, true_and, and_true, D.bl.injEq, D.int.injEq, D.str.injEq, D.tup.injEq, D.ref.injEq, Ob.lst.injEq, List.cons.injEq, fTup, if_true, if_false, ite_true, ite_false, Bool.false_eq_true, Bool.true_eq_false, reduceIte, hz, hz1, hz2, usFor]
  refine ⟨by omega, by omega, ?_⟩
  have main := fun (Z : EndsS) (k) => jud_loop (Z := Z) (S := S) hh (by omega) k sg.length st none (Nat.le_refl _) (by simpa using hh)
  simp only [Nat.sub_self, List.drop_zero] at main
  refine main _ fun now at_ e6 jp => ?_
  have v0 : (cs "value" == cs "value") = true := by decide +kernel
  have v1 : (cs "wrong" == cs "wrong") = true := by decide +kernel
  simp only [dAdd, dAddI, dSub, dEq, dNe, dLt, dLe, dGt, dGe, dIs, SL.isNon, dNeg, fLen, lenD, isTy, mLstrip, seqOf, tru, tyOf, Option.map_some, String.reduceEq, usNil, usSeq, usSet, usExpr, usRet, usRetN, usIf, usBrk, usCnt, usAug, usAsg, usDPut, usRaise, usSub, uVar, uC, uBin, uChain, uUn, uTru, uTb, uAnd, uOr, uNot, uAndV, uOrV, uNotV, uIte, uNil, uCons, uTup, uLst, uNoPart, uPart, uSl, vSl, uFn, gP, uIsi, uBM, uBM0, gM, gAppend, gPop, uCall, uA0, uA1, gId, gApp, isSeq, isRng, isRng2, uDGet, bodyE, startE, ugName, List.map_cons, List.map_nil, List.length_cons, List.length_nil, List.cons_append, List.nil_append, List.getElem?_cons_zero, List.getElem?_cons_succ, List.set_cons_zero, List.set_cons_succ, List.replicate, Nat.add_one_sub_one, Nat.sub_self, Nat.reduceSub, Nat.reduceAdd, Option.some.injEq, exists_eq_left', exists_eq_left, exists_and_left, true_and, and_true, D.bl.injEq, D.int.injEq, D.str.injEq, D.tup.injEq, D.ref.injEq, Ob.lst.injEq, List.cons.injEq, fTup, if_true, if_false, ite_true, ite_false, Bool.false_eq_true, Bool.true_eq_false, reduceIte, envJ]
  refine ⟨head ++ sg, rfl, by omega, fun v s1 h1 h2 h3 h4 => ?_, fun n hn => ?_⟩
  · -- a value
    rcases jp with ⟨s2, j1, j2, j3⟩ | ⟨j1, s2, a, j2, j3, j4⟩
    · rw [j1] at h1; cases h1
      subst j2
      have z : SL.isNon (eS s1) = false := rfl
      have i0 : L2.atI [D.str (cs "value"), v] 0 = some (.str (cs "value")) := rfl
      have i1 : L2.atI [D.str (cs "value"), v] 1 = some v := rfl
      simp only [dAdd, dAddI, dSub, dEq, dNe, dLt, dLe, dGt, dGe, dIs, SL.isNon, dNeg, fLen, lenD, isTy, mLstrip, seqOf, tru, tyOf, Option.map_some, String.reduceEq, usNil, usSeq, usSet, usExpr, usRet, usRetN, usIf, usBrk, usCnt, usAug, usAsg, usDPut, usRaise, usSub, uVar, uC, uBin, uChain, uUn, uTru, uTb, uAnd, uOr, uNot, uAndV, uOrV, uNotV, uIte, uNil, uCons, uTup, uLst, uNoPart, uPart, uSl, vSl, uFn, gP, uIsi, uBM, uBM0, gM, gAppend, gPop, uCall, uA0, uA1, gId, gApp, isSeq, isRng, isRng2, uDGet, bodyE, startE, ugName, List.map_cons, List.map_nil, List.length_cons, List.length_nil, List.cons_append, List.nil_append, List.getElem?_cons_zero, List.getElem?_cons_succ, List.set_cons_zero, List.set_cons_succ, List.replicate, Nat.add_one_sub_one, Nat.sub_self, Nat.reduceSub, Nat.reduceAdd, Option.some.injEq, exists_eq_left', exists_eq_left, exists_and_left, true_and, and_true, D.bl.injEq, D.int.injEq, D.str.injEq, D.tup.injEq, D.ref.injEq, Ob.lst.injEq, List.cons.injEq, fTup, if_true, if_false, ite_true, ite_false, Bool.false_eq_true, Bool.true_eq_false, reduceIte, dIsNot, z, Bool.not_false]
      refine ⟨s1, rfl, ?_⟩
      simp only [dAdd, dAddI, dSub, dEq, dNe, dLt, dLe, dGt, dGe, dIs, SL.isNon, dNeg, fLen, lenD, isTy, mLstrip, seqOf, tru, tyOf, Option.map_some, String.reduceEq, usNil, usSeq, usSet, usExpr, usRet, usRetN, usIf, usBrk, usCnt, usAug, usAsg, usDPut, usRaise, usSub, uVar, uC, uBin, uChain, uUn, uTru, uTb, uAnd, uOr, uNot, uAndV, uOrV, uNotV, uIte, uNil, uCons, uTup, uLst, uNoPart, uPart, uSl, vSl, uFn, gP, uIsi, uBM, uBM0, gM, gAppend, gPop, uCall, uA0, uA1, gId, gApp, isSeq, isRng, isRng2, uDGet, bodyE, startE, ugName, List.map_cons, List.map_nil, List.length_cons, List.length_nil, List.cons_append, List.nil_append, List.getElem?_cons_zero, List.getElem?_cons_succ, List.set_cons_zero, List.set_cons_succ, List.replicate, Nat.add_one_sub_one, Nat.sub_self, Nat.reduceSub, Nat.reduceAdd, Option.some.injEq, exists_eq_left', exists_eq_left, exists_and_left, true_and, and_true, D.bl.injEq, D.int.injEq, D.str.injEq, D.tup.injEq, D.ref.injEq, Ob.lst.injEq, List.cons.injEq, fTup, if_true, if_false, ite_true, ite_false, Bool.false_eq_true, Bool.true_eq_false, reduceIte, decide_eq_true h2]
      refine ⟨v, by rw [h4], h3, by rw [h4]; exact hl, ?_⟩
      simp only [dAdd, dAddI, dSub, dEq, dNe, dLt, dLe, dGt, dGe, dIs, SL.isNon, dNeg, fLen, lenD, isTy, mLstrip, seqOf, tru, tyOf, Option.map_some, String.reduceEq, usNil, usSeq, usSet, usExpr, usRet, usRetN, usIf, usBrk, usCnt, usAug, usAsg, usDPut, usRaise, usSub, uVar, uC, uBin, uChain, uUn, uTru, uTb, uAnd, uOr, uNot, uAndV, uOrV, uNotV, uIte, uNil, uCons, uTup, uLst, uNoPart, uPart, uSl, vSl, uFn, gP, uIsi, uBM, uBM0, gM, gAppend, gPop, uCall, uA0, uA1, gId, gApp, isSeq, isRng, isRng2, uDGet, bodyE, startE, ugName, List.map_cons, List.map_nil, List.length_cons, List.length_nil, List.cons_append, List.nil_append, List.getElem?_cons_zero, List.getElem?_cons_succ, List.set_cons_zero, List.set_cons_succ, List.replicate, Nat.add_one_sub_one, Nat.sub_self, Nat.reduceSub, Nat.reduceAdd, Option.some.injEq, exists_eq_left', exists_eq_left, exists_and_left, true_and, and_true, D.bl.injEq, D.int.injEq, D.str.injEq, D.tup.injEq, D.ref.injEq, Ob.lst.injEq, List.cons.injEq, fTup, if_true, if_false, ite_true, ite_false, Bool.false_eq_true, Bool.true_eq_false, reduceIte, dIx, i0, i1, v0, Bool.not_true]
      refine ⟨v, 20, by omega, rfl, h3.ez, by rw [h4]; omega, ?_⟩
      simp only [dAdd, dAddI, dSub, dEq, dNe, dLt, dLe, dGt, dGe, dIs, SL.isNon, dNeg, fLen, lenD, isTy, mLstrip, seqOf, tru, tyOf, Option.map_some, String.reduceEq, usNil, usSeq, usSet, usExpr, usRet, usRetN, usIf, usBrk, usCnt, usAug, usAsg, usDPut, usRaise, usSub, uVar, uC, uBin, uChain, uUn, uTru, uTb, uAnd, uOr, uNot, uAndV, uOrV, uNotV, uIte, uNil, uCons, uTup, uLst, uNoPart, uPart, uSl, vSl, uFn, gP, uIsi, uBM, uBM0, gM, gAppend, gPop, uCall, uA0, uA1, gId, gApp, isSeq, isRng, isRng2, uDGet, bodyE, startE, ugName, List.map_cons, List.map_nil, List.length_cons, List.length_nil, List.cons_append, List.nil_append, List.getElem?_cons_zero, List.getElem?_cons_succ, List.set_cons_zero, List.set_cons_succ, List.replicate, Nat.add_one_sub_one, Nat.sub_self, Nat.reduceSub, Nat.reduceAdd, Option.some.injEq, exists_eq_left', exists_eq_left, exists_and_left, true_and, and_true, D.bl.injEq, D.int.injEq, D.str.injEq, D.tup.injEq, D.ref.injEq, Ob.lst.injEq, List.cons.injEq, fTup, if_true, if_false, ite_true, ite_false, Bool.false_eq_true, Bool.true_eq_false, reduceIte, Bool.not_true]
      refine ⟨v, rfl, h3, ?_⟩
      simp only [dAdd, dAddI, dSub, dEq, dNe, dLt, dLe, dGt, dGe, dIs, SL.isNon, dNeg, fLen, lenD, isTy, mLstrip, seqOf, tru, tyOf, Option.map_some, String.reduceEq, usNil, usSeq, usSet, usExpr, usRet, usRetN, usIf, usBrk, usCnt, usAug, usAsg, usDPut, usRaise, usSub, uVar, uC, uBin, uChain, uUn, uTru, uTb, uAnd, uOr, uNot, uAndV, uOrV, uNotV, uIte, uNil, uCons, uTup, uLst, uNoPart, uPart, uSl, vSl, uFn, gP, uIsi, uBM, uBM0, gM, gAppend, gPop, uCall, uA0, uA1, gId, gApp, isSeq, isRng, isRng2, uDGet, bodyE, startE, ugName, List.map_cons, List.map_nil, List.length_cons, List.length_nil, List.cons_append, List.nil_append, List.getElem?_cons_zero, List.getElem?_cons_succ, List.set_cons_zero, List.set_cons_succ, List.replicate, Nat.add_one_sub_one, Nat.sub_self, Nat.reduceSub, Nat.reduceAdd, Option.some.injEq, exists_eq_left', exists_eq_left, exists_and_left, true_and, and_true, D.bl.injEq, D.int.injEq, D.str.injEq, D.tup.injEq, D.ref.injEq, Ob.lst.injEq, List.cons.injEq, fTup, if_true, if_false, ite_true, ite_false, Bool.false_eq_true, Bool.true_eq_false, reduceIte, beq_self_eq_true, Bool.not_true]
      refine ⟨v, rfl, h3, by rw [h4]; omega, ?_⟩
      rw [h4]
      exact ⟨.str (head ++ sg), 0, by omega, rfl, trivial, by rw [txt]; omega, e_⟩
    · exfalso
      obtain ⟨hk, _⟩ := List.getElem?_eq_some_iff.mp j3
      have := fail_none j2 j3 j4 (m := (head ++ sg).length) hk
      rw [List.take_length, h1] at this; cases this
  · -- an error
    obtain ⟨b1, s3, b2, b3⟩ := hn
    have hat : n = at_ := by
      rcases jp with ⟨s2, j1, j2, j3⟩ | ⟨j1, s2, a, j2, j3, j4⟩
      · rcases b3 with ⟨b3, b4⟩ | ⟨x, b3, b4⟩
        · rw [b3, j3]
        · exfalso
          obtain ⟨hk, _⟩ := List.getElem?_eq_some_iff.mp b3
          have := fail_none b2 b3 b4 (m := (head ++ sg).length) hk
          rw [List.take_length, j1] at this; cases this
      · obtain ⟨hk, _⟩ := List.getElem?_eq_some_iff.mp j3
        rcases Nat.lt_trichotomy n at_ with w | w | w
        · exfalso
          rcases b3 with ⟨b3, b4⟩ | ⟨x, b3, b4⟩
          · omega
          · have := fail_none b2 b3 b4 w
            rw [j2] at this; cases this
        · exact w
        · exfalso
          have := fail_none j2 j3 j4 w
          rw [b2] at this; cases this
    subst hat
    have hw : ∀ s2, now = eS s2 → ¬ whole s2 := fun s2 e hw => by
      rcases jp with ⟨s4, j1, j2, j3⟩ | ⟨j1, _⟩
      · rw [j2] at e
        have es : s4 = s2 := by
          obtain ⟨m4, c4, d4⟩ := s4
          obtain ⟨m2, c2, d2⟩ := s2
          simp only [eS, D.tup.injEq, List.cons.injEq, D.str.injEq, D.int.injEq, and_true] at e
          obtain ⟨e1, e2, e3⟩ := e
          have := md_eq m4 m2
          rw [e1, beq_self_eq_true] at this
          have hm := of_decide_eq_true this.symm
          subst hm
          congr 1 <;> omega
        subst es
        rcases b3 with ⟨b3, b4⟩ | ⟨x, b3, b4⟩
        · rw [b3, List.take_length, j1] at b2; cases b2; exact b4 hw
        · obtain ⟨hk, _⟩ := List.getElem?_eq_some_iff.mp b3
          omega
      · rw [j1] at e; exact eS_ne e.symm
    have i0 : L2.atI [D.str (cs "wrong"), .str (head ++ sg), .int (n : Nat), .bl true] 0 = some (.str (cs "wrong")) := rfl
    have i1 : L2.atI [D.str (cs "wrong"), .str (head ++ sg), .int (n : Nat), .bl true] 1 = some (.str (head ++ sg)) := rfl
    have i2 : L2.atI [D.str (cs "wrong"), .str (head ++ sg), .int (n : Nat), .bl true] 2 = some (.int (n : Nat)) := rfl
    have i3 : L2.atI [D.str (cs "wrong"), .str (head ++ sg), .int (n : Nat), .bl true] 3 = some (.bl true) := rfl
    have hdl : (dig (n : Int)).length ≤ 1000000 := by
      rw [dig_nat]
      have := TL.numL_len (n := n) (k := 7) (by decide) (by omega)
      omega
    have fin : ∀ {Z : US}, (usSeq (usIf (uOr (uTb (uBin dNe (uBin dIx (uVar 7) (uC (.int 0))) (uC (.str (cs "wrong"))))) (uNot (uTru (uBin dIx (uVar 7) (uC (.int 3)))))) (usRet (uC (.bl false))) usNil)
  (usRet (uAndV (uCall (sp_ls 22) gId (uA1 2 (uCons (uBin dIx (uVar 7) (uC (.int 1))) (uCons (uVar 3) uNil)))) (uCall (sp_ls 22) gId (uA1 2 (uCons (uBin dIx (uVar 7) (uC (.int 2))) (uCons (uVar 5) uNil))))))) (bodyE Q X) [some (.str head), some (eS st), some (.str sg), some (.str (head ++ sg)), some now, some (.int (n : Nat)), e6, some (tW (head ++ sg) n), none] S := fun {Z} => by
      simp only [dAdd, dAddI, dSub, dEq, dNe, dLt, dLe, dGt, dGe, dIs, SL.isNon, dNeg, fLen, lenD, isTy, mLstrip, seqOf, tru, tyOf, Option.map_some, String.reduceEq, usNil, usSeq, usSet, usExpr, usRet, usRetN, usIf, usBrk, usCnt, usAug, usAsg, usDPut, usRaise, usSub, uVar, uC, uBin, uChain, uUn, uTru, uTb, uAnd, uOr, uNot, uAndV, uOrV, uNotV, uIte, uNil, uCons, uTup, uLst, uNoPart, uPart, uSl, vSl, uFn, gP, uIsi, uBM, uBM0, gM, gAppend, gPop, uCall, uA0, uA1, gId, gApp, isSeq, isRng, isRng2, uDGet, bodyE, startE, ugName, List.map_cons, List.map_nil, List.length_cons, List.length_nil, List.cons_append, List.nil_append, List.getElem?_cons_zero, List.getElem?_cons_succ, List.set_cons_zero, List.set_cons_succ, List.replicate, Nat.add_one_sub_one, Nat.sub_self, Nat.reduceSub, Nat.reduceAdd, Option.some.injEq, exists_eq_left', exists_eq_left, exists_and_left, true_and, and_true, D.bl.injEq, D.int.injEq, D.str.injEq, D.tup.injEq, D.ref.injEq, Ob.lst.injEq, List.cons.injEq, fTup, if_true, if_false, ite_true, ite_false, Bool.false_eq_true, Bool.true_eq_false, reduceIte, dIx, i0, i1, i2, i3, v1, Bool.not_true]
      refine ⟨.str (head ++ sg), 0, by omega, rfl, trivial, by rw [txt]; omega, ?_⟩
      simp only [dAdd, dAddI, dSub, dEq, dNe, dLt, dLe, dGt, dGe, dIs, SL.isNon, dNeg, fLen, lenD, isTy, mLstrip, seqOf, tru, tyOf, Option.map_some, String.reduceEq, usNil, usSeq, usSet, usExpr, usRet, usRetN, usIf, usBrk, usCnt, usAug, usAsg, usDPut, usRaise, usSub, uVar, uC, uBin, uChain, uUn, uTru, uTb, uAnd, uOr, uNot, uAndV, uOrV, uNotV, uIte, uNil, uCons, uTup, uLst, uNoPart, uPart, uSl, vSl, uFn, gP, uIsi, uBM, uBM0, gM, gAppend, gPop, uCall, uA0, uA1, gId, gApp, isSeq, isRng, isRng2, uDGet, bodyE, startE, ugName, List.map_cons, List.map_nil, List.length_cons, List.length_nil, List.cons_append, List.nil_append, List.getElem?_cons_zero, List.getElem?_cons_succ, List.set_cons_zero, List.set_cons_succ, List.replicate, Nat.add_one_sub_one, Nat.sub_self, Nat.reduceSub, Nat.reduceAdd, Option.some.injEq, exists_eq_left', exists_eq_left, exists_and_left, true_and, and_true, D.bl.injEq, D.int.injEq, D.str.injEq, D.tup.injEq, D.ref.injEq, Ob.lst.injEq, List.cons.injEq, fTup, if_true, if_false, ite_true, ite_false, Bool.false_eq_true, Bool.true_eq_false, reduceIte]
      exact ⟨.int (n : Nat), 0, by omega, rfl, trivial, by rw [txt]; exact hdl, e_⟩
    simp only [dAdd, dAddI, dSub, dEq, dNe, dLt, dLe, dGt, dGe, dIs, SL.isNon, dNeg, fLen, lenD, isTy, mLstrip, seqOf, tru, tyOf, Option.map_some, String.reduceEq, usNil, usSeq, usSet, usExpr, usRet, usRetN, usIf, usBrk, usCnt, usAug, usAsg, usDPut, usRaise, usSub, uVar, uC, uBin, uChain, uUn, uTru, uTb, uAnd, uOr, uNot, uAndV, uOrV, uNotV, uIte, uNil, uCons, uTup, uLst, uNoPart, uPart, uSl, vSl, uFn, gP, uIsi, uBM, uBM0, gM, gAppend, gPop, uCall, uA0, uA1, gId, gApp, isSeq, isRng, isRng2, uDGet, bodyE, startE, ugName, List.map_cons, List.map_nil, List.length_cons, List.length_nil, List.cons_append, List.nil_append, List.getElem?_cons_zero, List.getElem?_cons_succ, List.set_cons_zero, List.set_cons_succ, List.replicate, Nat.add_one_sub_one, Nat.sub_self, Nat.reduceSub, Nat.reduceAdd, Option.some.injEq, exists_eq_left', exists_eq_left, exists_and_left, true_and, and_true, D.bl.injEq, D.int.injEq, D.str.injEq, D.tup.injEq, D.ref.injEq, Ob.lst.injEq, List.cons.injEq, fTup, if_true, if_false, ite_true, ite_false, Bool.false_eq_true, Bool.true_eq_false, reduceIte, bodyE] at fin
    rcases jp with ⟨s2, j1, j2, j3⟩ | ⟨j1, s2, a, j2, j3, j4⟩
    · subst j2
      have z : SL.isNon (eS s2) = false := rfl
      simp only [dAdd, dAddI, dSub, dEq, dNe, dLt, dLe, dGt, dGe, dIs, SL.isNon, dNeg, fLen, lenD, isTy, mLstrip, seqOf, tru, tyOf, Option.map_some, String.reduceEq, usNil, usSeq, usSet, usExpr, usRet, usRetN, usIf, usBrk, usCnt, usAug, usAsg, usDPut, usRaise, usSub, uVar, uC, uBin, uChain, uUn, uTru, uTb, uAnd, uOr, uNot, uAndV, uOrV, uNotV, uIte, uNil, uCons, uTup, uLst, uNoPart, uPart, uSl, vSl, uFn, gP, uIsi, uBM, uBM0, gM, gAppend, gPop, uCall, uA0, uA1, gId, gApp, isSeq, isRng, isRng2, uDGet, bodyE, startE, ugName, List.map_cons, List.map_nil, List.length_cons, List.length_nil, List.cons_append, List.nil_append, List.getElem?_cons_zero, List.getElem?_cons_succ, List.set_cons_zero, List.set_cons_succ, List.replicate, Nat.add_one_sub_one, Nat.sub_self, Nat.reduceSub, Nat.reduceAdd, Option.some.injEq, exists_eq_left', exists_eq_left, exists_and_left, true_and, and_true, D.bl.injEq, D.int.injEq, D.str.injEq, D.tup.injEq, D.ref.injEq, Ob.lst.injEq, List.cons.injEq, fTup, if_true, if_false, ite_true, ite_false, Bool.false_eq_true, Bool.true_eq_false, reduceIte, dIsNot, z, Bool.not_false]
      refine ⟨s2, rfl, ?_⟩
      simp only [dAdd, dAddI, dSub, dEq, dNe, dLt, dLe, dGt, dGe, dIs, SL.isNon, dNeg, fLen, lenD, isTy, mLstrip, seqOf, tru, tyOf, Option.map_some, String.reduceEq, usNil, usSeq, usSet, usExpr, usRet, usRetN, usIf, usBrk, usCnt, usAug, usAsg, usDPut, usRaise, usSub, uVar, uC, uBin, uChain, uUn, uTru, uTb, uAnd, uOr, uNot, uAndV, uOrV, uNotV, uIte, uNil, uCons, uTup, uLst, uNoPart, uPart, uSl, vSl, uFn, gP, uIsi, uBM, uBM0, gM, gAppend, gPop, uCall, uA0, uA1, gId, gApp, isSeq, isRng, isRng2, uDGet, bodyE, startE, ugName, List.map_cons, List.map_nil, List.length_cons, List.length_nil, List.cons_append, List.nil_append, List.getElem?_cons_zero, List.getElem?_cons_succ, List.set_cons_zero, List.set_cons_succ, List.replicate, Nat.add_one_sub_one, Nat.sub_self, Nat.reduceSub, Nat.reduceAdd, Option.some.injEq, exists_eq_left', exists_eq_left, exists_and_left, true_and, and_true, D.bl.injEq, D.int.injEq, D.str.injEq, D.tup.injEq, D.ref.injEq, Ob.lst.injEq, List.cons.injEq, fTup, if_true, if_false, ite_true, ite_false, Bool.false_eq_true, Bool.true_eq_false, reduceIte, decide_eq_false (hw s2 rfl)]
      exact fin (Z := usNil)
    · subst j1
      have z : SL.isNon D.non = true := rfl
      simp only [dAdd, dAddI, dSub, dEq, dNe, dLt, dLe, dGt, dGe, dIs, SL.isNon, dNeg, fLen, lenD, isTy, mLstrip, seqOf, tru, tyOf, Option.map_some, String.reduceEq, usNil, usSeq, usSet, usExpr, usRet, usRetN, usIf, usBrk, usCnt, usAug, usAsg, usDPut, usRaise, usSub, uVar, uC, uBin, uChain, uUn, uTru, uTb, uAnd, uOr, uNot, uAndV, uOrV, uNotV, uIte, uNil, uCons, uTup, uLst, uNoPart, uPart, uSl, vSl, uFn, gP, uIsi, uBM, uBM0, gM, gAppend, gPop, uCall, uA0, uA1, gId, gApp, isSeq, isRng, isRng2, uDGet, bodyE, startE, ugName, List.map_cons, List.map_nil, List.length_cons, List.length_nil, List.cons_append, List.nil_append, List.getElem?_cons_zero, List.getElem?_cons_succ, List.set_cons_zero, List.set_cons_succ, List.replicate, Nat.add_one_sub_one, Nat.sub_self, Nat.reduceSub, Nat.reduceAdd, Option.some.injEq, exists_eq_left', exists_eq_left, exists_and_left, true_and, and_true, D.bl.injEq, D.int.injEq, D.str.injEq, D.tup.injEq, D.ref.injEq, Ob.lst.injEq, List.cons.injEq, fTup, if_true, if_false, ite_true, ite_false, Bool.false_eq_true, Bool.true_eq_false, reduceIte, dIsNot, z, Bool.not_true]
      exact fin (Z := usNil)
def sp__law_signs : FS := fun ds S Q X => ds = [] ∧ ∀ sg : List Nat, sg.length ≤ 60 → 0 < sg.length → Q (.str sg) S
theorem ok_law_signs {ds : List D} {S : SS} {Q : QN} {X : QX} (h : sp__law_signs ds S Q X) : u__law_signs K c (bodyE Q X) (startE N__law_signs ds) S := by
  obtain ⟨rfl, q⟩ := h
  unfold u__law_signs
  simp only [dAdd, dAddI, dSub, dEq, dNe, dLt, dLe, dGt, dGe, dIs, SL.isNon, dNeg, fLen, lenD, isTy, mLstrip, seqOf, tru, tyOf, Option.map_some, String.reduceEq, usNil, usSeq, usSet, usExpr, usRet, usRetN, usIf, usBrk, usCnt, usAug, usAsg, usDPut, usRaise, usSub, uVar, uC, uBin, uChain, uUn, uTru, uTb, uAnd, uOr, uNot, uAndV, uOrV, uNotV, uIte, uNil, uCons, uTup, uLst, uNoPart, uPart, uSl, vSl, uFn, gP, uIsi, uBM, uBM0, gM, gAppend, gPop, uCall, uA0, uA1, gId, gApp, isSeq, isRng, isRng2, uDGet, bodyE, startE, ugName, List.map_cons, List.map_nil, List.length_cons, List.length_nil, List.cons_append, List.nil_append, List.getElem?_cons_zero, List.getElem?_cons_succ, List.set_cons_zero, List.set_cons_succ, List.replicate, Nat.add_one_sub_one, Nat.sub_self, Nat.reduceSub, Nat.reduceAdd, Option.some.injEq, exists_eq_left', exists_eq_left, exists_and_left, true_and, and_true, D.bl.injEq, D.int.injEq, D.str.injEq, D.tup.injEq, D.ref.injEq, Ob.lst.injEq, List.cons.injEq, fTup, if_true, if_false, ite_true, ite_false, Bool.false_eq_true, Bool.true_eq_false, reduceIte]
  exact ⟨S, Le.refl _, q _ (by decide +kernel) (by decide +kernel)⟩
end K00

set_option Elab.async false
set_option linter.all false
set_option maxRecDepth 100000
set_option maxHeartbeats 4000000
namespace K00
open PySem PySem.Spec L2 SL
variable {K : PySem.W.Frag} {c : Cs}
theorem ne_cells_at : ¬ (Str.ofString "cells" = Str.ofString "at") := by decide +kernel
theorem ne_cells_great : ¬ (Str.ofString "cells" = Str.ofString "great") := by decide +kernel
theorem ne_cells_left : ¬ (Str.ofString "cells" = Str.ofString "left") := by decide +kernel
theorem ne_cells_salt : ¬ (Str.ofString "cells" = Str.ofString "salt") := by decide +kernel
theorem ne_cells_turn : ¬ (Str.ofString "cells" = Str.ofString "turn") := by decide +kernel
theorem ne_at_cells : ¬ (Str.ofString "at" = Str.ofString "cells") := by decide +kernel
theorem ne_at_great : ¬ (Str.ofString "at" = Str.ofString "great") := by decide +kernel
theorem ne_at_left : ¬ (Str.ofString "at" = Str.ofString "left") := by decide +kernel
theorem ne_at_salt : ¬ (Str.ofString "at" = Str.ofString "salt") := by decide +kernel
theorem ne_at_turn : ¬ (Str.ofString "at" = Str.ofString "turn") := by decide +kernel
theorem ne_great_cells : ¬ (Str.ofString "great" = Str.ofString "cells") := by decide +kernel
theorem ne_great_at : ¬ (Str.ofString "great" = Str.ofString "at") := by decide +kernel
theorem ne_great_left : ¬ (Str.ofString "great" = Str.ofString "left") := by decide +kernel
theorem ne_great_salt : ¬ (Str.ofString "great" = Str.ofString "salt") := by decide +kernel
theorem ne_great_turn : ¬ (Str.ofString "great" = Str.ofString "turn") := by decide +kernel
theorem ne_left_cells : ¬ (Str.ofString "left" = Str.ofString "cells") := by decide +kernel
theorem ne_left_at : ¬ (Str.ofString "left" = Str.ofString "at") := by decide +kernel
theorem ne_left_great : ¬ (Str.ofString "left" = Str.ofString "great") := by decide +kernel
theorem ne_left_salt : ¬ (Str.ofString "left" = Str.ofString "salt") := by decide +kernel
theorem ne_left_turn : ¬ (Str.ofString "left" = Str.ofString "turn") := by decide +kernel
theorem ne_salt_cells : ¬ (Str.ofString "salt" = Str.ofString "cells") := by decide +kernel
theorem ne_salt_at : ¬ (Str.ofString "salt" = Str.ofString "at") := by decide +kernel
theorem ne_salt_great : ¬ (Str.ofString "salt" = Str.ofString "great") := by decide +kernel
theorem ne_salt_left : ¬ (Str.ofString "salt" = Str.ofString "left") := by decide +kernel
theorem ne_salt_turn : ¬ (Str.ofString "salt" = Str.ofString "turn") := by decide +kernel
theorem ne_turn_cells : ¬ (Str.ofString "turn" = Str.ofString "cells") := by decide +kernel
theorem ne_turn_at : ¬ (Str.ofString "turn" = Str.ofString "at") := by decide +kernel
theorem ne_turn_great : ¬ (Str.ofString "turn" = Str.ofString "great") := by decide +kernel
theorem ne_turn_left : ¬ (Str.ofString "turn" = Str.ofString "left") := by decide +kernel
theorem ne_turn_salt : ¬ (Str.ofString "turn" = Str.ofString "salt") := by decide +kernel
def jd (cr : Addr) (a g l s t : Int) : List (Key × D) := [(Sum.inr "cells", .ref cr), (Sum.inr "at", .int a), (Sum.inr "great", .int g), (Sum.inr "left", .int l), (Sum.inr "salt", .int s), (Sum.inr "turn", .int t)]
theorem dvl_cells {cr : Addr} {a g l s t : Int} : dvl (Sum.inr (Str.ofString "cells")) (jd cr a g l s t) = some (.ref cr) := by simp only [dvl, jd, Sum.inr.injEq, ne_cells_at, ne_cells_great, ne_cells_left, ne_cells_salt, ne_cells_turn, ne_at_cells, ne_at_great, ne_at_left, ne_at_salt, ne_at_turn, ne_great_cells, ne_great_at, ne_great_left, ne_great_salt, ne_great_turn, ne_left_cells, ne_left_at, ne_left_great, ne_left_salt, ne_left_turn, ne_salt_cells, ne_salt_at, ne_salt_great, ne_salt_left, ne_salt_turn, ne_turn_cells, ne_turn_at, ne_turn_great, ne_turn_left, ne_turn_salt, if_true, if_false]
theorem dvl_at {cr : Addr} {a g l s t : Int} : dvl (Sum.inr (Str.ofString "at")) (jd cr a g l s t) = some (.int a) := by simp only [dvl, jd, Sum.inr.injEq, ne_cells_at, ne_cells_great, ne_cells_left, ne_cells_salt, ne_cells_turn, ne_at_cells, ne_at_great, ne_at_left, ne_at_salt, ne_at_turn, ne_great_cells, ne_great_at, ne_great_left, ne_great_salt, ne_great_turn, ne_left_cells, ne_left_at, ne_left_great, ne_left_salt, ne_left_turn, ne_salt_cells, ne_salt_at, ne_salt_great, ne_salt_left, ne_salt_turn, ne_turn_cells, ne_turn_at, ne_turn_great, ne_turn_left, ne_turn_salt, if_true, if_false]
theorem dvl_great {cr : Addr} {a g l s t : Int} : dvl (Sum.inr (Str.ofString "great")) (jd cr a g l s t) = some (.int g) := by simp only [dvl, jd, Sum.inr.injEq, ne_cells_at, ne_cells_great, ne_cells_left, ne_cells_salt, ne_cells_turn, ne_at_cells, ne_at_great, ne_at_left, ne_at_salt, ne_at_turn, ne_great_cells, ne_great_at, ne_great_left, ne_great_salt, ne_great_turn, ne_left_cells, ne_left_at, ne_left_great, ne_left_salt, ne_left_turn, ne_salt_cells, ne_salt_at, ne_salt_great, ne_salt_left, ne_salt_turn, ne_turn_cells, ne_turn_at, ne_turn_great, ne_turn_left, ne_turn_salt, if_true, if_false]
theorem dvl_left {cr : Addr} {a g l s t : Int} : dvl (Sum.inr (Str.ofString "left")) (jd cr a g l s t) = some (.int l) := by simp only [dvl, jd, Sum.inr.injEq, ne_cells_at, ne_cells_great, ne_cells_left, ne_cells_salt, ne_cells_turn, ne_at_cells, ne_at_great, ne_at_left, ne_at_salt, ne_at_turn, ne_great_cells, ne_great_at, ne_great_left, ne_great_salt, ne_great_turn, ne_left_cells, ne_left_at, ne_left_great, ne_left_salt, ne_left_turn, ne_salt_cells, ne_salt_at, ne_salt_great, ne_salt_left, ne_salt_turn, ne_turn_cells, ne_turn_at, ne_turn_great, ne_turn_left, ne_turn_salt, if_true, if_false]
theorem dvl_salt {cr : Addr} {a g l s t : Int} : dvl (Sum.inr (Str.ofString "salt")) (jd cr a g l s t) = some (.int s) := by simp only [dvl, jd, Sum.inr.injEq, ne_cells_at, ne_cells_great, ne_cells_left, ne_cells_salt, ne_cells_turn, ne_at_cells, ne_at_great, ne_at_left, ne_at_salt, ne_at_turn, ne_great_cells, ne_great_at, ne_great_left, ne_great_salt, ne_great_turn, ne_left_cells, ne_left_at, ne_left_great, ne_left_salt, ne_left_turn, ne_salt_cells, ne_salt_at, ne_salt_great, ne_salt_left, ne_salt_turn, ne_turn_cells, ne_turn_at, ne_turn_great, ne_turn_left, ne_turn_salt, if_true, if_false]
theorem dvl_turn {cr : Addr} {a g l s t : Int} : dvl (Sum.inr (Str.ofString "turn")) (jd cr a g l s t) = some (.int t) := by simp only [dvl, jd, Sum.inr.injEq, ne_cells_at, ne_cells_great, ne_cells_left, ne_cells_salt, ne_cells_turn, ne_at_cells, ne_at_great, ne_at_left, ne_at_salt, ne_at_turn, ne_great_cells, ne_great_at, ne_great_left, ne_great_salt, ne_great_turn, ne_left_cells, ne_left_at, ne_left_great, ne_left_salt, ne_left_turn, ne_salt_cells, ne_salt_at, ne_salt_great, ne_salt_left, ne_salt_turn, ne_turn_cells, ne_turn_at, ne_turn_great, ne_turn_left, ne_turn_salt, if_true, if_false]
theorem dput_at {cr : Addr} {a g l s t x : Int} : dput (Sum.inr (Str.ofString "at")) (.int x) (jd cr a g l s t) = jd cr x g l s t := by simp [dput, dhas, jd, ne_cells_at, ne_cells_great, ne_cells_left, ne_cells_salt, ne_cells_turn, ne_at_cells, ne_at_great, ne_at_left, ne_at_salt, ne_at_turn, ne_great_cells, ne_great_at, ne_great_left, ne_great_salt, ne_great_turn, ne_left_cells, ne_left_at, ne_left_great, ne_left_salt, ne_left_turn, ne_salt_cells, ne_salt_at, ne_salt_great, ne_salt_left, ne_salt_turn, ne_turn_cells, ne_turn_at, ne_turn_great, ne_turn_left, ne_turn_salt]
theorem dput_great {cr : Addr} {a g l s t x : Int} : dput (Sum.inr (Str.ofString "great")) (.int x) (jd cr a g l s t) = jd cr a x l s t := by simp [dput, dhas, jd, ne_cells_at, ne_cells_great, ne_cells_left, ne_cells_salt, ne_cells_turn, ne_at_cells, ne_at_great, ne_at_left, ne_at_salt, ne_at_turn, ne_great_cells, ne_great_at, ne_great_left, ne_great_salt, ne_great_turn, ne_left_cells, ne_left_at, ne_left_great, ne_left_salt, ne_left_turn, ne_salt_cells, ne_salt_at, ne_salt_great, ne_salt_left, ne_salt_turn, ne_turn_cells, ne_turn_at, ne_turn_great, ne_turn_left, ne_turn_salt]
theorem dput_left {cr : Addr} {a g l s t x : Int} : dput (Sum.inr (Str.ofString "left")) (.int x) (jd cr a g l s t) = jd cr a g x s t := by simp [dput, dhas, jd, ne_cells_at, ne_cells_great, ne_cells_left, ne_cells_salt, ne_cells_turn, ne_at_cells, ne_at_great, ne_at_left, ne_at_salt, ne_at_turn, ne_great_cells, ne_great_at, ne_great_left, ne_great_salt, ne_great_turn, ne_left_cells, ne_left_at, ne_left_great, ne_left_salt, ne_left_turn, ne_salt_cells, ne_salt_at, ne_salt_great, ne_salt_left, ne_salt_turn, ne_turn_cells, ne_turn_at, ne_turn_great, ne_turn_left, ne_turn_salt]
theorem dput_salt {cr : Addr} {a g l s t x : Int} : dput (Sum.inr (Str.ofString "salt")) (.int x) (jd cr a g l s t) = jd cr a g l x t := by simp [dput, dhas, jd, ne_cells_at, ne_cells_great, ne_cells_left, ne_cells_salt, ne_cells_turn, ne_at_cells, ne_at_great, ne_at_left, ne_at_salt, ne_at_turn, ne_great_cells, ne_great_at, ne_great_left, ne_great_salt, ne_great_turn, ne_left_cells, ne_left_at, ne_left_great, ne_left_salt, ne_left_turn, ne_salt_cells, ne_salt_at, ne_salt_great, ne_salt_left, ne_salt_turn, ne_turn_cells, ne_turn_at, ne_turn_great, ne_turn_left, ne_turn_salt]
theorem dput_turn {cr : Addr} {a g l s t x : Int} : dput (Sum.inr (Str.ofString "turn")) (.int x) (jd cr a g l s t) = jd cr a g l s x := by simp [dput, dhas, jd, ne_cells_at, ne_cells_great, ne_cells_left, ne_cells_salt, ne_cells_turn, ne_at_cells, ne_at_great, ne_at_left, ne_at_salt, ne_at_turn, ne_great_cells, ne_great_at, ne_great_left, ne_great_salt, ne_great_turn, ne_left_cells, ne_left_at, ne_left_great, ne_left_salt, ne_left_turn, ne_salt_cells, ne_salt_at, ne_salt_great, ne_salt_left, ne_salt_turn, ne_turn_cells, ne_turn_at, ne_turn_great, ne_turn_left, ne_turn_salt]
theorem jd_len {cr : Addr} {a g l s t : Int} : (jd cr a g l s t).length < 1000 := by simp [jd]
theorem key_cs {s : String} : keyOf (.str (cs s)) = some (Sum.inr (Str.ofString s)) := by simp only [keyOf, tx_cs]
theorem cmul_small {i j : Int} (hi : i.natAbs < 2 ^ 60) (hj : j.natAbs < 2 ^ 60) : CMulW i j := wide_mul hi hj (by decide) (by decide) (by decide)
theorem cdiv_small {i j : Int} (h : 0 < j) (hj : j.natAbs < 2 ^ 60) : CDivW i j := wide_div h hj (by decide) (by decide)
def JK (cr : Addr) (n : Nat) (kvs : List (Key × D)) : Prop := ∃ a g l s t : Int, kvs = jd cr a g l s t ∧ 0 ≤ a ∧ 0 ≤ l ∧ 0 ≤ s ∧ s < 1000003 ∧ 0 ≤ t ∧ t ≤ n
def JarS (S : SS) (jar cr : Addr) (n : Nat) : Prop := cr ≠ jar ∧ (∃ kvs, S jar = some (.dic kvs) ∧ JK cr n kvs) ∧ ∃ xs : List Int, S cr = some (.lst (xs.map .int)) ∧ xs.length ≤ 63
def sp__law_draw : FS := fun ds S Q X => ∃ jar cr n, ∃ many : Int, ds = [.ref jar, .int many] ∧ 0 < many ∧ many ≤ 1000000 ∧ n ≤ 1000000 ∧ JarS S jar cr n ∧ ∀ r kvs, 0 ≤ r → r < many → JK cr (n + 1) kvs → Q (.int r) (SL.sup S jar (.dic kvs))
def drT : US := usSeq (usIf (uTb (uBin dGt (uDGet (uVar 0) (uC (.str (cs "left")))) (uC (.int 0)))) (usSeq (usSet 3 (uBin dMod (uFn (gP fInt) (uCons (uDGet (uVar 0) (uC (.str (cs "great")))) uNil)) (uVar 1)))
  (usSeq (usDPut (uVar 0) (uC (.str (cs "great"))) (uBin dDiv (uFn (gP fInt) (uCons (uDGet (uVar 0) (uC (.str (cs "great")))) uNil)) (uVar 1)))
  (usSeq (usDPut (uVar 0) (uC (.str (cs "left"))) (uBin dSub (uDGet (uVar 0) (uC (.str (cs "left")))) (uC (.int 1))))
  (usSeq (usIf (uTb (uBin dEq (uDGet (uVar 0) (uC (.str (cs "great")))) (uC (.int 0)))) (usDPut (uVar 0) (uC (.str (cs "left"))) (uC (.int 0))) usNil)
  (usRet (uVar 3)))))) usNil)
  (usSeq (usSet 4 (uBin dMod (uFn (gP fInt) (uCons (uBin dAdd (uBin dAdd (uBin dMul (uDGet (uVar 0) (uC (.str (cs "salt")))) (uC (.int 48271))) (uBin dMul (uDGet (uVar 0) (uC (.str (cs "turn")))) (uC (.int 69621)))) (uC (.int 11))) uNil)) (uC (.int 2147483647))))
  (usSeq (usSet 4 (uBin dMod (uFn (gP fInt) (uCons (uBin dAdd (uBin dAdd (uBin dMul (uVar 4) (uVar 4)) (uBin dMul (uDGet (uVar 0) (uC (.str (cs "turn")))) (uC (.int 40692)))) (uC (.int 3))) uNil)) (uC (.int 2147483629))))
  (usRet (uBin dMod (uFn (gP fInt) (uCons (uBin dDiv (uVar 4) (uC (.int 7))) uNil)) (uVar 1)))))
def drM : US := usIf (uAnd (uTb (uBin dEq (uDGet (uVar 0) (uC (.str (cs "left")))) (uC (.int 0)))) (uTb (uBin dLt (uDGet (uVar 0) (uC (.str (cs "at")))) (uFn (gP fLen) (uCons (uDGet (uVar 0) (uC (.str (cs "cells")))) uNil))))) (usSeq (usSet 2 (uBin dIx (uDGet (uVar 0) (uC (.str (cs "cells")))) (uDGet (uVar 0) (uC (.str (cs "at"))))))
  (usSeq (usDPut (uVar 0) (uC (.str (cs "at"))) (uBin dAdd (uDGet (uVar 0) (uC (.str (cs "at")))) (uC (.int 1))))
  (usSeq (usDPut (uVar 0) (uC (.str (cs "salt"))) (uBin dMod (uFn (gP fInt) (uCons (uBin dAdd (uBin dAdd (uBin dMul (uDGet (uVar 0) (uC (.str (cs "salt")))) (uC (.int 31))) (uBin dMod (uFn (gP fInt) (uCons (uVar 2) uNil)) (uC (.int 1000003)))) (uC (.int 7))) uNil)) (uC (.int 1000003))))
  (usIf (uTb (uBin dGe (uVar 2) (uBin dPow (uC (.int 10)) (uC (.int 18))))) (usSeq (usDPut (uVar 0) (uC (.str (cs "great"))) (uVar 2))
  (usDPut (uVar 0) (uC (.str (cs "left"))) (uC (.int 60)))) usNil)))) usNil
theorem dr_eq : u__law_draw K c = usSeq (usDPut (uVar 0) (uC (.str (cs "turn"))) (uBin dAdd (uDGet (uVar 0) (uC (.str (cs "turn")))) (uC (.int 1)))) (usSeq drM drT) := rfl
theorem drT_of {jar cr : Addr} {many a g l s t : Int} {n : Nat} {e2 : Option D} {S : SS} {Q : QN} {X : QX} (hm : 0 < many) (hm2 : many ≤ 1000000) (hn : n ≤ 1000000)
    (ha : 0 ≤ a) (hl : 0 ≤ l) (hs : 0 ≤ s) (hs2 : s < 1000003) (ht : 0 ≤ t) (htn : t ≤ (n + 1 : Nat)) (q : ∀ r kvs, 0 ≤ r → r < many → JK cr (n + 1) kvs → Q (.int r) (SL.sup S jar (.dic kvs))) :
    drT (bodyE Q X) [some (.ref jar), some (.int many), e2, none, none] (SL.sup S jar (.dic (jd cr a g l s t))) := by
  have e_ : ∀ {d : D} {S1 : SS}, (∃ r kvs, d = .int r ∧ S1 = SL.sup S jar (.dic kvs) ∧ 0 ≤ r ∧ r < many ∧ JK cr (n + 1) kvs) → ∃ S', Le S' S1 ∧ Q d S' := fun {d S1} ⟨r, kvs, e1, e2, h1, h2, h3⟩ => ⟨S1, Le.refl _, by rw [e1, e2]; exact q r kvs h1 h2 h3⟩
  have hdv : ∀ i, CDivW i many := fun i => cdiv_small hm (by omega)
  have w1 : CMulW s 48271 := cmul_small (by omega) (by decide)
  have w2 : CMulW t 69621 := cmul_small (by omega) (by decide)
  have w4 : CMulW t 40692 := cmul_small (by omega) (by decide)
  have w3 : ∀ z : Int, CMulW (z % 2147483647) (z % 2147483647) := fun z => cmul_small (by omega) (by omega)
  have w5 : ∀ z : Int, CDivW z 7 := fun z => cdiv_small (by decide) (by decide)
  have p1 : (0 : Int) < 2147483647 := by decide
  have p2 : (0 : Int) < 2147483629 := by decide
  unfold drT
  simp only [dAdd, dAddI, dSub, dEq, dNe, dLt, dLe, dGt, dGe, dIs, SL.isNon, dNeg, fLen, lenD, isTy, mLstrip, seqOf, tru, tyOf, Option.map_some, String.reduceEq, usNil, usSeq, usSet, usExpr, usRet, usRetN, usIf, usBrk, usCnt, usAug, usAsg, usDPut, usRaise, usSub, uVar, uC, uBin, uChain, uUn, uTru, uTb, uAnd, uOr, uNot, uAndV, uOrV, uNotV, uIte, uNil, uCons, uTup, uLst, uNoPart, uPart, uSl, vSl, uFn, gP, uIsi, uBM, uBM0, gM, gAppend, gPop, uCall, uA0, uA1, gId, gApp, isSeq, isRng, isRng2, uDGet, bodyE, startE, ugName, List.map_cons, List.map_nil, List.length_cons, List.length_nil, List.cons_append, List.nil_append, List.getElem?_cons_zero, List.getElem?_cons_succ, List.set_cons_zero, List.set_cons_succ, List.replicate, Nat.add_one_sub_one, Nat.sub_self, Nat.reduceSub, Nat.reduceAdd, Option.some.injEq, exists_eq_left', exists_eq_left, exists_and_left, true_and, and_true, D.bl.injEq, D.int.injEq, D.str.injEq, D.tup.injEq, D.ref.injEq, Ob.lst.injEq, List.cons.injEq, fTup, if_true, if_false, ite_true, ite_false, Bool.false_eq_true, Bool.true_eq_false, reduceIte, key_cs, dvl_cells, dvl_at, dvl_great, dvl_left, dvl_salt, dvl_turn, dput_at, dput_great, dput_left, dput_salt, dput_turn, jd_len, Ob.dic.injEq, sup_same, sup_sup, dMod, dDiv, dMul, fInt, hm, hdv, w1, w2, w3, w4, w5, p1, p2]
  by_cases h0 : 0 < l
  · rw [if_pos (decide_eq_true h0)]
    by_cases h1 : (g / many == 0) = true
    · rw [if_pos h1]
      exact e_ ⟨_, _, rfl, rfl, Int.emod_nonneg _ (by omega), Int.emod_lt_of_pos _ hm, a, _, _, s, t, rfl, ha, by omega, hs, hs2, ht, htn⟩
    · rw [if_neg h1]
      exact e_ ⟨_, _, rfl, rfl, Int.emod_nonneg _ (by omega), Int.emod_lt_of_pos _ hm, a, _, _, s, t, rfl, ha, by omega, hs, hs2, ht, htn⟩
  · rw [if_neg (by simpa using h0)]
    exact e_ ⟨_, _, rfl, rfl, Int.emod_nonneg _ (by omega), Int.emod_lt_of_pos _ hm, a, g, l, s, t, rfl, ha, hl, hs, hs2, ht, htn⟩
theorem drM_of {jar cr : Addr} {many a g l s t : Int} {xs : List Int} {S : SS} {Z : EndsS} (hne : cr ≠ jar) (hx : S cr = some (.lst (xs.map .int))) (ha : 0 ≤ a) (hl : 0 ≤ l) (hs : 0 ≤ s) (hs2 : s < 1000003)
    (k : ∀ a g l s e2, 0 ≤ a → 0 ≤ l → 0 ≤ s → s < 1000003 → Z.nx [some (.ref jar), some (.int many), e2, none, none] (SL.sup S jar (.dic (jd cr a g l s t)))) :
    drM Z [some (.ref jar), some (.int many), none, none, none] (SL.sup S jar (.dic (jd cr a g l s t))) := by
  have hcr : ∀ (S : SS) (o : Ob), SL.sup S jar o cr = S cr := fun S o => sup_ne hne
  have v1 : CMulW s 31 := cmul_small (by omega) (by decide)
  have p3 : (0 : Int) < 1000003 := by decide
  unfold drM
  simp only [dAdd, dAddI, dSub, dEq, dNe, dLt, dLe, dGt, dGe, dIs, SL.isNon, dNeg, fLen, lenD, isTy, mLstrip, seqOf, tru, tyOf, Option.map_some, String.reduceEq, usNil, usSeq, usSet, usExpr, usRet, usRetN, usIf, usBrk, usCnt, usAug, usAsg, usDPut, usRaise, usSub, uVar, uC, uBin, uChain, uUn, uTru, uTb, uAnd, uOr, uNot, uAndV, uOrV, uNotV, uIte, uNil, uCons, uTup, uLst, uNoPart, uPart, uSl, vSl, uFn, gP, uIsi, uBM, uBM0, gM, gAppend, gPop, uCall, uA0, uA1, gId, gApp, isSeq, isRng, isRng2, uDGet, bodyE, startE, ugName, List.map_cons, List.map_nil, List.length_cons, List.length_nil, List.cons_append, List.nil_append, List.getElem?_cons_zero, List.getElem?_cons_succ, List.set_cons_zero, List.set_cons_succ, List.replicate, Nat.add_one_sub_one, Nat.sub_self, Nat.reduceSub, Nat.reduceAdd, Option.some.injEq, exists_eq_left', exists_eq_left, exists_and_left, true_and, and_true, D.bl.injEq, D.int.injEq, D.str.injEq, D.tup.injEq, D.ref.injEq, Ob.lst.injEq, List.cons.injEq, fTup, if_true, if_false, ite_true, ite_false, Bool.false_eq_true, Bool.true_eq_false, reduceIte, key_cs, dvl_cells, dvl_at, dvl_great, dvl_left, dvl_salt, dvl_turn, dput_at, dput_great, dput_left, dput_salt, dput_turn, jd_len, Ob.dic.injEq, sup_same, sup_sup, hcr, hx, List.length_map]
  by_cases h0 : (l == 0) = true
  · rw [if_pos h0]
    by_cases h1 : a < xs.length
    · rw [if_pos (decide_eq_true h1)]
      obtain ⟨m, rfl⟩ : ∃ m : Nat, a = m := ⟨a.toNat, by omega⟩
      obtain ⟨x, hxx⟩ : ∃ x, xs[m]? = some x := ⟨_, List.getElem?_eq_getElem (by omega)⟩
      have hxm : (xs.map D.int)[m]? = some (.int x) := by rw [List.getElem?_map, hxx]; rfl
      have hp : dPow (SL.sup (SL.sup (SL.sup S jar (.dic (jd cr m g l s t))) jar (.dic (jd cr (m + 1) g l s t))) jar (.dic (jd cr (m + 1) g l ((s * 31 + x % 1000003 + 7) % 1000003) t))) (.int 10) (.int 18) = some (.int (10 ^ 18)) := rfl
      have hp2 : ∀ S', dPow S' (.int 10) (.int 18) = some (.int (10 ^ 18)) := fun S' => rfl
      simp only [dAdd, dAddI, dSub, dEq, dNe, dLt, dLe, dGt, dGe, dIs, SL.isNon, dNeg, fLen, lenD, isTy, mLstrip, seqOf, tru, tyOf, Option.map_some, String.reduceEq, usNil, usSeq, usSet, usExpr, usRet, usRetN, usIf, usBrk, usCnt, usAug, usAsg, usDPut, usRaise, usSub, uVar, uC, uBin, uChain, uUn, uTru, uTb, uAnd, uOr, uNot, uAndV, uOrV, uNotV, uIte, uNil, uCons, uTup, uLst, uNoPart, uPart, uSl, vSl, uFn, gP, uIsi, uBM, uBM0, gM, gAppend, gPop, uCall, uA0, uA1, gId, gApp, isSeq, isRng, isRng2, uDGet, bodyE, startE, ugName, List.map_cons, List.map_nil, List.length_cons, List.length_nil, List.cons_append, List.nil_append, List.getElem?_cons_zero, List.getElem?_cons_succ, List.set_cons_zero, List.set_cons_succ, List.replicate, Nat.add_one_sub_one, Nat.sub_self, Nat.reduceSub, Nat.reduceAdd, Option.some.injEq, exists_eq_left', exists_eq_left, exists_and_left, true_and, and_true, D.bl.injEq, D.int.injEq, D.str.injEq, D.tup.injEq, D.ref.injEq, Ob.lst.injEq, List.cons.injEq, fTup, if_true, if_false, ite_true, ite_false, Bool.false_eq_true, Bool.true_eq_false, reduceIte, key_cs, dvl_cells, dvl_at, dvl_great, dvl_left, dvl_salt, dvl_turn, dput_at, dput_great, dput_left, dput_salt, dput_turn, jd_len, Ob.dic.injEq, sup_same, sup_sup, dIx, hcr, hx, SL.atI_nat, hxm, dMod, dMul, fInt, v1, p3, hp2]
      have h9 : 0 ≤ (s * 31 + x % 1000003 + 7) % 1000003 := Int.emod_nonneg _ (by decide)
      have h10 : (s * 31 + x % 1000003 + 7) % 1000003 < 1000003 := Int.emod_lt_of_pos _ (by decide)
      split
      · exact k _ _ _ _ _ (by omega) (by decide) h9 h10
      · exact k _ _ _ _ _ (by omega) hl h9 h10
    · rw [if_neg (by simpa using h1)]
      exact k _ _ _ _ _ ha hl hs hs2
  · rw [if_neg h0]
    exact k _ _ _ _ _ ha hl hs hs2
theorem ok_law_draw {ds : List D} {S : SS} {Q : QN} {X : QX} (h : sp__law_draw ds S Q X) : u__law_draw K c (bodyE Q X) (startE N__law_draw ds) S := by
  obtain ⟨jar, cr, n, many, rfl, hm, hm2, hn, ⟨hne, ⟨kvs, hj, a, g, l, s, t, rfl, ha, hl, hs, hs2, ht, htn⟩, xs, hx, hxl⟩, q⟩ := h
  rw [dr_eq]
  simp only [dAdd, dAddI, dSub, dEq, dNe, dLt, dLe, dGt, dGe, dIs, SL.isNon, dNeg, fLen, lenD, isTy, mLstrip, seqOf, tru, tyOf, Option.map_some, String.reduceEq, usNil, usSeq, usSet, usExpr, usRet, usRetN, usIf, usBrk, usCnt, usAug, usAsg, usDPut, usRaise, usSub, uVar, uC, uBin, uChain, uUn, uTru, uTb, uAnd, uOr, uNot, uAndV, uOrV, uNotV, uIte, uNil, uCons, uTup, uLst, uNoPart, uPart, uSl, vSl, uFn, gP, uIsi, uBM, uBM0, gM, gAppend, gPop, uCall, uA0, uA1, gId, gApp, isSeq, isRng, isRng2, uDGet, bodyE, startE, ugName, List.map_cons, List.map_nil, List.length_cons, List.length_nil, List.cons_append, List.nil_append, List.getElem?_cons_zero, List.getElem?_cons_succ, List.set_cons_zero, List.set_cons_succ, List.replicate, Nat.add_one_sub_one, Nat.sub_self, Nat.reduceSub, Nat.reduceAdd, Option.some.injEq, exists_eq_left', exists_eq_left, exists_and_left, true_and, and_true, D.bl.injEq, D.int.injEq, D.str.injEq, D.tup.injEq, D.ref.injEq, Ob.lst.injEq, List.cons.injEq, fTup, if_true, if_false, ite_true, ite_false, Bool.false_eq_true, Bool.true_eq_false, reduceIte, key_cs, dvl_cells, dvl_at, dvl_great, dvl_left, dvl_salt, dvl_turn, dput_at, dput_great, dput_left, dput_salt, dput_turn, jd_len, Ob.dic.injEq, sup_same, sup_sup, hj]
  refine drM_of hne hx ha hl hs hs2 fun a g l s e2 ha hl hs hs2 => ?_
  exact drT_of (Q := Q) (X := X) hm hm2 hn ha hl hs hs2 (by omega) (by omega) q
end K00

set_option Elab.async false
set_option linter.all false
set_option maxRecDepth 100000
set_option maxHeartbeats 4000000
namespace K00
open PySem PySem.Spec L2 SL
variable {K : PySem.W.Frag} {c : Cs}
theorem JK.mono {cr : Addr} {n m : Nat} {kvs : List (Key × D)} (h : JK cr n kvs) (hm : n ≤ m) : JK cr m kvs := by
  obtain ⟨a, g, l, s, t, e, h1, h2, h3, h4, h5, h6⟩ := h
  exact ⟨a, g, l, s, t, e, h1, h2, h3, h4, h5, by omega⟩
theorem JarS.upd {S : SS} {jar cr : Addr} {n m : Nat} {kvs : List (Key × D)} (h : JarS S jar cr n) (hk : JK cr m kvs) : JarS (SL.sup S jar (.dic kvs)) jar cr m := by
  obtain ⟨h1, _, xs, h3, h4⟩ := h
  exact ⟨h1, ⟨kvs, sup_same, hk⟩, xs, by rw [sup_ne h1]; exact h3, h4⟩
theorem JarS.new {S : SS} {jar cr p : Addr} {n : Nat} {o : Ob} (h : JarS S jar cr n) (hp : S p = none) : JarS (SL.sup S p o) jar cr n := by
  obtain ⟨h1, ⟨kvs, h2, hk⟩, xs, h3, h4⟩ := h
  have e1 : jar ≠ p := fun z => by rw [← z, h2] at hp; cases hp
  have e2 : cr ≠ p := fun z => by rw [← z, h3] at hp; cases hp
  exact ⟨h1, ⟨kvs, by rw [sup_ne e1]; exact h2, hk⟩, xs, by rw [sup_ne e2]; exact h3, h4⟩
theorem JarS.mono {S : SS} {jar cr : Addr} {n m : Nat} (h : JarS S jar cr n) (hm : n ≤ m) : JarS S jar cr m := by
  obtain ⟨h1, ⟨kvs, h2, hk⟩, h3⟩ := h
  exact ⟨h1, ⟨kvs, h2, hk.mono hm⟩, h3⟩
theorem irng_succ {lo : Int} {j : Nat} : irng lo (j + 1) = .int lo :: irng (lo + 1) j := by
  unfold irng
  rw [List.range_succ_eq_map, List.map_cons, List.map_map]
  congr 1
  · simp
  · apply List.map_congr_left; intro a _; simp; omega
/-- all but the jar stays -/
def KeepX (S : SS) (jar : Addr) (S1 : SS) : Prop := ∀ b o, b ≠ jar → S b = some o → S1 b = some o
theorem KeepX.refl {S : SS} {jar : Addr} : KeepX S jar S := fun _ _ _ h => h
theorem KeepX.jar {S S1 : SS} {jar : Addr} {o : Ob} (h : KeepX S jar S1) : KeepX S jar (SL.sup S1 jar o) := fun b u hb e => by rw [sup_ne hb]; exact h b u hb e
theorem KeepX.new {S S1 : SS} {jar p : Addr} {o : Ob} (h : KeepX S jar S1) (n : S1 p = none) : KeepX S jar (SL.sup S1 p o) := fun b u hb e => by
  have := h b u hb e
  rw [sup_ne (fun z => by rw [z, n] at this; cases this)]; exact this
theorem KeepX.le {S S1 : SS} {jar : Addr} {o : Ob} (h : KeepX S jar S1) (hj : S1 jar = some o) : Le (SL.sup S jar o) S1 := fun b u e => by
  by_cases hb : b = jar
  · subst hb; rw [sup_same] at e; cases e; exact hj
  · rw [sup_ne hb] at e; exact h b u hb e
theorem KeepX.trans {S S1 S2 : SS} {jar : Addr} (h : KeepX S jar S1) (h2 : KeepX S1 jar S2) : KeepX S jar S2 := fun b u hb e => h2 b u hb (h b u hb e)
/-- an atom's text -/
def AtF (x : List Nat) : Prop := (∃ a, x = [a] ∧ a ∈ cs "0NTF") ∨ (∃ a r, x = a :: r ∧ a ∈ FI1 ∧ DigL r ∧ r.length ≤ 11) ∨ (∃ a r, x = 45 :: a :: r ∧ a ∈ FI1 ∧ DigL r ∧ r.length ≤ 11) ∨ (∃ a r, x = a :: r ∧ a ∈ LOW ∧ (∀ b ∈ r, b ∈ TOK) ∧ r.length ≤ 11)
theorem AtF.len {x : List Nat} (h : AtF x) : x.length ≤ 13 ∧ x ≠ [] := by
  rcases h with ⟨a, rfl, _⟩ | ⟨a, r, rfl, _, _, h⟩ | ⟨a, r, rfl, _, _, h⟩ | ⟨a, r, rfl, _, _, h⟩ <;> (refine ⟨?_, by simp⟩; simp; try omega)
theorem AtF.take2 {x : List Nat} (h : AtF x) : AtF (x.take 2) := by
  rcases h with ⟨a, rfl, h⟩ | ⟨a, r, rfl, h1, h2, h⟩ | ⟨a, r, rfl, h1, h2, h⟩ | ⟨a, r, rfl, h1, h2, h⟩
  · exact .inl ⟨a, rfl, h⟩
  · exact .inr (.inl ⟨a, r.take 1, rfl, h1, fun b hb => h2 b (List.mem_of_mem_take hb), by rw [List.length_take]; omega⟩)
  · exact .inr (.inr (.inl ⟨a, [], rfl, h1, (fun b hb => by cases hb), by simp⟩))
  · exact .inr (.inr (.inr ⟨a, r.take 1, rfl, h1, fun b hb => h2 b (List.mem_of_mem_take hb), by rw [List.length_take]; omega⟩))
/-- a state behind a value, d deep -/
def Aft (st : Stt) (d : Nat) : Prop := st.dp = d ∧ ∀ a, a = 41 ∨ a = 44 → stp st a = aft d a
theorem AtF.run {x : List Nat} (h : AtF x) {md : Md} {d : Nat} (hm : md = .start ∨ md = .opened) : ∃ st, rn ⟨md, 0, d⟩ x = some st ∧ Aft st d := by
  have h0 : ∀ a, a ≠ 41 → stp ⟨md, 0, d⟩ a = fst1 a d := fun a ha => by
    unfold stp; rw [if_pos]
    rcases hm with z | z
    · exact .inl z
    · exact .inr ⟨z, ha⟩
  have hA : ∀ {m k}, (m = Md.figures ∨ m = .token ∨ (m = .ended ∧ k = 0)) → Aft ⟨m, k, d⟩ d := fun {m k} hm => ⟨rfl, fun a ha => by
    have n1 : a ∉ FIG := fun z => by have := fig_iff.mp z; omega
    have n2 : a ∉ TOK := fun z => by have := tok_iff.mp z; omega
    rcases hm with rfl | rfl | ⟨rfl, rfl⟩
    · simp [stp, n1, aft]
    · simp [stp, n2, aft]
    · exact stp_ended⟩
  rcases h with ⟨a, rfl, h⟩ | ⟨a, r, rfl, h1, h2, h⟩ | ⟨a, r, rfl, h1, h2, h⟩ | ⟨a, r, rfl, h1, h2, h⟩
  · have ha := nul_iff.mp h
    refine ⟨⟨.ended, 0, d⟩, rn_one ?_, hA (.inr (.inr ⟨rfl, rfl⟩))⟩
    rw [h0 a (by omega)]; unfold fst1
    rw [if_neg (by omega), if_neg (by omega), if_pos h]
  · have ha := fi1_iff.mp h1
    refine ⟨⟨.figures, 1 + r.length, d⟩, ?_, hA (.inl rfl)⟩
    have e : stp ⟨md, 0, d⟩ a = some ⟨.figures, 1, d⟩ := by
      rw [h0 a (by omega)]; unfold fst1
      rw [if_neg (by omega), if_neg (by omega), if_neg (fun z => by have := nul_iff.mp z; omega), if_pos h1]
    show (stp _ a).bind _ = _
    rw [e]
    exact rn_fig h2 (by omega)
  · have ha := fi1_iff.mp h1
    refine ⟨⟨.figures, 1 + r.length, d⟩, ?_, hA (.inl rfl)⟩
    have e : stp ⟨md, 0, d⟩ 45 = some ⟨.minus, 0, d⟩ := by
      rw [h0 45 (by omega)]; unfold fst1
      rw [if_neg (by omega), if_pos rfl]
    have e2 : stp ⟨.minus, 0, d⟩ a = some ⟨.figures, 1, d⟩ := by simp [stp, h1]
    show (stp _ 45).bind _ = _
    rw [e]
    show (stp _ a).bind _ = _
    rw [e2]
    exact rn_fig h2 (by omega)
  · have ha := low_iff.mp h1
    refine ⟨⟨.token, 1 + r.length, d⟩, ?_, hA (.inr (.inl rfl))⟩
    have e : stp ⟨md, 0, d⟩ a = some ⟨.token, 1, d⟩ := by
      rw [h0 a (by omega)]; unfold fst1
      rw [if_neg (by omega), if_neg (by omega), if_neg (fun z => by have := nul_iff.mp z; omega), if_neg (fun z => by have := fi1_iff.mp z; omega), if_pos h1]
    show (stp _ a).bind _ = _
    rw [e]
    exact rn_tok h2 (by omega)
/-- a drawn sign of a text -/
theorem ix_pick {S : SS} {x : List Nat} {r : Int} (hx : x.length ≤ 100) (h0 : 0 ≤ r) (h1 : r < x.length) : ∃ a, dIx S (.str x) (.int r) = some (.str [a]) ∧ a ∈ x := by
  obtain ⟨m, rfl⟩ : ∃ m : Nat, r = m := ⟨r.toNat, by omega⟩
  refine ⟨x[m]'(by omega), ?_, List.getElem_mem _⟩
  simp only [dIx]
  rw [if_pos (szl (by omega)), SL.atI_nat, List.getElem?_eq_getElem (by omega)]; rfl
theorem ix_pickL {S : SS} {p : Addr} {xs : List D} {r : Int} (hs : S p = some (.lst xs)) (h0 : 0 ≤ r) (h1 : r < xs.length) : ∃ d, dIx S (.ref p) (.int r) = some d ∧ d ∈ xs := by
  obtain ⟨m, rfl⟩ : ∃ m : Nat, r = m := ⟨r.toNat, by omega⟩
  refine ⟨xs[m]'(by omega), ?_, List.getElem_mem _⟩
  simp only [dIx, hs]
  rw [SL.atI_nat, List.getElem?_eq_getElem (by omega)]
def sp__law_atom : FS := fun ds S Q X => ∃ jar cr n, ds = [.ref jar] ∧ n ≤ 900000 ∧ JarS S jar cr n ∧ ∀ x kvs, AtF x → JK cr (n + 40) kvs → Q (.str x) (SL.sup S jar (.dic kvs))
/-- more signs of sg, each drawn -/
theorem atom_loop {sg : List Nat} {m : Int} {P : Nat → List Nat → Prop} {jar cr : Addr} {Z : EndsS} (hsg : sg.length ≤ 100) (h0 : 0 < sg.length) (hm : m = sg.length) (hP : ∀ i x a, P i x → a ∈ sg → P (i + 1) (x ++ [a])) (hl : ∀ i x, P i x → x.length ≤ 100 + i) :
    ∀ (j i : Nat) (lo : Int) (x : List Nat) (n : Nat) (e1 e2 e4 : Option D) (S : SS) (kvs : List (Key × D)), n + j ≤ 1000000 → i + j ≤ 1000 → P i x → JarS S jar cr n → (∀ x e4 kvs, P (i + j) x → JK cr (n + j) kvs → Z.nx [some (.ref jar), e1, e2, some (.str x), e4] (SL.sup S jar (.dic kvs))) → JK cr n kvs →
      forL (ugName 4) (usSet 3 (uBin dAdd (uVar 3) (uBin dIx (uC (.str sg)) (uCall sp__law_draw gId (uA1 2 (uCons (uVar 0) (uCons (uC (.int m)) uNil))))))) (fun _ => True) Z (irng lo j) [some (.ref jar), e1, e2, some (.str x), e4] (SL.sup S jar (.dic kvs))
  | 0, i, lo, x, n, e1, e2, e4, S, kvs, hn, hi, hp, hj, k, hk => ⟨trivial, k x e4 kvs hp hk⟩
  | j + 1, i, lo, x, n, e1, e2, e4, S, kvs, hn, hi, hp, hj, k, hk => by
    rw [irng_succ]
    refine ⟨trivial, ?_⟩
    simp only [dAdd, dAddI, dSub, dEq, dNe, dLt, dLe, dGt, dGe, dIs, SL.isNon, dNeg, fLen, lenD, isTy, mLstrip, seqOf, tru, tyOf, Option.map_some, String.reduceEq, usNil, usSeq, usSet, usExpr, usRet, usRetN, usIf, usBrk, usCnt, usAug, usAsg, usDPut, usRaise, usSub, uVar, uC, uBin, uChain, uUn, uTru, uTb, uAnd, uOr, uNot, uAndV, uOrV, uNotV, uIte, uNil, uCons, uTup, uLst, uNoPart, uPart, uSl, vSl, uFn, gP, uIsi, uBM, uBM0, gM, gAppend, gPop, uCall, uA0, uA1, gId, gApp, isSeq, isRng, isRng2, uDGet, bodyE, startE, ugName, List.map_cons, List.map_nil, List.length_cons, List.length_nil, List.cons_append, List.nil_append, List.getElem?_cons_zero, List.getElem?_cons_succ, List.set_cons_zero, List.set_cons_succ, List.replicate, Nat.add_one_sub_one, Nat.sub_self, Nat.reduceSub, Nat.reduceAdd, Option.some.injEq, exists_eq_left', exists_eq_left, exists_and_left, true_and, and_true, D.bl.injEq, D.int.injEq, D.str.injEq, D.tup.injEq, D.ref.injEq, Ob.lst.injEq, List.cons.injEq, fTup, if_true, if_false, ite_true, ite_false, Bool.false_eq_true, Bool.true_eq_false, reduceIte]
    refine ⟨jar, cr, n, _, rfl, by omega, by omega, by omega, hj.upd hk, fun r kvs2 r0 r1 hk2 => ?_⟩
    obtain ⟨a, ea, ha⟩ := ix_pick (S := SL.sup S jar (.dic kvs2)) hsg r0 (by omega)
    have hz : x.length + 1 ≤ sizeLine := by have := hl i x hp; rw [sizeLine_eq]; omega
    simp only [dAdd, dAddI, dSub, dEq, dNe, dLt, dLe, dGt, dGe, dIs, SL.isNon, dNeg, fLen, lenD, isTy, mLstrip, seqOf, tru, tyOf, Option.map_some, String.reduceEq, usNil, usSeq, usSet, usExpr, usRet, usRetN, usIf, usBrk, usCnt, usAug, usAsg, usDPut, usRaise, usSub, uVar, uC, uBin, uChain, uUn, uTru, uTb, uAnd, uOr, uNot, uAndV, uOrV, uNotV, uIte, uNil, uCons, uTup, uLst, uNoPart, uPart, uSl, vSl, uFn, gP, uIsi, uBM, uBM0, gM, gAppend, gPop, uCall, uA0, uA1, gId, gApp, isSeq, isRng, isRng2, uDGet, bodyE, startE, ugName, List.map_cons, List.map_nil, List.length_cons, List.length_nil, List.cons_append, List.nil_append, List.getElem?_cons_zero, List.getElem?_cons_succ, List.set_cons_zero, List.set_cons_succ, List.replicate, Nat.add_one_sub_one, Nat.sub_self, Nat.reduceSub, Nat.reduceAdd, Option.some.injEq, exists_eq_left', exists_eq_left, exists_and_left, true_and, and_true, D.bl.injEq, D.int.injEq, D.str.injEq, D.tup.injEq, D.ref.injEq, Ob.lst.injEq, List.cons.injEq, fTup, if_true, if_false, ite_true, ite_false, Bool.false_eq_true, Bool.true_eq_false, reduceIte, sup_sup, ea, hz]
    exact atom_loop hsg h0 hm hP hl j (i + 1) (lo + 1) (x ++ [a]) (n + 1) e1 e2 (some (.int lo)) S kvs2 (by omega) (by omega) (hP i x a hp ha) (hj.mono (by omega)) (fun x e4 kvs3 hx hk3 => k x e4 kvs3 (by rw [show i + (j + 1) = i + 1 + j by omega]; exact hx) (hk3.mono (by omega))) hk2
theorem ok_law_atom {ds : List D} {S : SS} {Q : QN} {X : QX} (h : sp__law_atom ds S Q X) : u__law_atom K c sp__law_draw (bodyE Q X) (startE N__law_atom ds) S := by
  obtain ⟨jar, cr, n, rfl, hn, hj, q⟩ := h
  unfold u__law_atom
  simp only [dAdd, dAddI, dSub, dEq, dNe, dLt, dLe, dGt, dGe, dIs, SL.isNon, dNeg, fLen, lenD, isTy, mLstrip, seqOf, tru, tyOf, Option.map_some, String.reduceEq, usNil, usSeq, usSet, usExpr, usRet, usRetN, usIf, usBrk, usCnt, usAug, usAsg, usDPut, usRaise, usSub, uVar, uC, uBin, uChain, uUn, uTru, uTb, uAnd, uOr, uNot, uAndV, uOrV, uNotV, uIte, uNil, uCons, uTup, uLst, uNoPart, uPart, uSl, vSl, uFn, gP, uIsi, uBM, uBM0, gM, gAppend, gPop, uCall, uA0, uA1, gId, gApp, isSeq, isRng, isRng2, uDGet, bodyE, startE, ugName, List.map_cons, List.map_nil, List.length_cons, List.length_nil, List.cons_append, List.nil_append, List.getElem?_cons_zero, List.getElem?_cons_succ, List.set_cons_zero, List.set_cons_succ, List.replicate, Nat.add_one_sub_one, Nat.sub_self, Nat.reduceSub, Nat.reduceAdd, Option.some.injEq, exists_eq_left', exists_eq_left, exists_and_left, true_and, and_true, D.bl.injEq, D.int.injEq, D.str.injEq, D.tup.injEq, D.ref.injEq, Ob.lst.injEq, List.cons.injEq, fTup, if_true, if_false, ite_true, ite_false, Bool.false_eq_true, Bool.true_eq_false, reduceIte, usFor, c_N, c_T, c_F, c_0, c_min]
  refine ⟨jar, cr, n, _, rfl, by decide, by decide, by omega, hj, fun kind kvs0 k0 k1 hk0 => ?_⟩
  have hj0 := hj.upd hk0
  simp only [dAdd, dAddI, dSub, dEq, dNe, dLt, dLe, dGt, dGe, dIs, SL.isNon, dNeg, fLen, lenD, isTy, mLstrip, seqOf, tru, tyOf, Option.map_some, String.reduceEq, usNil, usSeq, usSet, usExpr, usRet, usRetN, usIf, usBrk, usCnt, usAug, usAsg, usDPut, usRaise, usSub, uVar, uC, uBin, uChain, uUn, uTru, uTb, uAnd, uOr, uNot, uAndV, uOrV, uNotV, uIte, uNil, uCons, uTup, uLst, uNoPart, uPart, uSl, vSl, uFn, gP, uIsi, uBM, uBM0, gM, gAppend, gPop, uCall, uA0, uA1, gId, gApp, isSeq, isRng, isRng2, uDGet, bodyE, startE, ugName, List.map_cons, List.map_nil, List.length_cons, List.length_nil, List.cons_append, List.nil_append, List.getElem?_cons_zero, List.getElem?_cons_succ, List.set_cons_zero, List.set_cons_succ, List.replicate, Nat.add_one_sub_one, Nat.sub_self, Nat.reduceSub, Nat.reduceAdd, Option.some.injEq, exists_eq_left', exists_eq_left, exists_and_left, true_and, and_true, D.bl.injEq, D.int.injEq, D.str.injEq, D.tup.injEq, D.ref.injEq, Ob.lst.injEq, List.cons.injEq, fTup, if_true, if_false, ite_true, ite_false, Bool.false_eq_true, Bool.true_eq_false, reduceIte]
  by_cases h3 : kind < 3
  · rw [if_pos (decide_eq_true h3)]
    refine ⟨by rw [sizeLine_eq]; decide, fun p hp => ?_⟩
    refine ⟨jar, cr, n + 1, _, rfl, by decide, by decide, by omega, hj0.new hp, fun r kvs1 r0 r1 hk1 => ?_⟩
    have hpj : p ≠ jar := fun z => by rw [z, sup_same] at hp; cases hp
    obtain ⟨d, ed, hd⟩ := ix_pickL (S := SL.sup (SL.sup (SL.sup S jar (.dic kvs0)) p (.lst [.str [78], .str [84], .str [70], .str [48]])) jar (.dic kvs1)) (by rw [sup_ne hpj, sup_same]) r0 (by simpa using r1)
    simp only [dAdd, dAddI, dSub, dEq, dNe, dLt, dLe, dGt, dGe, dIs, SL.isNon, dNeg, fLen, lenD, isTy, mLstrip, seqOf, tru, tyOf, Option.map_some, String.reduceEq, usNil, usSeq, usSet, usExpr, usRet, usRetN, usIf, usBrk, usCnt, usAug, usAsg, usDPut, usRaise, usSub, uVar, uC, uBin, uChain, uUn, uTru, uTb, uAnd, uOr, uNot, uAndV, uOrV, uNotV, uIte, uNil, uCons, uTup, uLst, uNoPart, uPart, uSl, vSl, uFn, gP, uIsi, uBM, uBM0, gM, gAppend, gPop, uCall, uA0, uA1, gId, gApp, isSeq, isRng, isRng2, uDGet, bodyE, startE, ugName, List.map_cons, List.map_nil, List.length_cons, List.length_nil, List.cons_append, List.nil_append, List.getElem?_cons_zero, List.getElem?_cons_succ, List.set_cons_zero, List.set_cons_succ, List.replicate, Nat.add_one_sub_one, Nat.sub_self, Nat.reduceSub, Nat.reduceAdd, Option.some.injEq, exists_eq_left', exists_eq_left, exists_and_left, true_and, and_true, D.bl.injEq, D.int.injEq, D.str.injEq, D.tup.injEq, D.ref.injEq, Ob.lst.injEq, List.cons.injEq, fTup, if_true, if_false, ite_true, ite_false, Bool.false_eq_true, Bool.true_eq_false, reduceIte, ed]
    obtain ⟨a, rfl, ha⟩ : ∃ a, d = .str [a] ∧ a ∈ cs "0NTF" := by
      simp at hd
      rcases hd with z | z | z | z <;> exact ⟨_, z, nul_iff.mpr (by omega)⟩
    exact ⟨SL.sup S jar (.dic kvs1), (KeepX.jar (KeepX.new (KeepX.jar .refl) hp)).le sup_same, q [a] kvs1 (.inl ⟨a, rfl, ha⟩) (hk1.mono (by omega))⟩
  · rw [if_neg (by simpa using h3)]
    refine ⟨jar, cr, n + 1, _, rfl, by decide, by decide, by omega, hj0, fun z1 kvs1 z10 z11 hk1 => ?_⟩
    have hj1 := hj0.upd hk1
    simp only [dAdd, dAddI, dSub, dEq, dNe, dLt, dLe, dGt, dGe, dIs, SL.isNon, dNeg, fLen, lenD, isTy, mLstrip, seqOf, tru, tyOf, Option.map_some, String.reduceEq, usNil, usSeq, usSet, usExpr, usRet, usRetN, usIf, usBrk, usCnt, usAug, usAsg, usDPut, usRaise, usSub, uVar, uC, uBin, uChain, uUn, uTru, uTb, uAnd, uOr, uNot, uAndV, uOrV, uNotV, uIte, uNil, uCons, uTup, uLst, uNoPart, uPart, uSl, vSl, uFn, gP, uIsi, uBM, uBM0, gM, gAppend, gPop, uCall, uA0, uA1, gId, gApp, isSeq, isRng, isRng2, uDGet, bodyE, startE, ugName, List.map_cons, List.map_nil, List.length_cons, List.length_nil, List.cons_append, List.nil_append, List.getElem?_cons_zero, List.getElem?_cons_succ, List.set_cons_zero, List.set_cons_succ, List.replicate, Nat.add_one_sub_one, Nat.sub_self, Nat.reduceSub, Nat.reduceAdd, Option.some.injEq, exists_eq_left', exists_eq_left, exists_and_left, true_and, and_true, D.bl.injEq, D.int.injEq, D.str.injEq, D.tup.injEq, D.ref.injEq, Ob.lst.injEq, List.cons.injEq, fTup, if_true, if_false, ite_true, ite_false, Bool.false_eq_true, Bool.true_eq_false, reduceIte]
    refine ⟨by rw [sizeLine_eq]; decide, fun p hp => ?_⟩
    have hpj : p ≠ jar := fun z => by rw [z, sup_same] at hp; cases hp
    refine ⟨jar, cr, n + 2, _, rfl, by decide, by decide, by omega, hj1.new hp, fun z2 kvs2 z20 z21 hk2 => ?_⟩
    obtain ⟨d, ed, hd⟩ := ix_pickL (S := SL.sup (SL.sup (SL.sup (SL.sup S jar (.dic kvs0)) jar (.dic kvs1)) p (.lst [.int 1, .int 2, .int 11, .int 12, .int (1 + z1)])) jar (.dic kvs2)) (by rw [sup_ne hpj, sup_same]) z20 (by simpa using z21)
    simp only [dAdd, dAddI, dSub, dEq, dNe, dLt, dLe, dGt, dGe, dIs, SL.isNon, dNeg, fLen, lenD, isTy, mLstrip, seqOf, tru, tyOf, Option.map_some, String.reduceEq, usNil, usSeq, usSet, usExpr, usRet, usRetN, usIf, usBrk, usCnt, usAug, usAsg, usDPut, usRaise, usSub, uVar, uC, uBin, uChain, uUn, uTru, uTb, uAnd, uOr, uNot, uAndV, uOrV, uNotV, uIte, uNil, uCons, uTup, uLst, uNoPart, uPart, uSl, vSl, uFn, gP, uIsi, uBM, uBM0, gM, gAppend, gPop, uCall, uA0, uA1, gId, gApp, isSeq, isRng, isRng2, uDGet, bodyE, startE, ugName, List.map_cons, List.map_nil, List.length_cons, List.length_nil, List.cons_append, List.nil_append, List.getElem?_cons_zero, List.getElem?_cons_succ, List.set_cons_zero, List.set_cons_succ, List.replicate, Nat.add_one_sub_one, Nat.sub_self, Nat.reduceSub, Nat.reduceAdd, Option.some.injEq, exists_eq_left', exists_eq_left, exists_and_left, true_and, and_true, D.bl.injEq, D.int.injEq, D.str.injEq, D.tup.injEq, D.ref.injEq, Ob.lst.injEq, List.cons.injEq, fTup, if_true, if_false, ite_true, ite_false, Bool.false_eq_true, Bool.true_eq_false, reduceIte, ed]
    obtain ⟨size, rfl, hs1, hs2⟩ : ∃ size : Int, d = .int size ∧ 1 ≤ size ∧ size ≤ 12 := by
      simp at hd
      rcases hd with z | z | z | z | z <;> (refine ⟨_, z, ?_, ?_⟩ <;> omega)
    have kx : KeepX S jar (SL.sup (SL.sup (SL.sup (SL.sup S jar (.dic kvs0)) jar (.dic kvs1)) p (.lst [.int 1, .int 2, .int 11, .int 12, .int (1 + z1)])) jar (.dic kvs2)) := KeepX.jar (KeepX.new (KeepX.jar (KeepX.jar .refl)) hp)
    have hj2 := (hj1.new (o := .lst [.int 1, .int 2, .int 11, .int 12, .int (1 + z1)]) hp).upd hk2
    generalize hS2 : SL.sup (SL.sup (SL.sup (SL.sup S jar (.dic kvs0)) jar (.dic kvs1)) p (.lst [.int 1, .int 2, .int 11, .int 12, .int (1 + z1)])) jar (.dic kvs2) = S2 at *
    have fin : ∀ {S3 : SS} {x : List Nat} {kvs3 : List (Key × D)}, KeepX S jar S3 → AtF x → JK cr (n + 40) kvs3 → ∃ S', Le S' (SL.sup S3 jar (.dic kvs3)) ∧ Q (.str x) S' := fun {S3 x kvs3} h1 h2 h3 => ⟨SL.sup S jar (.dic kvs3), (KeepX.jar h1).le sup_same, q x kvs3 h2 h3⟩
    by_cases h5 : kind < 5
    · rw [if_pos (decide_eq_true h5)]
      refine ⟨jar, cr, n + 3, _, rfl, by decide, by decide, by omega, hj2, fun z3 kvs3 z30 z31 hk3 => ?_⟩
      have hj3 := hj2.upd hk3
      have hm : dMulS (SL.sup S2 jar (.dic kvs3)) (.str [45]) (.int z3) = some (.str (List.replicate z3.toNat 45)) := by
        have : (List.replicate z3.toNat [45]).flatten = List.replicate z3.toNat 45 := by simp
        simp only [dMulS]
        rw [if_pos ⟨by omega, by simp, by omega⟩, this]
      simp only [dAdd, dAddI, dSub, dEq, dNe, dLt, dLe, dGt, dGe, dIs, SL.isNon, dNeg, fLen, lenD, isTy, mLstrip, seqOf, tru, tyOf, Option.map_some, String.reduceEq, usNil, usSeq, usSet, usExpr, usRet, usRetN, usIf, usBrk, usCnt, usAug, usAsg, usDPut, usRaise, usSub, uVar, uC, uBin, uChain, uUn, uTru, uTb, uAnd, uOr, uNot, uAndV, uOrV, uNotV, uIte, uNil, uCons, uTup, uLst, uNoPart, uPart, uSl, vSl, uFn, gP, uIsi, uBM, uBM0, gM, gAppend, gPop, uCall, uA0, uA1, gId, gApp, isSeq, isRng, isRng2, uDGet, bodyE, startE, ugName, List.map_cons, List.map_nil, List.length_cons, List.length_nil, List.cons_append, List.nil_append, List.getElem?_cons_zero, List.getElem?_cons_succ, List.set_cons_zero, List.set_cons_succ, List.replicate, Nat.add_one_sub_one, Nat.sub_self, Nat.reduceSub, Nat.reduceAdd, Option.some.injEq, exists_eq_left', exists_eq_left, exists_and_left, true_and, and_true, D.bl.injEq, D.int.injEq, D.str.injEq, D.tup.injEq, D.ref.injEq, Ob.lst.injEq, List.cons.injEq, fTup, if_true, if_false, ite_true, ite_false, Bool.false_eq_true, Bool.true_eq_false, reduceIte, hm]
      refine ⟨jar, cr, n + 4, _, rfl, by decide, by decide, by omega, hj3, fun z4 kvs4 z40 z41 hk4 => ?_⟩
      have hj4 := hj3.upd hk4
      obtain ⟨a, ea, ha⟩ := ix_pick (S := SL.sup (SL.sup S2 jar (.dic kvs3)) jar (.dic kvs4)) (x := FI1) (by decide +kernel) z40 (Int.lt_of_lt_of_le z41 (by decide +kernel))
      have hz : z3.toNat + 1 ≤ sizeLine := by rw [sizeLine_eq]; omega
      simp only [dAdd, dAddI, dSub, dEq, dNe, dLt, dLe, dGt, dGe, dIs, SL.isNon, dNeg, fLen, lenD, isTy, mLstrip, seqOf, tru, tyOf, Option.map_some, String.reduceEq, usNil, usSeq, usSet, usExpr, usRet, usRetN, usIf, usBrk, usCnt, usAug, usAsg, usDPut, usRaise, usSub, uVar, uC, uBin, uChain, uUn, uTru, uTb, uAnd, uOr, uNot, uAndV, uOrV, uNotV, uIte, uNil, uCons, uTup, uLst, uNoPart, uPart, uSl, vSl, uFn, gP, uIsi, uBM, uBM0, gM, gAppend, gPop, uCall, uA0, uA1, gId, gApp, isSeq, isRng, isRng2, uDGet, bodyE, startE, ugName, List.map_cons, List.map_nil, List.length_cons, List.length_nil, List.cons_append, List.nil_append, List.getElem?_cons_zero, List.getElem?_cons_succ, List.set_cons_zero, List.set_cons_succ, List.replicate, Nat.add_one_sub_one, Nat.sub_self, Nat.reduceSub, Nat.reduceAdd, Option.some.injEq, exists_eq_left', exists_eq_left, exists_and_left, true_and, and_true, D.bl.injEq, D.int.injEq, D.str.injEq, D.tup.injEq, D.ref.injEq, Ob.lst.injEq, List.cons.injEq, fTup, if_true, if_false, ite_true, ite_false, Bool.false_eq_true, Bool.true_eq_false, reduceIte, ea, List.length_replicate, hz]
      refine ⟨by omega, by omega, ?_⟩
      obtain ⟨w, hw⟩ : ∃ w : Nat, size = w + 1 := ⟨(size - 1).toNat, by omega⟩
      subst hw
      have ew : ((w : Int) + 1 - 1).toNat = w := by omega
      rw [ew]
      refine atom_loop (sg := FIG) (m := 10) (P := fun i x => ∃ r, x = List.replicate z3.toNat 45 ++ a :: r ∧ DigL r ∧ r.length = i) (by decide +kernel) (by decide +kernel) (by decide +kernel)
        (fun i x b ⟨r, e, h1, h2⟩ hb => ⟨r ++ [b], by rw [e]; simp, fun y hy => by
          rcases List.mem_append.mp hy with z | z
          · exact h1 y z
          · simp at z; rw [z]; exact hb, by simp [h2]⟩)
        (fun i x ⟨r, e, h1, h2⟩ => by rw [e]; simp; omega) w 0 0 (List.replicate z3.toNat 45 ++ [a]) (n + 5) _ _ none (SL.sup S2 jar (.dic kvs3)) kvs4 (by omega) (by omega) ⟨[], rfl, (fun y hy => by cases hy), rfl⟩ (hj3.mono (by omega)) (fun x e4 kvs5 ⟨r, e, h1, h2⟩ hk5 => ?_) (hk4.mono (by omega))
      have hx : AtF x := by
        rcases (by omega : z3.toNat = 0 ∨ z3.toNat = 1) with z | z
        · rw [z] at e; exact .inr (.inl ⟨a, r, by simpa using e, ha, h1, by omega⟩)
        · rw [z] at e; exact .inr (.inr (.inl ⟨a, r, by simpa using e, ha, h1, by omega⟩))
      simp only [dAdd, dAddI, dSub, dEq, dNe, dLt, dLe, dGt, dGe, dIs, SL.isNon, dNeg, fLen, lenD, isTy, mLstrip, seqOf, tru, tyOf, Option.map_some, String.reduceEq, usNil, usSeq, usSet, usExpr, usRet, usRetN, usIf, usBrk, usCnt, usAug, usAsg, usDPut, usRaise, usSub, uVar, uC, uBin, uChain, uUn, uTru, uTb, uAnd, uOr, uNot, uAndV, uOrV, uNotV, uIte, uNil, uCons, uTup, uLst, uNoPart, uPart, uSl, vSl, uFn, gP, uIsi, uBM, uBM0, gM, gAppend, gPop, uCall, uA0, uA1, gId, gApp, isSeq, isRng, isRng2, uDGet, bodyE, startE, ugName, List.map_cons, List.map_nil, List.length_cons, List.length_nil, List.cons_append, List.nil_append, List.getElem?_cons_zero, List.getElem?_cons_succ, List.set_cons_zero, List.set_cons_succ, List.replicate, Nat.add_one_sub_one, Nat.sub_self, Nat.reduceSub, Nat.reduceAdd, Option.some.injEq, exists_eq_left', exists_eq_left, exists_and_left, true_and, and_true, D.bl.injEq, D.int.injEq, D.str.injEq, D.tup.injEq, D.ref.injEq, Ob.lst.injEq, List.cons.injEq, fTup, if_true, if_false, ite_true, ite_false, Bool.false_eq_true, Bool.true_eq_false, reduceIte]
      exact fin (kx.jar) hx (hk5.mono (by omega))
    · rw [if_neg (by simpa using h5)]
      refine ⟨jar, cr, n + 3, _, rfl, by decide, by decide, by omega, hj2, fun z4 kvs4 z40 z41 hk4 => ?_⟩
      have hj4 := hj2.upd hk4
      obtain ⟨a, ea, ha⟩ := ix_pick (S := SL.sup S2 jar (.dic kvs4)) (x := LOW) (by decide +kernel) z40 (Int.lt_of_lt_of_le z41 (by decide +kernel))
      simp only [dAdd, dAddI, dSub, dEq, dNe, dLt, dLe, dGt, dGe, dIs, SL.isNon, dNeg, fLen, lenD, isTy, mLstrip, seqOf, tru, tyOf, Option.map_some, String.reduceEq, usNil, usSeq, usSet, usExpr, usRet, usRetN, usIf, usBrk, usCnt, usAug, usAsg, usDPut, usRaise, usSub, uVar, uC, uBin, uChain, uUn, uTru, uTb, uAnd, uOr, uNot, uAndV, uOrV, uNotV, uIte, uNil, uCons, uTup, uLst, uNoPart, uPart, uSl, vSl, uFn, gP, uIsi, uBM, uBM0, gM, gAppend, gPop, uCall, uA0, uA1, gId, gApp, isSeq, isRng, isRng2, uDGet, bodyE, startE, ugName, List.map_cons, List.map_nil, List.length_cons, List.length_nil, List.cons_append, List.nil_append, List.getElem?_cons_zero, List.getElem?_cons_succ, List.set_cons_zero, List.set_cons_succ, List.replicate, Nat.add_one_sub_one, Nat.sub_self, Nat.reduceSub, Nat.reduceAdd, Option.some.injEq, exists_eq_left', exists_eq_left, exists_and_left, true_and, and_true, D.bl.injEq, D.int.injEq, D.str.injEq, D.tup.injEq, D.ref.injEq, Ob.lst.injEq, List.cons.injEq, fTup, if_true, if_false, ite_true, ite_false, Bool.false_eq_true, Bool.true_eq_false, reduceIte, ea]
      refine ⟨by omega, by omega, ?_⟩
      obtain ⟨w, hw⟩ : ∃ w : Nat, size = w + 1 := ⟨(size - 1).toNat, by omega⟩
      subst hw
      have ew : ((w : Int) + 1 - 1).toNat = w := by omega
      rw [ew]
      refine atom_loop (sg := TOK) (m := 36) (P := fun i x => ∃ r, x = a :: r ∧ (∀ b ∈ r, b ∈ TOK) ∧ r.length = i) (by decide +kernel) (by decide +kernel) (by decide +kernel)
        (fun i x b ⟨r, e, h1, h2⟩ hb => ⟨r ++ [b], by rw [e]; simp, fun y hy => by
          rcases List.mem_append.mp hy with z | z
          · exact h1 y z
          · simp at z; rw [z]; exact hb, by simp [h2]⟩)
        (fun i x ⟨r, e, h1, h2⟩ => by rw [e]; simp; omega) w 0 0 [a] (n + 4) _ _ none S2 kvs4 (by omega) (by omega) ⟨[], rfl, (fun y hy => by cases hy), rfl⟩ (hj2.mono (by omega)) (fun x e4 kvs5 ⟨r, e, h1, h2⟩ hk5 => ?_) (hk4.mono (by omega))
      simp only [dAdd, dAddI, dSub, dEq, dNe, dLt, dLe, dGt, dGe, dIs, SL.isNon, dNeg, fLen, lenD, isTy, mLstrip, seqOf, tru, tyOf, Option.map_some, String.reduceEq, usNil, usSeq, usSet, usExpr, usRet, usRetN, usIf, usBrk, usCnt, usAug, usAsg, usDPut, usRaise, usSub, uVar, uC, uBin, uChain, uUn, uTru, uTb, uAnd, uOr, uNot, uAndV, uOrV, uNotV, uIte, uNil, uCons, uTup, uLst, uNoPart, uPart, uSl, vSl, uFn, gP, uIsi, uBM, uBM0, gM, gAppend, gPop, uCall, uA0, uA1, gId, gApp, isSeq, isRng, isRng2, uDGet, bodyE, startE, ugName, List.map_cons, List.map_nil, List.length_cons, List.length_nil, List.cons_append, List.nil_append, List.getElem?_cons_zero, List.getElem?_cons_succ, List.set_cons_zero, List.set_cons_succ, List.replicate, Nat.add_one_sub_one, Nat.sub_self, Nat.reduceSub, Nat.reduceAdd, Option.some.injEq, exists_eq_left', exists_eq_left, exists_and_left, true_and, and_true, D.bl.injEq, D.int.injEq, D.str.injEq, D.tup.injEq, D.ref.injEq, Ob.lst.injEq, List.cons.injEq, fTup, if_true, if_false, ite_true, ite_false, Bool.false_eq_true, Bool.true_eq_false, reduceIte]
      exact fin kx (.inr (.inr (.inr ⟨a, r, e, ha, h1, by omega⟩))) (hk5.mono (by omega))
end K00

set_option Elab.async false
set_option linter.all false
set_option maxRecDepth 100000
set_option maxHeartbeats 4000000
namespace K00
open PySem PySem.Spec L2 SL
variable {K : PySem.W.Frag} {c : Cs}
theorem KeepX.at_ {S S1 : SS} {jar p : Addr} {o : Ob} (h : KeepX S jar S1) (n : S p = none) : KeepX S jar (SL.sup S1 p o) := fun b u hb e => by
  rw [sup_ne (fun z => by rw [z, n] at e; cases e)]; exact h b u hb e
theorem JarS.at_ {S : SS} {jar cr p : Addr} {n : Nat} {o : Ob} (h : JarS S jar cr n) (e1 : p ≠ jar) (e2 : p ≠ cr) : JarS (SL.sup S p o) jar cr n := by
  obtain ⟨h1, ⟨kvs, h2, hk⟩, xs, h3, h4⟩ := h
  exact ⟨h1, ⟨kvs, by rw [sup_ne e1.symm]; exact h2, hk⟩, xs, by rw [sup_ne e2.symm]; exact h3, h4⟩
theorem JarS.fr {S : SS} {jar cr p : Addr} {n : Nat} (h : JarS S jar cr n) (hp : S p = none) : p ≠ jar ∧ p ≠ cr := by
  obtain ⟨h1, ⟨kvs, h2, hk⟩, xs, h3, h4⟩ := h
  exact ⟨(fun z => by rw [z, h2] at hp; cases hp), (fun z => by rw [z, h3] at hp; cases hp)⟩
/-- a whole draw, the state told by what stays -/
theorem draw_of {S0 S : SS} {jar cr : Addr} {n : Nat} {many : Int} {Q : QN} {X : QX} (hj : JarS S jar cr n) (hm : 0 < many) (hm2 : many ≤ 1000000) (hn : n ≤ 1000000) (kx : KeepX S0 jar S)
    (k : ∀ r S', 0 ≤ r → r < many → JarS S' jar cr (n + 1) → KeepX S0 jar S' → (∀ b, b ≠ jar → S' b = S b) → Q (.int r) S') : sp__law_draw [.ref jar, .int many] S Q X :=
  ⟨jar, cr, n, many, rfl, hm, hm2, hn, hj, fun r kvs h0 h1 hk => k r _ h0 h1 (hj.upd hk) kx.jar fun b hb => sup_ne hb⟩
theorem atom_of {S0 S : SS} {jar cr : Addr} {n : Nat} {Q : QN} {X : QX} (hj : JarS S jar cr n) (hn : n ≤ 900000) (kx : KeepX S0 jar S)
    (k : ∀ x S', AtF x → JarS S' jar cr (n + 40) → KeepX S0 jar S' → (∀ b, b ≠ jar → S' b = S b) → Q (.str x) S') : sp__law_atom [.ref jar] S Q X :=
  ⟨jar, cr, n, rfl, hn, hj, fun x kvs h0 hk => k x _ h0 (hj.upd hk) kx.jar fun b hb => sup_ne hb⟩
/-! comprehensions over a range -/
theorem lc_const {x : List Nat} {p : Addr} {env : En} {Q : SS → Prop} {e0 e1 e4 : Option D} (hw : wipeE env [3] = [e0, e1, some (.str x), none, e4]) : ∀ (xs acc : List D) (S : SS), S p = some (.lst acc) → acc.length + xs.length ≤ 1000 →
    (∀ S', (∀ b, b ≠ p → S' b = S b) → S' p = some (.lst (acc ++ List.replicate xs.length (.str x))) → Q S') →
    lcL (ugName 3) utYes (uVar 2) (fun _ => True) [3] p env Q xs S
  | [], acc, S, hp, _, k => ⟨trivial, k S (fun _ _ => rfl) (by simpa using hp)⟩
  | y :: xs, acc, S, hp, hl, k => by
    refine ⟨trivial, ?_⟩
    rw [hw]
    simp only [List.length_cons] at hl
    simp only [dAdd, dAddI, dSub, dEq, dNe, dLt, dLe, dGt, dGe, dIs, SL.isNon, dNeg, fLen, lenD, isTy, mLstrip, seqOf, tru, tyOf, Option.map_some, String.reduceEq, usNil, usSeq, usSet, usExpr, usRet, usRetN, usIf, usBrk, usCnt, usAug, usAsg, usDPut, usRaise, usSub, uVar, uC, uBin, uChain, uUn, uTru, uTb, uAnd, uOr, uNot, uAndV, uOrV, uNotV, uIte, uNil, uCons, uTup, uLst, uNoPart, uPart, uSl, vSl, uFn, gP, uIsi, uBM, uBM0, gM, gAppend, gPop, uCall, uA0, uA1, gId, gApp, isSeq, isRng, isRng2, uDGet, bodyE, startE, ugName, List.map_cons, List.map_nil, List.length_cons, List.length_nil, List.cons_append, List.nil_append, List.getElem?_cons_zero, List.getElem?_cons_succ, List.set_cons_zero, List.set_cons_succ, List.replicate, Nat.add_one_sub_one, Nat.sub_self, Nat.reduceSub, Nat.reduceAdd, Option.some.injEq, exists_eq_left', exists_eq_left, exists_and_left, true_and, and_true, D.bl.injEq, D.int.injEq, D.str.injEq, D.tup.injEq, D.ref.injEq, Ob.lst.injEq, List.cons.injEq, fTup, if_true, if_false, ite_true, ite_false, Bool.false_eq_true, Bool.true_eq_false, reduceIte, utYes]
    refine ⟨acc, hp, by rw [sizeLine_eq]; omega, ?_⟩
    refine lc_const hw xs (acc ++ [.str x]) _ sup_same (by rw [List.length_append]; simp; omega) fun S' hS hp' => k S' (fun b hb => (hS b hb).trans (sup_ne hb)) ?_
    rw [hp', List.append_assoc]
    simp [List.replicate_succ]
theorem lc_atoms {S0 : SS} {jar cr p : Addr} {env : En} {Q : SS → Prop} {e1 e2 e4 : Option D} {n0 : Nat} (hj0 : JarS S0 jar cr n0) (hp0 : S0 p = none) (hw : wipeE env [3] = [some (.ref jar), e1, e2, none, e4]) : ∀ (xs : List D) (l : List (List Nat)) (n : Nat) (S : SS), KeepX S0 jar S → JarS S jar cr n → n + 40 * xs.length ≤ 900000 →
    S p = some (.lst (l.map .str)) → (∀ x ∈ l, AtF x) → l.length + xs.length ≤ 1000 →
    (∀ (S' : SS) (l' : List (List Nat)), KeepX S0 jar S' → JarS S' jar cr (n + 40 * xs.length) → S' p = some (.lst (l'.map .str)) → (∀ x ∈ l', AtF x) → l'.length = l.length + xs.length → Q S') →
    lcL (ugName 3) utYes (uCall sp__law_atom gId (uA1 1 (uCons (uVar 0) uNil))) (fun _ => True) [3] p env Q xs S
  | [], l, n, S, kx, hj, hn, hp, ha, hl, k => ⟨trivial, k S l kx hj hp ha rfl⟩
  | y :: xs, l, n, S, kx, hj, hn, hp, ha, hl, k => by
    have hpj := hj0.fr hp0
    simp only [List.length_cons] at hl hn
    refine ⟨trivial, ?_⟩
    rw [hw]
    simp only [dAdd, dAddI, dSub, dEq, dNe, dLt, dLe, dGt, dGe, dIs, SL.isNon, dNeg, fLen, lenD, isTy, mLstrip, seqOf, tru, tyOf, Option.map_some, String.reduceEq, usNil, usSeq, usSet, usExpr, usRet, usRetN, usIf, usBrk, usCnt, usAug, usAsg, usDPut, usRaise, usSub, uVar, uC, uBin, uChain, uUn, uTru, uTb, uAnd, uOr, uNot, uAndV, uOrV, uNotV, uIte, uNil, uCons, uTup, uLst, uNoPart, uPart, uSl, vSl, uFn, gP, uIsi, uBM, uBM0, gM, gAppend, gPop, uCall, uA0, uA1, gId, gApp, isSeq, isRng, isRng2, uDGet, bodyE, startE, ugName, List.map_cons, List.map_nil, List.length_cons, List.length_nil, List.cons_append, List.nil_append, List.getElem?_cons_zero, List.getElem?_cons_succ, List.set_cons_zero, List.set_cons_succ, List.replicate, Nat.add_one_sub_one, Nat.sub_self, Nat.reduceSub, Nat.reduceAdd, Option.some.injEq, exists_eq_left', exists_eq_left, exists_and_left, true_and, and_true, D.bl.injEq, D.int.injEq, D.str.injEq, D.tup.injEq, D.ref.injEq, Ob.lst.injEq, List.cons.injEq, fTup, if_true, if_false, ite_true, ite_false, Bool.false_eq_true, Bool.true_eq_false, reduceIte, utYes]
    refine atom_of hj (by omega) kx fun x S' hx hj' kx' hb => ?_
    refine ⟨l.map .str, by rw [hb p hpj.1]; exact hp, by rw [List.length_map, sizeLine_eq]; omega, ?_⟩
    refine lc_atoms hj0 hp0 hw xs (l ++ [x]) (n + 40) _ (kx'.at_ hp0) (hj'.at_ hpj.1 hpj.2) (by omega) (by rw [sup_same]; simp) (fun z hz => by
      rcases List.mem_append.mp hz with w | w
      · exact ha z w
      · simp at w; rw [w]; exact hx) (by rw [List.length_append]; simp; omega) fun S2 l2 a1 a2 a3 a4 a5 => k S2 l2 a1 (a2.mono (by simp; omega)) a3 a4 (by rw [a5, List.length_append]; simp; omega)
/-! runs -/
theorem sJoin_eq (l : List (List Nat)) : sJoin [44] l = TL.joinL [44] l := by
  unfold sJoin
  rw [TL.join_eq]
  have := TL.tl_join (tx [44]) (l.map tx)
  unfold TL.tl at this
  rw [this, tx_cps, List.map_map]
  congr 1
  have : ((fun x : Str => x.cps.toList) ∘ tx) = id := by funext z; simp [tx_cps]
  rw [this, List.map_id]
theorem join_len : ∀ {l : List (List Nat)}, (∀ x ∈ l, AtF x) → (TL.joinL [44] l).length ≤ 14 * l.length
  | [], _ => by simp [TL.joinL]
  | [x], h => by have := (h x (by simp)).len.1; simp [TL.joinL]; omega
  | x :: y :: r, h => by
    have h1 := (h x (by simp)).len.1
    have h2 := join_len (l := y :: r) (fun z hz => h z (List.mem_cons_of_mem _ hz))
    rw [TL.joinL]
    simp only [List.length_append, List.length_cons, List.length_nil] at h2 ⊢
    omega
theorem Aft.close {st : Stt} {d : Nat} (h : Aft st (d + 1)) : stp st 41 = some ⟨.ended, 0, d⟩ := by
  rw [h.2 41 (.inl rfl)]; unfold aft
  rw [if_neg (by omega), if_pos rfl]; simp
theorem Aft.comma {st : Stt} {d : Nat} (h : Aft st (d + 1)) : stp st 44 = some ⟨.start, 0, d + 1⟩ := by
  rw [h.2 44 (.inr rfl)]; unfold aft
  rw [if_neg (by omega), if_neg (by decide), if_pos rfl]
theorem aft_ended {d : Nat} : Aft ⟨.ended, 0, d⟩ d := ⟨rfl, fun a _ => stp_ended⟩
theorem join_run {d : Nat} (hd : 0 < d) : ∀ {l : List (List Nat)} {md : Md}, l ≠ [] → (∀ x ∈ l, AtF x) → (md = .start ∨ md = .opened) → ∃ st, rn ⟨md, 0, d⟩ (TL.joinL [44] l) = some st ∧ Aft st d
  | [], _, h, _, _ => absurd rfl h
  | [x], md, _, h, hm => (h x (by simp)).run hm
  | x :: y :: r, md, _, h, hm => by
    obtain ⟨st, h1, h2⟩ := (h x (by simp)).run (d := d) hm
    obtain ⟨st2, h3, h4⟩ := join_run hd (l := y :: r) (md := .start) (by simp) (fun z hz => h z (List.mem_cons_of_mem _ hz)) (.inl rfl)
    refine ⟨st2, ?_, h4⟩
    rw [TL.joinL, rn_app, h1]
    show rn st ([44] ++ _) = _
    obtain ⟨e, rfl⟩ : ∃ e, d = e + 1 := ⟨d - 1, by omega⟩
    rw [rn_app, rn_one h2.comma]
    exact h3
def sp__law_text : FS := fun ds S Q X => ∃ jar cr n, ds = [.ref jar] ∧ n ≤ 800000 ∧ JarS S jar cr n ∧ ∀ t st S', t.length ≤ 5000 → rn s0 t = some st → JarS S' jar cr (n + 5000) → KeepX S jar S' → Q (.str t) S'
/-! the loops -/
abbrev envT (jar : Addr) (d : Nat) (e2 e3 : Option D) (t : List Nat) : En := [some (.ref jar), some (.int (d : Nat)), e2, e3, some (.str t)]
def tb1 : US := usSeq (usSet 4 (uBin dAdd (uVar 4) (uC (.str (cs "(")))))
  (usIf (uAnd (uTb (uBin dLt (uVar 3) (uC (.int 3)))) (uAnd (uTb (uBin dLt (uVar 3) (uBin dSub (uVar 1) (uC (.int 1))))) (uTb (uBin dEq (uCall sp__law_draw gId (uA1 2 (uCons (uVar 0) (uCons (uC (.int 3)) uNil)))) (uC (.int 0)))))) (usSet 4 (uBin dAdd (uBin dAdd (uVar 4) (uCall sp__law_atom gId (uA1 1 (uCons (uVar 0) uNil)))) (uC (.str (cs ","))))) usNil)
def tb2 : US := usSeq (usSet 4 (uBin dAdd (uVar 4) (uC (.str (cs ")")))))
  (usIf (uAnd (uTb (uBin dLt (uVar 3) (uC (.int 3)))) (uAnd (uTb (uBin dLt (uVar 3) (uBin dSub (uVar 1) (uC (.int 1))))) (uTb (uBin dEq (uCall sp__law_draw gId (uA1 2 (uCons (uVar 0) (uCons (uC (.int 3)) uNil)))) (uC (.int 0)))))) (usSet 4 (uBin dAdd (uBin dAdd (uVar 4) (uC (.str (cs ",")))) (uCall sp__law_atom gId (uA1 1 (uCons (uVar 0) uNil))))) usNil)
theorem tb1_of {S0 S : SS} {jar cr : Addr} {n d i : Nat} {e2 : Option D} {t : List Nat} {Z : EndsS} (hj : JarS S jar cr n) (hn : n ≤ 890000) (kx : KeepX S0 jar S) (ht : t.length ≤ 10000)
    (k : ∀ x S', (x = [] ∨ (i + 1 < d ∧ ∃ y, AtF y ∧ x = y ++ [44])) → JarS S' jar cr (n + 41) → KeepX S0 jar S' → Z.nx (envT jar d e2 (some (.int (i : Nat))) (t ++ [40] ++ x)) S') : tb1 Z (envT jar d e2 (some (.int (i : Nat))) t) S := by
  have hz : t.length + 1 ≤ sizeLine := by rw [sizeLine_eq]; omega
  have k0 : ∀ S', JarS S' jar cr (n + 41) → KeepX S0 jar S' → Z.nx (envT jar d e2 (some (.int (i : Nat))) (t ++ [40])) S' := fun S' h1 h2 => by have := k [] S' (.inl rfl) h1 h2; rwa [List.append_nil] at this
  unfold tb1
  simp only [dAdd, dAddI, dSub, dEq, dNe, dLt, dLe, dGt, dGe, dIs, SL.isNon, dNeg, fLen, lenD, isTy, mLstrip, seqOf, tru, tyOf, Option.map_some, String.reduceEq, usNil, usSeq, usSet, usExpr, usRet, usRetN, usIf, usBrk, usCnt, usAug, usAsg, usDPut, usRaise, usSub, uVar, uC, uBin, uChain, uUn, uTru, uTb, uAnd, uOr, uNot, uAndV, uOrV, uNotV, uIte, uNil, uCons, uTup, uLst, uNoPart, uPart, uSl, vSl, uFn, gP, uIsi, uBM, uBM0, gM, gAppend, gPop, uCall, uA0, uA1, gId, gApp, isSeq, isRng, isRng2, uDGet, bodyE, startE, ugName, List.map_cons, List.map_nil, List.length_cons, List.length_nil, List.cons_append, List.nil_append, List.getElem?_cons_zero, List.getElem?_cons_succ, List.set_cons_zero, List.set_cons_succ, List.replicate, Nat.add_one_sub_one, Nat.sub_self, Nat.reduceSub, Nat.reduceAdd, Option.some.injEq, exists_eq_left', exists_eq_left, exists_and_left, true_and, and_true, D.bl.injEq, D.int.injEq, D.str.injEq, D.tup.injEq, D.ref.injEq, Ob.lst.injEq, List.cons.injEq, fTup, if_true, if_false, ite_true, ite_false, Bool.false_eq_true, Bool.true_eq_false, reduceIte, envT, c_op, c_co, hz]
  by_cases h1 : (i : Int) < 3
  · rw [if_pos (decide_eq_true h1)]
    by_cases h2 : (i : Int) < d - 1
    · rw [if_pos (decide_eq_true h2)]
      refine draw_of hj (by decide) (by decide) (by omega) kx fun r S' _ _ hj' kx' _ => ?_
      simp only [dAdd, dAddI, dSub, dEq, dNe, dLt, dLe, dGt, dGe, dIs, SL.isNon, dNeg, fLen, lenD, isTy, mLstrip, seqOf, tru, tyOf, Option.map_some, String.reduceEq, usNil, usSeq, usSet, usExpr, usRet, usRetN, usIf, usBrk, usCnt, usAug, usAsg, usDPut, usRaise, usSub, uVar, uC, uBin, uChain, uUn, uTru, uTb, uAnd, uOr, uNot, uAndV, uOrV, uNotV, uIte, uNil, uCons, uTup, uLst, uNoPart, uPart, uSl, vSl, uFn, gP, uIsi, uBM, uBM0, gM, gAppend, gPop, uCall, uA0, uA1, gId, gApp, isSeq, isRng, isRng2, uDGet, bodyE, startE, ugName, List.map_cons, List.map_nil, List.length_cons, List.length_nil, List.cons_append, List.nil_append, List.getElem?_cons_zero, List.getElem?_cons_succ, List.set_cons_zero, List.set_cons_succ, List.replicate, Nat.add_one_sub_one, Nat.sub_self, Nat.reduceSub, Nat.reduceAdd, Option.some.injEq, exists_eq_left', exists_eq_left, exists_and_left, true_and, and_true, D.bl.injEq, D.int.injEq, D.str.injEq, D.tup.injEq, D.ref.injEq, Ob.lst.injEq, List.cons.injEq, fTup, if_true, if_false, ite_true, ite_false, Bool.false_eq_true, Bool.true_eq_false, reduceIte]
      split
      · refine atom_of hj' (by omega) kx' fun y S2 hy hj2 kx2 _ => ?_
        have hyl := hy.len.1
        have hz2 : (t ++ [40]).length + y.length ≤ sizeLine := by rw [sizeLine_eq, List.length_append]; simp; omega
        have hz3 : (t ++ [40] ++ y).length + 1 ≤ sizeLine := by rw [sizeLine_eq, List.length_append, List.length_append]; simp; omega
        simp only [dAdd, dAddI, dSub, dEq, dNe, dLt, dLe, dGt, dGe, dIs, SL.isNon, dNeg, fLen, lenD, isTy, mLstrip, seqOf, tru, tyOf, Option.map_some, String.reduceEq, usNil, usSeq, usSet, usExpr, usRet, usRetN, usIf, usBrk, usCnt, usAug, usAsg, usDPut, usRaise, usSub, uVar, uC, uBin, uChain, uUn, uTru, uTb, uAnd, uOr, uNot, uAndV, uOrV, uNotV, uIte, uNil, uCons, uTup, uLst, uNoPart, uPart, uSl, vSl, uFn, gP, uIsi, uBM, uBM0, gM, gAppend, gPop, uCall, uA0, uA1, gId, gApp, isSeq, isRng, isRng2, uDGet, bodyE, startE, ugName, List.map_cons, List.map_nil, List.length_cons, List.length_nil, List.cons_append, List.nil_append, List.getElem?_cons_zero, List.getElem?_cons_succ, List.set_cons_zero, List.set_cons_succ, List.replicate, Nat.add_one_sub_one, Nat.sub_self, Nat.reduceSub, Nat.reduceAdd, Option.some.injEq, exists_eq_left', exists_eq_left, exists_and_left, true_and, and_true, D.bl.injEq, D.int.injEq, D.str.injEq, D.tup.injEq, D.ref.injEq, Ob.lst.injEq, List.cons.injEq, fTup, if_true, if_false, ite_true, ite_false, Bool.false_eq_true, Bool.true_eq_false, reduceIte, hz2, hz3]
        have := k (y ++ [44]) S2 (.inr ⟨by omega, y, hy, rfl⟩) (hj2.mono (by omega)) kx2
        rwa [← List.append_assoc] at this
      · exact k0 S' (hj'.mono (by omega)) kx'
    · rw [if_neg (by simpa using h2)]
      exact k0 S (hj.mono (by omega)) kx
  · rw [if_neg (by simpa using h1)]
    exact k0 S (hj.mono (by omega)) kx
theorem tb2_of {S0 S : SS} {jar cr : Addr} {n d i : Nat} {e2 : Option D} {t : List Nat} {Z : EndsS} (hj : JarS S jar cr n) (hn : n ≤ 890000) (kx : KeepX S0 jar S) (ht : t.length ≤ 10000)
    (k : ∀ x S', (x = [] ∨ (i + 1 < d ∧ ∃ y, AtF y ∧ x = 44 :: y)) → JarS S' jar cr (n + 41) → KeepX S0 jar S' → Z.nx (envT jar d e2 (some (.int (i : Nat))) (t ++ [41] ++ x)) S') : tb2 Z (envT jar d e2 (some (.int (i : Nat))) t) S := by
  have hz : t.length + 1 ≤ sizeLine := by rw [sizeLine_eq]; omega
  have k0 : ∀ S', JarS S' jar cr (n + 41) → KeepX S0 jar S' → Z.nx (envT jar d e2 (some (.int (i : Nat))) (t ++ [41])) S' := fun S' h1 h2 => by have := k [] S' (.inl rfl) h1 h2; rwa [List.append_nil] at this
  unfold tb2
  simp only [dAdd, dAddI, dSub, dEq, dNe, dLt, dLe, dGt, dGe, dIs, SL.isNon, dNeg, fLen, lenD, isTy, mLstrip, seqOf, tru, tyOf, Option.map_some, String.reduceEq, usNil, usSeq, usSet, usExpr, usRet, usRetN, usIf, usBrk, usCnt, usAug, usAsg, usDPut, usRaise, usSub, uVar, uC, uBin, uChain, uUn, uTru, uTb, uAnd, uOr, uNot, uAndV, uOrV, uNotV, uIte, uNil, uCons, uTup, uLst, uNoPart, uPart, uSl, vSl, uFn, gP, uIsi, uBM, uBM0, gM, gAppend, gPop, uCall, uA0, uA1, gId, gApp, isSeq, isRng, isRng2, uDGet, bodyE, startE, ugName, List.map_cons, List.map_nil, List.length_cons, List.length_nil, List.cons_append, List.nil_append, List.getElem?_cons_zero, List.getElem?_cons_succ, List.set_cons_zero, List.set_cons_succ, List.replicate, Nat.add_one_sub_one, Nat.sub_self, Nat.reduceSub, Nat.reduceAdd, Option.some.injEq, exists_eq_left', exists_eq_left, exists_and_left, true_and, and_true, D.bl.injEq, D.int.injEq, D.str.injEq, D.tup.injEq, D.ref.injEq, Ob.lst.injEq, List.cons.injEq, fTup, if_true, if_false, ite_true, ite_false, Bool.false_eq_true, Bool.true_eq_false, reduceIte, envT, c_cl, c_co, hz]
  by_cases h1 : (i : Int) < 3
  · rw [if_pos (decide_eq_true h1)]
    by_cases h2 : (i : Int) < d - 1
    · rw [if_pos (decide_eq_true h2)]
      refine draw_of hj (by decide) (by decide) (by omega) kx fun r S' _ _ hj' kx' _ => ?_
      simp only [dAdd, dAddI, dSub, dEq, dNe, dLt, dLe, dGt, dGe, dIs, SL.isNon, dNeg, fLen, lenD, isTy, mLstrip, seqOf, tru, tyOf, Option.map_some, String.reduceEq, usNil, usSeq, usSet, usExpr, usRet, usRetN, usIf, usBrk, usCnt, usAug, usAsg, usDPut, usRaise, usSub, uVar, uC, uBin, uChain, uUn, uTru, uTb, uAnd, uOr, uNot, uAndV, uOrV, uNotV, uIte, uNil, uCons, uTup, uLst, uNoPart, uPart, uSl, vSl, uFn, gP, uIsi, uBM, uBM0, gM, gAppend, gPop, uCall, uA0, uA1, gId, gApp, isSeq, isRng, isRng2, uDGet, bodyE, startE, ugName, List.map_cons, List.map_nil, List.length_cons, List.length_nil, List.cons_append, List.nil_append, List.getElem?_cons_zero, List.getElem?_cons_succ, List.set_cons_zero, List.set_cons_succ, List.replicate, Nat.add_one_sub_one, Nat.sub_self, Nat.reduceSub, Nat.reduceAdd, Option.some.injEq, exists_eq_left', exists_eq_left, exists_and_left, true_and, and_true, D.bl.injEq, D.int.injEq, D.str.injEq, D.tup.injEq, D.ref.injEq, Ob.lst.injEq, List.cons.injEq, fTup, if_true, if_false, ite_true, ite_false, Bool.false_eq_true, Bool.true_eq_false, reduceIte]
      split
      · have hz2 : (t ++ [41]).length + 1 ≤ sizeLine := by rw [sizeLine_eq, List.length_append]; simp; omega
        simp only [dAdd, dAddI, dSub, dEq, dNe, dLt, dLe, dGt, dGe, dIs, SL.isNon, dNeg, fLen, lenD, isTy, mLstrip, seqOf, tru, tyOf, Option.map_some, String.reduceEq, usNil, usSeq, usSet, usExpr, usRet, usRetN, usIf, usBrk, usCnt, usAug, usAsg, usDPut, usRaise, usSub, uVar, uC, uBin, uChain, uUn, uTru, uTb, uAnd, uOr, uNot, uAndV, uOrV, uNotV, uIte, uNil, uCons, uTup, uLst, uNoPart, uPart, uSl, vSl, uFn, gP, uIsi, uBM, uBM0, gM, gAppend, gPop, uCall, uA0, uA1, gId, gApp, isSeq, isRng, isRng2, uDGet, bodyE, startE, ugName, List.map_cons, List.map_nil, List.length_cons, List.length_nil, List.cons_append, List.nil_append, List.getElem?_cons_zero, List.getElem?_cons_succ, List.set_cons_zero, List.set_cons_succ, List.replicate, Nat.add_one_sub_one, Nat.sub_self, Nat.reduceSub, Nat.reduceAdd, Option.some.injEq, exists_eq_left', exists_eq_left, exists_and_left, true_and, and_true, D.bl.injEq, D.int.injEq, D.str.injEq, D.tup.injEq, D.ref.injEq, Ob.lst.injEq, List.cons.injEq, fTup, if_true, if_false, ite_true, ite_false, Bool.false_eq_true, Bool.true_eq_false, reduceIte, hz2]
        refine atom_of hj' (by omega) kx' fun y S2 hy hj2 kx2 _ => ?_
        have hyl := hy.len.1
        have hz3 : (t ++ [41] ++ [44]).length + y.length ≤ sizeLine := by rw [sizeLine_eq, List.length_append, List.length_append]; simp; omega
        simp only [dAdd, dAddI, dSub, dEq, dNe, dLt, dLe, dGt, dGe, dIs, SL.isNon, dNeg, fLen, lenD, isTy, mLstrip, seqOf, tru, tyOf, Option.map_some, String.reduceEq, usNil, usSeq, usSet, usExpr, usRet, usRetN, usIf, usBrk, usCnt, usAug, usAsg, usDPut, usRaise, usSub, uVar, uC, uBin, uChain, uUn, uTru, uTb, uAnd, uOr, uNot, uAndV, uOrV, uNotV, uIte, uNil, uCons, uTup, uLst, uNoPart, uPart, uSl, vSl, uFn, gP, uIsi, uBM, uBM0, gM, gAppend, gPop, uCall, uA0, uA1, gId, gApp, isSeq, isRng, isRng2, uDGet, bodyE, startE, ugName, List.map_cons, List.map_nil, List.length_cons, List.length_nil, List.cons_append, List.nil_append, List.getElem?_cons_zero, List.getElem?_cons_succ, List.set_cons_zero, List.set_cons_succ, List.replicate, Nat.add_one_sub_one, Nat.sub_self, Nat.reduceSub, Nat.reduceAdd, Option.some.injEq, exists_eq_left', exists_eq_left, exists_and_left, true_and, and_true, D.bl.injEq, D.int.injEq, D.str.injEq, D.tup.injEq, D.ref.injEq, Ob.lst.injEq, List.cons.injEq, fTup, if_true, if_false, ite_true, ite_false, Bool.false_eq_true, Bool.true_eq_false, reduceIte, hz3]
        have := k (44 :: y) S2 (.inr ⟨by omega, y, hy, rfl⟩) (hj2.mono (by omega)) kx2
        simpa using this
      · exact k0 S' (hj'.mono (by omega)) kx'
    · rw [if_neg (by simpa using h2)]
      exact k0 S (hj.mono (by omega)) kx
  · rw [if_neg (by simpa using h1)]
    exact k0 S (hj.mono (by omega)) kx
theorem loop1 {S0 : SS} {jar cr : Addr} {d : Nat} (hd : d ≤ 20) {e2 : Option D} {Z : EndsS} : ∀ (j i n : Nat) (e3 : Option D) (t : List Nat) (md : Md) (S : SS), i + j = d → n + 41 * j ≤ 880000 → JarS S jar cr n → KeepX S0 jar S → t.length ≤ 15 * i → rn s0 t = some ⟨md, 0, i⟩ → (md = .start ∨ md = .opened) → (i = d → 0 < d → md = .opened) →
    (∀ t md S' e3, JarS S' jar cr (n + 41 * j) → KeepX S0 jar S' → t.length ≤ 15 * d → rn s0 t = some ⟨md, 0, d⟩ → (md = .start ∨ md = .opened) → (0 < d → md = .opened) → Z.nx (envT jar d e2 e3 t) S') →
    forL (ugName 3) tb1 (fun _ => True) Z (irng (i : Nat) j) (envT jar d e2 e3 t) S
  | 0, i, n, e3, t, md, S, hi, hn, hj, kx, ht, hr, hm, ho, k => by
    have : i = d := by omega
    subst this
    exact ⟨trivial, k t md S e3 hj kx ht hr hm (ho rfl)⟩
  | j + 1, i, n, e3, t, md, S, hi, hn, hj, kx, ht, hr, hm, ho, k => by
    rw [irng_succ]
    refine ⟨trivial, ?_⟩
    refine tb1_of hj (by omega) kx (by omega) fun x S' hx hj' kx' => ?_
    have h1 : rn s0 (t ++ [40]) = some ⟨.opened, 0, i + 1⟩ := rn_snoc hr (by
      have : stp ⟨md, 0, i⟩ 40 = fst1 40 i := by
        unfold stp; rw [if_pos]
        rcases hm with z | z
        · exact .inl z
        · exact .inr ⟨z, by decide⟩
      rw [this]; unfold fst1; rw [if_pos rfl, if_pos (by omega)])
    have hc : ((i : Nat) : Int) + 1 = ((i + 1 : Nat) : Int) := by omega
    rw [hc]
    rcases hx with rfl | ⟨hlt, y, hy, rfl⟩
    · rw [List.append_nil]
      exact loop1 hd j (i + 1) (n + 41) _ (t ++ [40]) .opened S' (by omega) (by omega) hj' kx' (by simp; omega) h1 (.inr rfl) (fun _ _ => rfl) fun t md S2 e3 a1 a2 a3 a4 a5 a6 => k t md S2 e3 (a1.mono (by omega)) a2 a3 a4 a5 a6
    · obtain ⟨st, h2, h3⟩ := hy.run (d := i + 1) (md := .opened) (.inr rfl)
      have h4 : rn s0 (t ++ [40] ++ (y ++ [44])) = some ⟨.start, 0, i + 1⟩ := by
        rw [← List.append_assoc]
        refine rn_snoc ?_ h3.comma
        rw [rn_app, h1]; exact h2
      have hyl := hy.len.1
      exact loop1 hd j (i + 1) (n + 41) _ _ .start S' (by omega) (by omega) hj' kx' (by simp; omega) h4 (.inl rfl) (fun z _ => by omega) fun t md S2 e3 a1 a2 a3 a4 a5 a6 => k t md S2 e3 (a1.mono (by omega)) a2 a3 a4 a5 a6
theorem loop2 {S0 : SS} {jar cr : Addr} {d : Nat} (hd : d ≤ 20) {e2 : Option D} {Z : EndsS} : ∀ (j i n : Nat) (e3 : Option D) (t : List Nat) (st : Stt) (S : SS), i + j = d → n + 41 * j ≤ 880000 → JarS S jar cr n → KeepX S0 jar S → t.length ≤ 500 + 15 * i → rn s0 t = some st → (∀ q, j = q + 1 → stp st 41 = some ⟨.ended, 0, q⟩) →
    (∀ t st S' e3, JarS S' jar cr (n + 41 * j) → KeepX S0 jar S' → t.length ≤ 500 + 15 * d → rn s0 t = some st → Z.nx (envT jar d e2 e3 t) S') →
    forL (ugName 3) tb2 (fun _ => True) Z (irng (i : Nat) j) (envT jar d e2 e3 t) S
  | 0, i, n, e3, t, st, S, hi, hn, hj, kx, ht, hr, hc, k => by
    have : i = d := by omega
    subst this
    exact ⟨trivial, k t st S e3 hj kx ht hr⟩
  | j + 1, i, n, e3, t, st, S, hi, hn, hj, kx, ht, hr, hc, k => by
    rw [irng_succ]
    refine ⟨trivial, ?_⟩
    refine tb2_of hj (by omega) kx (by omega) fun x S' hx hj' kx' => ?_
    have h1 : rn s0 (t ++ [41]) = some ⟨.ended, 0, j⟩ := rn_snoc hr (hc j rfl)
    have hcc : ((i : Nat) : Int) + 1 = ((i + 1 : Nat) : Int) := by omega
    rw [hcc]
    rcases hx with rfl | ⟨hlt, y, hy, rfl⟩
    · rw [List.append_nil]
      exact loop2 hd j (i + 1) (n + 41) _ (t ++ [41]) _ S' (by omega) (by omega) hj' kx' (by simp; omega) h1 (fun q hq => by subst hq; exact aft_ended.close) fun t st S2 e3 a1 a2 a3 a4 => k t st S2 e3 (a1.mono (by omega)) a2 a3 a4
    · obtain ⟨q, hq⟩ : ∃ q, j = q + 1 := ⟨j - 1, by omega⟩
      subst hq
      obtain ⟨st2, h2, h3⟩ := hy.run (d := q + 1) (md := .start) (.inl rfl)
      have h4 : rn s0 (t ++ [41] ++ 44 :: y) = some st2 := by
        have e : t ++ [41] ++ 44 :: y = t ++ [41] ++ [44] ++ y := by simp
        rw [e, rn_app, rn_snoc h1 aft_ended.comma]; exact h2
      have hyl := hy.len.1
      exact loop2 hd (q + 1) (i + 1) (n + 41) _ _ st2 S' (by omega) (by omega) hj' kx' (by simp; omega) h4 (fun q' hq => by
        have e : q' = q := by omega
        subst e
        exact h3.close) fun t st S2 e3 a1 a2 a3 a4 => k t st S2 e3 (a1.mono (by omega)) a2 a3 a4
def tT3 : US := usSeq (usFor (isRng (uVar 1)) (ugName 3) tb1)
  (usSeq (usSet 4 (uBin dAdd (uVar 4) (uBM "str" gJoin' (uC (.str (cs ","))) (uCons (uLc (isRng (uCall sp__law_draw gId (uA1 2 (uCons (uVar 0) (uCons (uC (.int 4)) uNil))))) (ugName 3) utYes (uCall sp__law_atom gId (uA1 1 (uCons (uVar 0) uNil))) [3]) uNil))))
  (usSeq (usFor (isRng (uVar 1)) (ugName 3) tb2) (usRet (uVar 4))))
def tT1 : US := usSeq (usSet 2 (uSl (uCall sp__law_atom gId (uA1 1 (uCons (uVar 0) uNil))) uNoPart (uPart (uC (.int 2)))))
  (usRet (uBin dAdd (uBin dAdd (uC (.str (cs "("))) (uBM "str" gJoin' (uC (.str (cs ","))) (uCons (uLc (isRng (uBin dAdd (uC (.int 30)) (uCall sp__law_draw gId (uA1 2 (uCons (uVar 0) (uCons (uC (.int 31)) uNil)))))) (ugName 3) utYes (uVar 2) [3]) uNil))) (uC (.str (cs ")")))))
theorem lt_eq : u__law_text K c sp__law_draw sp__law_atom = usSeq (usSet 1 (uBin dIx (uLst (uCons (uC (.int 0)) (uCons (uC (.int 1)) (uCons (uC (.int 1)) (uCons (uC (.int 2)) (uCons (uC (.int 3)) (uCons (uC (.int 19)) (uCons (uC (.int 20)) (uCons (uC (.int 20)) uNil))))))))) (uCall sp__law_draw gId (uA1 2 (uCons (uVar 0) (uCons (uC (.int 8)) uNil)))))) (usSeq (usIf (uTb (uBin dEq (uCall sp__law_draw gId (uA1 2 (uCons (uVar 0) (uCons (uC (.int 5)) uNil)))) (uC (.int 0)))) tT1 usNil)
  (usSeq (usIf (uTb (uBin dEq (uVar 1) (uC (.int 0)))) (usRet (uCall sp__law_atom gId (uA1 1 (uCons (uVar 0) uNil)))) usNil)
  (usSeq (usSet 4 (uC (.str (cs "")))) tT3))) := rfl
theorem rep_sum {l : List (List Nat)} (h : ∀ x ∈ l, AtF x) : (l.map List.length).sum ≤ 13 * l.length := by
  induction l with
  | nil => simp
  | cons x r ih =>
    have := (h x (by simp)).len.1
    have := ih fun y hy => h y (List.mem_cons_of_mem _ hy)
    simp only [List.map_cons, List.sum_cons, List.length_cons]; omega
theorem tT1_of {S0 S : SS} {jar cr : Addr} {n d : Nat} {Q : QN} {X : QX} (hj0 : JarS S0 jar cr n) (hj : JarS S jar cr (n + 10)) (hn : n ≤ 800000) (kx : KeepX S0 jar S)
    (q : ∀ t st S', t.length ≤ 5000 → rn s0 t = some st → JarS S' jar cr (n + 5000) → KeepX S0 jar S' → Q (.str t) S') : tT1 (bodyE Q X) [some (.ref jar), some (.int (d : Nat)), none, none, none] S := by
  unfold tT1
  simp only [dAdd, dAddI, dSub, dEq, dNe, dLt, dLe, dGt, dGe, dIs, SL.isNon, dNeg, fLen, lenD, isTy, mLstrip, seqOf, tru, tyOf, Option.map_some, String.reduceEq, usNil, usSeq, usSet, usExpr, usRet, usRetN, usIf, usBrk, usCnt, usAug, usAsg, usDPut, usRaise, usSub, uVar, uC, uBin, uChain, uUn, uTru, uTb, uAnd, uOr, uNot, uAndV, uOrV, uNotV, uIte, uNil, uCons, uTup, uLst, uNoPart, uPart, uSl, vSl, uFn, gP, uIsi, uBM, uBM0, gM, gAppend, gPop, uCall, uA0, uA1, gId, gApp, isSeq, isRng, isRng2, uDGet, bodyE, startE, ugName, List.map_cons, List.map_nil, List.length_cons, List.length_nil, List.cons_append, List.nil_append, List.getElem?_cons_zero, List.getElem?_cons_succ, List.set_cons_zero, List.set_cons_succ, List.replicate, Nat.add_one_sub_one, Nat.sub_self, Nat.reduceSub, Nat.reduceAdd, Option.some.injEq, exists_eq_left', exists_eq_left, exists_and_left, true_and, and_true, D.bl.injEq, D.int.injEq, D.str.injEq, D.tup.injEq, D.ref.injEq, Ob.lst.injEq, List.cons.injEq, fTup, if_true, if_false, ite_true, ite_false, Bool.false_eq_true, Bool.true_eq_false, reduceIte, c_op, c_cl, c_co]
  refine atom_of hj (by omega) kx fun x S1 hx hj1 kx1 hb1 => ?_
  have hxl := hx.len.1
  have hz : x.length ≤ sizeLine := szl (by omega)
  have hx2 := hx.take2
  have hx2l := hx2.len.1
  simp only [dAdd, dAddI, dSub, dEq, dNe, dLt, dLe, dGt, dGe, dIs, SL.isNon, dNeg, fLen, lenD, isTy, mLstrip, seqOf, tru, tyOf, Option.map_some, String.reduceEq, usNil, usSeq, usSet, usExpr, usRet, usRetN, usIf, usBrk, usCnt, usAug, usAsg, usDPut, usRaise, usSub, uVar, uC, uBin, uChain, uUn, uTru, uTb, uAnd, uOr, uNot, uAndV, uOrV, uNotV, uIte, uNil, uCons, uTup, uLst, uNoPart, uPart, uSl, vSl, uFn, gP, uIsi, uBM, uBM0, gM, gAppend, gPop, uCall, uA0, uA1, gId, gApp, isSeq, isRng, isRng2, uDGet, bodyE, startE, ugName, List.map_cons, List.map_nil, List.length_cons, List.length_nil, List.cons_append, List.nil_append, List.getElem?_cons_zero, List.getElem?_cons_succ, List.set_cons_zero, List.set_cons_succ, List.replicate, Nat.add_one_sub_one, Nat.sub_self, Nat.reduceSub, Nat.reduceAdd, Option.some.injEq, exists_eq_left', exists_eq_left, exists_and_left, true_and, and_true, D.bl.injEq, D.int.injEq, D.str.injEq, D.tup.injEq, D.ref.injEq, Ob.lst.injEq, List.cons.injEq, fTup, if_true, if_false, ite_true, ite_false, Bool.false_eq_true, Bool.true_eq_false, reduceIte, hz, cut_to (by decide : (0 : Int) ≤ 2), Int.reduceToNat, uLc]
  refine draw_of hj1 (by decide) (by decide) (by omega) kx1 fun r S2 r0 r1 hj2 kx2 hb2 => ?_
  refine ⟨_, rfl, _, rfl, by omega, by omega, fun p hp => ?_⟩
  have hpj := hj2.fr hp
  obtain ⟨m, hm⟩ : ∃ m : Nat, (30 + r).toNat = m := ⟨_, rfl⟩
  have hirl : (irng 0 m).length = m := by simp [irng]
  rw [hm]
  refine lc_const (x := x.take 2) rfl (irng 0 m) [] _ sup_same (by rw [hirl]; simp; omega) fun S3 hS3 hp3 => ?_
  rw [hirl, List.nil_append] at hp3
  have ha : ∀ y ∈ List.replicate m (x.take 2), AtF y := fun y hy => by rw [List.eq_of_mem_replicate hy]; exact hx2
  have hs := rep_sum ha
  rw [List.length_replicate] at hs
  refine ⟨[44], .ref p, List.replicate m (.str (x.take 2)), List.replicate m (x.take 2), rfl, rfl, ?_, ?_, ?_, ?_⟩
  · simp only [seqOf, hp3]
  · have := strs_map (l := List.replicate m (x.take 2))
    rwa [List.map_replicate] at this
  · rw [List.length_replicate]; simp only [List.length_cons, List.length_nil]; omega
  · have hjl := join_len ha
    rw [List.length_replicate] at hjl
    have z1 : [40].length + (sJoin [44] (List.replicate m (x.take 2))).length ≤ sizeLine := by rw [sJoin_eq, sizeLine_eq]; simp; omega
    have z2 : ([40] ++ sJoin [44] (List.replicate m (x.take 2))).length + [41].length ≤ sizeLine := by rw [sJoin_eq, sizeLine_eq]; simp; omega
    simp only [dAdd, z1, z2, if_true, Option.some.injEq, exists_eq_left']
    obtain ⟨st, h1, h2⟩ := join_run (d := 1) (by decide) (l := List.replicate m (x.take 2)) (md := .opened) (by
      intro z; rw [List.replicate_eq_nil_iff] at z; omega) ha (.inr rfl)
    refine ⟨S3, Le.refl _, q _ ⟨.ended, 0, 0⟩ S3 ?_ ?_ ?_ ?_⟩
    · rw [sJoin_eq]; simp; omega
    · rw [sJoin_eq]
      refine rn_snoc ?_ h2.close
      have e0 : rn s0 [40] = some ⟨.opened, 0, 1⟩ := rfl
      rw [rn_app, e0]; exact h1
    · obtain ⟨h1, ⟨kvs, h2, hk⟩, xs, h3, h4⟩ := hj2
      exact ⟨h1, ⟨kvs, by rw [hS3 jar hpj.1.symm, sup_ne hpj.1.symm]; exact h2, hk.mono (by omega)⟩, xs, by rw [hS3 cr hpj.2.symm, sup_ne hpj.2.symm]; exact h3, h4⟩
    · intro b o hb e
      have hbp : b ≠ p := fun z => by
        have := kx2 b o hb e
        rw [z, hp] at this; cases this
      rw [hS3 b hbp, sup_ne hbp]; exact kx2 b o hb e
theorem tT3_of {S0 S : SS} {jar cr : Addr} {n d : Nat} {Q : QN} {X : QX} (hd : d ≤ 20) (hd0 : 0 < d) (hj0 : JarS S0 jar cr n) (hj : JarS S jar cr (n + 10)) (hn : n ≤ 800000) (kx : KeepX S0 jar S)
    (q : ∀ t st S', t.length ≤ 5000 → rn s0 t = some st → JarS S' jar cr (n + 5000) → KeepX S0 jar S' → Q (.str t) S') : tT3 (bodyE Q X) [some (.ref jar), some (.int (d : Nat)), none, none, some (.str [])] S := by
  unfold tT3
  simp only [usSeq, usFor, isRng, uVar, List.getElem?_cons_zero, List.getElem?_cons_succ, Option.some.injEq, exists_eq_left', D.int.injEq]
  refine ⟨by omega, by omega, ?_⟩
  refine loop1 hd d 0 (n + 10) none [] .start S (by omega) (by omega) hj kx (by simp) rfl (.inl rfl) (fun z1 z2 => by omega) fun t md S1 e3 hj1 kx1 hl1 hr1 hm1 ho1 => ?_
  have hmo := ho1 hd0
  simp only [dAdd, dAddI, dSub, dEq, dNe, dLt, dLe, dGt, dGe, dIs, SL.isNon, dNeg, fLen, lenD, isTy, mLstrip, seqOf, tru, tyOf, Option.map_some, String.reduceEq, usNil, usSeq, usSet, usExpr, usRet, usRetN, usIf, usBrk, usCnt, usAug, usAsg, usDPut, usRaise, usSub, uVar, uC, uBin, uChain, uUn, uTru, uTb, uAnd, uOr, uNot, uAndV, uOrV, uNotV, uIte, uNil, uCons, uTup, uLst, uNoPart, uPart, uSl, vSl, uFn, gP, uIsi, uBM, uBM0, gM, gAppend, gPop, uCall, uA0, uA1, gId, gApp, isSeq, isRng, isRng2, uDGet, bodyE, startE, ugName, List.map_cons, List.map_nil, List.length_cons, List.length_nil, List.cons_append, List.nil_append, List.getElem?_cons_zero, List.getElem?_cons_succ, List.set_cons_zero, List.set_cons_succ, List.replicate, Nat.add_one_sub_one, Nat.sub_self, Nat.reduceSub, Nat.reduceAdd, Option.some.injEq, exists_eq_left', exists_eq_left, exists_and_left, true_and, and_true, D.bl.injEq, D.int.injEq, D.str.injEq, D.tup.injEq, D.ref.injEq, Ob.lst.injEq, List.cons.injEq, fTup, if_true, if_false, ite_true, ite_false, Bool.false_eq_true, Bool.true_eq_false, reduceIte, envT, uLc, c_co]
  refine draw_of hj1 (by decide) (by decide) (by omega) kx1 fun r S2 r0 r1 hj2 kx2 hb2 => ?_
  refine ⟨r, rfl, by omega, by omega, fun p hp => ?_⟩
  have hpj := hj2.fr hp
  have hp0 : S0 p = none := by
    cases e : S0 p with
    | none => rfl
    | some o => have := kx2 p o hpj.1 e; rw [hp] at this; cases this
  have hirl : (irng 0 r.toNat).length = r.toNat := by simp [irng]
  have hj2p := (hj2.at_ (o := .lst []) hpj.1 hpj.2)
  refine lc_atoms hj0 hp0 rfl (irng 0 r.toNat) [] (n + 10 + 41 * d + 1) _ (kx2.at_ hp0) hj2p (by rw [hirl]; omega) (by rw [sup_same]; rfl) (fun x hx => by cases hx) (by rw [hirl]; simp; omega) fun S3 l kx3 hj3 hp3 ha hll => ?_
  rw [hirl] at hj3 hll
  simp only [List.length_nil, Nat.zero_add] at hll
  have hs := rep_sum ha
  have hjl := join_len ha
  refine ⟨[44], .ref p, l.map .str, l, rfl, rfl, by simp only [seqOf, hp3], strs_map, by simp only [List.length_cons, List.length_nil]; omega, ?_⟩
  rw [sJoin_eq]
  have z1 : t.length + (TL.joinL [44] l).length ≤ sizeLine := by rw [sizeLine_eq]; omega
  simp only [dAdd, dAddI, dSub, dEq, dNe, dLt, dLe, dGt, dGe, dIs, SL.isNon, dNeg, fLen, lenD, isTy, mLstrip, seqOf, tru, tyOf, Option.map_some, String.reduceEq, usNil, usSeq, usSet, usExpr, usRet, usRetN, usIf, usBrk, usCnt, usAug, usAsg, usDPut, usRaise, usSub, uVar, uC, uBin, uChain, uUn, uTru, uTb, uAnd, uOr, uNot, uAndV, uOrV, uNotV, uIte, uNil, uCons, uTup, uLst, uNoPart, uPart, uSl, vSl, uFn, gP, uIsi, uBM, uBM0, gM, gAppend, gPop, uCall, uA0, uA1, gId, gApp, isSeq, isRng, isRng2, uDGet, bodyE, startE, ugName, List.map_cons, List.map_nil, List.length_cons, List.length_nil, List.cons_append, List.nil_append, List.getElem?_cons_zero, List.getElem?_cons_succ, List.set_cons_zero, List.set_cons_succ, List.replicate, Nat.add_one_sub_one, Nat.sub_self, Nat.reduceSub, Nat.reduceAdd, Option.some.injEq, exists_eq_left', exists_eq_left, exists_and_left, true_and, and_true, D.bl.injEq, D.int.injEq, D.str.injEq, D.tup.injEq, D.ref.injEq, Ob.lst.injEq, List.cons.injEq, fTup, if_true, if_false, ite_true, ite_false, Bool.false_eq_true, Bool.true_eq_false, reduceIte, z1]
  obtain ⟨d', rfl⟩ : ∃ d', d = d' + 1 := ⟨d - 1, by omega⟩
  obtain ⟨st, hst, hcl⟩ : ∃ st, rn s0 (t ++ TL.joinL [44] l) = some st ∧ stp st 41 = some ⟨.ended, 0, d'⟩ := by
    by_cases hl : l = []
    · subst hl
      refine ⟨_, by rw [show TL.joinL [44] [] = [] from rfl, List.append_nil]; exact hr1, ?_⟩
      rw [hmo]; simp [stp]
    · obtain ⟨st2, g1, g2⟩ := join_run (d := d' + 1) (by omega) hl ha hm1
      exact ⟨st2, by rw [rn_app, hr1]; exact g1, g2.close⟩
  simp only [usFor, isRng, uVar, List.getElem?_cons_zero, List.getElem?_cons_succ, Option.some.injEq, exists_eq_left', D.int.injEq]
  refine ⟨by omega, by omega, ?_⟩
  refine loop2 (e2 := none) hd (d' + 1) 0 (n + 10 + 41 * (d' + 1) + 1 + 40 * r.toNat) e3 _ st S3 (by omega) (by omega) hj3 kx3 (by rw [List.length_append]; omega) hst (fun q hq => by
    have e : q = d' := by omega
    subst e; exact hcl) fun t2 st2 S4 e3 hj4 kx4 hl4 hr4 => ?_
  simp only [dAdd, dAddI, dSub, dEq, dNe, dLt, dLe, dGt, dGe, dIs, SL.isNon, dNeg, fLen, lenD, isTy, mLstrip, seqOf, tru, tyOf, Option.map_some, String.reduceEq, usNil, usSeq, usSet, usExpr, usRet, usRetN, usIf, usBrk, usCnt, usAug, usAsg, usDPut, usRaise, usSub, uVar, uC, uBin, uChain, uUn, uTru, uTb, uAnd, uOr, uNot, uAndV, uOrV, uNotV, uIte, uNil, uCons, uTup, uLst, uNoPart, uPart, uSl, vSl, uFn, gP, uIsi, uBM, uBM0, gM, gAppend, gPop, uCall, uA0, uA1, gId, gApp, isSeq, isRng, isRng2, uDGet, bodyE, startE, ugName, List.map_cons, List.map_nil, List.length_cons, List.length_nil, List.cons_append, List.nil_append, List.getElem?_cons_zero, List.getElem?_cons_succ, List.set_cons_zero, List.set_cons_succ, List.replicate, Nat.add_one_sub_one, Nat.sub_self, Nat.reduceSub, Nat.reduceAdd, Option.some.injEq, exists_eq_left', exists_eq_left, exists_and_left, true_and, and_true, D.bl.injEq, D.int.injEq, D.str.injEq, D.tup.injEq, D.ref.injEq, Ob.lst.injEq, List.cons.injEq, fTup, if_true, if_false, ite_true, ite_false, Bool.false_eq_true, Bool.true_eq_false, reduceIte, envT]
  exact ⟨S4, Le.refl _, q t2 st2 S4 (by omega) hr4 (hj4.mono (by omega)) kx4⟩
theorem ok_law_text {ds : List D} {S : SS} {Q : QN} {X : QX} (h : sp__law_text ds S Q X) : u__law_text K c sp__law_draw sp__law_atom (bodyE Q X) (startE N__law_text ds) S := by
  obtain ⟨jar, cr, n, rfl, hn, hj, q⟩ := h
  rw [lt_eq]
  simp only [dAdd, dAddI, dSub, dEq, dNe, dLt, dLe, dGt, dGe, dIs, SL.isNon, dNeg, fLen, lenD, isTy, mLstrip, seqOf, tru, tyOf, Option.map_some, String.reduceEq, usNil, usSeq, usSet, usExpr, usRet, usRetN, usIf, usBrk, usCnt, usAug, usAsg, usDPut, usRaise, usSub, uVar, uC, uBin, uChain, uUn, uTru, uTb, uAnd, uOr, uNot, uAndV, uOrV, uNotV, uIte, uNil, uCons, uTup, uLst, uNoPart, uPart, uSl, vSl, uFn, gP, uIsi, uBM, uBM0, gM, gAppend, gPop, uCall, uA0, uA1, gId, gApp, isSeq, isRng, isRng2, uDGet, bodyE, startE, ugName, List.map_cons, List.map_nil, List.length_cons, List.length_nil, List.cons_append, List.nil_append, List.getElem?_cons_zero, List.getElem?_cons_succ, List.set_cons_zero, List.set_cons_succ, List.replicate, Nat.add_one_sub_one, Nat.sub_self, Nat.reduceSub, Nat.reduceAdd, Option.some.injEq, exists_eq_left', exists_eq_left, exists_and_left, true_and, and_true, D.bl.injEq, D.int.injEq, D.str.injEq, D.tup.injEq, D.ref.injEq, Ob.lst.injEq, List.cons.injEq, fTup, if_true, if_false, ite_true, ite_false, Bool.false_eq_true, Bool.true_eq_false, reduceIte, c_e]
  refine ⟨by rw [sizeLine_eq]; decide, fun p hp => ?_⟩
  have hpj := hj.fr hp
  refine draw_of (hj.new hp) (by decide) (by decide) (by omega) (KeepX.new .refl hp) fun r S1 r0 r1 hj1 kx1 hb1 => ?_
  obtain ⟨dd, ed, hd⟩ := ix_pickL (S := S1) (by rw [hb1 p hpj.1, sup_same]) r0 (by simpa using r1)
  obtain ⟨d, rfl, hd20⟩ : ∃ d : Nat, dd = .int (d : Nat) ∧ d ≤ 20 := by
    simp at hd
    rcases hd with z | z | z | z | z | z
    · exact ⟨0, z, by decide⟩
    · exact ⟨1, z, by decide⟩
    · exact ⟨2, z, by decide⟩
    · exact ⟨3, z, by decide⟩
    · exact ⟨19, z, by decide⟩
    · exact ⟨20, z, by decide⟩
  simp only [dAdd, dAddI, dSub, dEq, dNe, dLt, dLe, dGt, dGe, dIs, SL.isNon, dNeg, fLen, lenD, isTy, mLstrip, seqOf, tru, tyOf, Option.map_some, String.reduceEq, usNil, usSeq, usSet, usExpr, usRet, usRetN, usIf, usBrk, usCnt, usAug, usAsg, usDPut, usRaise, usSub, uVar, uC, uBin, uChain, uUn, uTru, uTb, uAnd, uOr, uNot, uAndV, uOrV, uNotV, uIte, uNil, uCons, uTup, uLst, uNoPart, uPart, uSl, vSl, uFn, gP, uIsi, uBM, uBM0, gM, gAppend, gPop, uCall, uA0, uA1, gId, gApp, isSeq, isRng, isRng2, uDGet, bodyE, startE, ugName, List.map_cons, List.map_nil, List.length_cons, List.length_nil, List.cons_append, List.nil_append, List.getElem?_cons_zero, List.getElem?_cons_succ, List.set_cons_zero, List.set_cons_succ, List.replicate, Nat.add_one_sub_one, Nat.sub_self, Nat.reduceSub, Nat.reduceAdd, Option.some.injEq, exists_eq_left', exists_eq_left, exists_and_left, true_and, and_true, D.bl.injEq, D.int.injEq, D.str.injEq, D.tup.injEq, D.ref.injEq, Ob.lst.injEq, List.cons.injEq, fTup, if_true, if_false, ite_true, ite_false, Bool.false_eq_true, Bool.true_eq_false, reduceIte, ed]
  refine draw_of hj1 (by decide) (by decide) (by omega) kx1 fun r2 S2 r20 r21 hj2 kx2 hb2 => ?_
  simp only [dAdd, dAddI, dSub, dEq, dNe, dLt, dLe, dGt, dGe, dIs, SL.isNon, dNeg, fLen, lenD, isTy, mLstrip, seqOf, tru, tyOf, Option.map_some, String.reduceEq, usNil, usSeq, usSet, usExpr, usRet, usRetN, usIf, usBrk, usCnt, usAug, usAsg, usDPut, usRaise, usSub, uVar, uC, uBin, uChain, uUn, uTru, uTb, uAnd, uOr, uNot, uAndV, uOrV, uNotV, uIte, uNil, uCons, uTup, uLst, uNoPart, uPart, uSl, vSl, uFn, gP, uIsi, uBM, uBM0, gM, gAppend, gPop, uCall, uA0, uA1, gId, gApp, isSeq, isRng, isRng2, uDGet, bodyE, startE, ugName, List.map_cons, List.map_nil, List.length_cons, List.length_nil, List.cons_append, List.nil_append, List.getElem?_cons_zero, List.getElem?_cons_succ, List.set_cons_zero, List.set_cons_succ, List.replicate, Nat.add_one_sub_one, Nat.sub_self, Nat.reduceSub, Nat.reduceAdd, Option.some.injEq, exists_eq_left', exists_eq_left, exists_and_left, true_and, and_true, D.bl.injEq, D.int.injEq, D.str.injEq, D.tup.injEq, D.ref.injEq, Ob.lst.injEq, List.cons.injEq, fTup, if_true, if_false, ite_true, ite_false, Bool.false_eq_true, Bool.true_eq_false, reduceIte]
  split
  · exact tT1_of hj (hj2.mono (by omega)) hn kx2 q
  · by_cases h0 : d = 0
    · subst h0
      rw [if_pos (by rfl)]
      refine atom_of hj2 (by omega) kx2 fun x S3 hx hj3 kx3 hb3 => ?_
      obtain ⟨st, g1, g2⟩ := hx.run (d := 0) (md := .start) (.inl rfl)
      exact ⟨S3, Le.refl _, q x st S3 (by have := hx.len.1; omega) g1 (hj3.mono (by omega)) kx3⟩
    · rw [if_neg (by rw [beq_iff_eq]; omega)]
      exact tT3_of hd20 (by omega) hj (hj2.mono (by omega)) hn kx2 q
end K00

set_option Elab.async false
set_option linter.all false
set_option maxRecDepth 100000
set_option maxHeartbeats 4000000
namespace K00
open PySem PySem.Spec L2 SL
variable {K : PySem.W.Frag} {c : Cs}
abbrev jks : List Key := [Sum.inr "cells", Sum.inr "at", Sum.inr "great", Sum.inr "left", Sum.inr "salt", Sum.inr "turn"]
theorem jd_mk {cr : Addr} : (jks.zip [D.ref cr, .int 0, .int 0, .int 0, .int 5, .int 0]).foldl (fun a kv => dput kv.1 kv.2 a) [] = jd cr 0 0 0 5 0 := by
  simp [dput, dhas, jd, ne_cells_at, ne_cells_great, ne_cells_left, ne_cells_salt, ne_cells_turn, ne_at_great, ne_at_left, ne_at_salt, ne_at_turn, ne_great_left, ne_great_salt, ne_great_turn, ne_left_salt, ne_left_turn, ne_salt_turn]
theorem lc_ints {xs0 : List D} {p2 p3 : Addr} {env : En} {Q : SS → Prop} (hne : p2 ≠ p3) (hw : (wipeE env [1]).length = 2) : ∀ (xs acc : List Int) (S : SS), S p2 = some (.lst xs0) → S p3 = some (.lst (acc.map .int)) → acc.length + xs.length ≤ 1000 →
    (∀ S', (∀ b, b ≠ p3 → S' b = S b) → S' p3 = some (.lst ((acc ++ xs).map .int)) → Q S') →
    lcL (ugName 1) utYes (uFn (gP fInt) (uCons (uVar 1) uNil)) (fun S => S p2 = some (.lst xs0)) [1] p3 env Q (xs.map .int) S
  | [], acc, S, h2, h3, hl, k => ⟨h2, k S (fun _ _ => rfl) (by simpa using h3)⟩
  | x :: xs, acc, S, h2, h3, hl, k => by
    simp only [List.length_cons] at hl
    have hg : ((wipeE env [1]).set 1 (some (D.int x)))[1]? = some (some (.int x)) := by rw [List.getElem?_set_self (by omega)]
    refine ⟨h2, ?_⟩
    simp only [dAdd, dAddI, dSub, dEq, dNe, dLt, dLe, dGt, dGe, dIs, SL.isNon, dNeg, fLen, lenD, isTy, mLstrip, seqOf, tru, tyOf, Option.map_some, String.reduceEq, usNil, usSeq, usSet, usExpr, usRet, usRetN, usIf, usBrk, usCnt, usAug, usAsg, usDPut, usRaise, usSub, uVar, uC, uBin, uChain, uUn, uTru, uTb, uAnd, uOr, uNot, uAndV, uOrV, uNotV, uIte, uNil, uCons, uTup, uLst, uNoPart, uPart, uSl, vSl, uFn, gP, uIsi, uBM, uBM0, gM, gAppend, gPop, uCall, uA0, uA1, gId, gApp, isSeq, isRng, isRng2, uDGet, bodyE, startE, ugName, List.map_cons, List.map_nil, List.length_cons, List.length_nil, List.cons_append, List.nil_append, List.getElem?_cons_zero, List.getElem?_cons_succ, List.set_cons_zero, List.set_cons_succ, List.replicate, Nat.add_one_sub_one, Nat.sub_self, Nat.reduceSub, Nat.reduceAdd, Option.some.injEq, exists_eq_left', exists_eq_left, exists_and_left, true_and, and_true, D.bl.injEq, D.int.injEq, D.str.injEq, D.tup.injEq, D.ref.injEq, Ob.lst.injEq, List.cons.injEq, fTup, if_true, if_false, ite_true, ite_false, Bool.false_eq_true, Bool.true_eq_false, reduceIte, utYes, hg, fInt]
    refine ⟨_, h3, by rw [List.length_map, sizeLine_eq]; omega, ?_⟩
    refine lc_ints hne hw xs (acc ++ [x]) _ (by rw [sup_ne hne]; exact h2) (by rw [sup_same]; simp) (by rw [List.length_append]; simp; omega) fun S' hS hp => k S' (fun b hb => (hS b hb).trans (sup_ne hb)) (by rw [hp]; simp)
/-- the script -/
def Scr (S : SS) (sd : D) (ns : List Int) : Prop := (∃ a, sd = .ref a ∧ S a = some (.rol (ns.map .int))) ∨ sd = .kl (ns.map .int)
def sp__law_jar : FS := fun ds S Q X => ∃ sd, ∃ ns : List Int, ds = [sd] ∧ Scr S sd ns ∧ ∀ p cr S', Le S S' → JarS S' p cr 0 → Q (.ref p) S'
theorem ok_law_jar {ds : List D} {S : SS} {Q : QN} {X : QX} (h : sp__law_jar ds S Q X) : u__law_jar K c (bodyE Q X) (startE N__law_jar ds) S := by
  obtain ⟨sd, ns, rfl, hs, q⟩ := h
  unfold u__law_jar
  simp only [dAdd, dAddI, dSub, dEq, dNe, dLt, dLe, dGt, dGe, dIs, SL.isNon, dNeg, fLen, lenD, isTy, mLstrip, seqOf, tru, tyOf, Option.map_some, String.reduceEq, usNil, usSeq, usSet, usExpr, usRet, usRetN, usIf, usBrk, usCnt, usAug, usAsg, usDPut, usRaise, usSub, uVar, uC, uBin, uChain, uUn, uTru, uTb, uAnd, uOr, uNot, uAndV, uOrV, uNotV, uIte, uNil, uCons, uTup, uLst, uNoPart, uPart, uSl, vSl, uFn, gP, uIsi, uBM, uBM0, gM, gAppend, gPop, uCall, uA0, uA1, gId, gApp, isSeq, isRng, isRng2, uDGet, bodyE, startE, ugName, List.map_cons, List.map_nil, List.length_cons, List.length_nil, List.cons_append, List.nil_append, List.getElem?_cons_zero, List.getElem?_cons_succ, List.set_cons_zero, List.set_cons_succ, List.replicate, Nat.add_one_sub_one, Nat.sub_self, Nat.reduceSub, Nat.reduceAdd, Option.some.injEq, exists_eq_left', exists_eq_left, exists_and_left, true_and, and_true, D.bl.injEq, D.int.injEq, D.str.injEq, D.tup.injEq, D.ref.injEq, Ob.lst.injEq, List.cons.injEq, fTup, if_true, if_false, ite_true, ite_false, Bool.false_eq_true, Bool.true_eq_false, reduceIte, uDsp, uLc]
  intro p hp
  have hcut : cut (ns.map D.int) none (some 63) = (ns.take 63).map .int := by rw [cut_to (by decide), List.map_take]; rfl
  have main : ∀ p2, SL.sup S p (.dic []) p2 = none → ∀ p3, SL.sup (SL.sup S p (.dic [])) p2 (.lst ((ns.take 63).map .int)) p3 = none →
      lcL (ugName 1) utYes (uFn (gP fInt) (uCons (uVar 1) uNil)) (fun S => S p2 = some (.lst ((ns.take 63).map .int))) [1] p3 [some sd, none] (fun S2 => S2 p = some (.dic []) ∧ ∃ S', Le S' (SL.sup S2 p (.dic ((jks.zip (D.ref p3 :: [.int 0, .int 0, .int 0, .int 5, .int 0])).foldl (fun a kv => dput kv.1 kv.2 a) []))) ∧ Q (.ref p) S') ((ns.take 63).map .int) (SL.sup (SL.sup (SL.sup S p (.dic [])) p2 (.lst ((ns.take 63).map .int))) p3 (.lst [])) := fun p2 hp2 p3 hp3 => by
    have h23 : p2 ≠ p3 := fun z => by rw [← z, sup_same] at hp3; cases hp3
    have h2p : p2 ≠ p := fun z => by rw [z, sup_same] at hp2; cases hp2
    have h3p : p3 ≠ p := fun z => by rw [z, sup_ne h2p.symm, sup_same] at hp3; cases hp3
    refine lc_ints h23 rfl (ns.take 63) [] _ (by rw [sup_ne h23, sup_same]) (by rw [sup_same]; rfl) (by rw [List.length_take]; simp; omega) fun S' hS hp3' => ?_
    have hSp : S' p = some (.dic []) := by rw [hS p h3p.symm, sup_ne h3p.symm, sup_ne h2p.symm, sup_same]
    refine ⟨hSp, SL.sup S' p (.dic (jd p3 0 0 0 5 0)), ?_, ?_⟩
    · rw [jd_mk]; exact Le.refl _
    · refine q p p3 _ (fun b o e => ?_) ⟨h3p, ⟨_, sup_same, 0, 0, 0, 5, 0, rfl, by decide, by decide, by decide, by decide, by decide, by decide⟩, ns.take 63, by rw [sup_ne h3p]; simpa using hp3', by rw [List.length_take]; omega⟩
      have b1 : b ≠ p := fun z => by rw [z, hp] at e; cases e
      have b2 : b ≠ p2 := fun z => by rw [z] at e b1; rw [sup_ne b1, e] at hp2; cases hp2
      have b3 : b ≠ p3 := fun z => by rw [z] at e b1 b2; rw [sup_ne b2, sup_ne b1, e] at hp3; cases hp3
      rw [sup_ne b1, hS b b3, sup_ne b3, sup_ne b2, sup_ne b1]; exact e
  rcases hs with ⟨sc, rfl, hs⟩ | rfl
  · have hsp : sc ≠ p := fun z => by rw [z, hp] at hs; cases hs
    simp only [sup_ne hsp, hs, hcut]
    intro p2 hp2
    simp only [vSeq, sup_same]
    exact fun p3 hp3 => main p2 hp2 p3 hp3
  · simp only [hcut]
    intro p2 hp2
    simp only [vSeq, sup_same]
    exact fun p3 hp3 => main p2 hp2 p3 hp3

/-! ### law -/
/-- the states of a text's beginnings -/
def sts (t : List Nat) (k : Nat) : List D := (List.range (k + 1)).map fun i => eO (rn s0 (t.take i))
theorem sts_len {t : List Nat} {k : Nat} : (sts t k).length = k + 1 := by simp [sts]
theorem sts_succ {t : List Nat} {k : Nat} : sts t (k + 1) = sts t k ++ [eO (rn s0 (t.take (k + 1)))] := by unfold sts; rw [List.range_succ (n := k + 1), List.map_append]; rfl
theorem sts_get {t : List Nat} {k i : Nat} (h : i ≤ k) : (sts t k)[i]? = some (eO (rn s0 (t.take i))) := by
  unfold sts
  rw [List.getElem?_map, List.getElem?_range (by omega)]; rfl
theorem pre_some {t : List Nat} {st : Stt} (h : rn s0 t = some st) (i : Nat) : ∃ s, rn s0 (t.take i) = some s := by
  have e : t = t.take i ++ t.drop i := (List.take_append_drop i t).symm
  rw [e, rn_app] at h
  cases hs : rn s0 (t.take i) with
  | none => rw [hs] at h; cases h
  | some s => exact ⟨s, rfl⟩
abbrev E14 (sc : D) (jar p3 : Addr) (t : List Nat) (e4 e5 e6 e7 e8 e9 e10 e11 e12 e13 : Option D) : En := [some sc, some (.ref jar), some (.str t), some (.ref p3), e4, e5, e6, e7, e8, e9, e10, e11, e12, e13]
section
variable {S0 : SS} {sc : D} {jar cr p3 : Addr} {t : List Nat} {st0 : Stt} (ht : rn s0 t = some st0) (hl : t.length ≤ 5000)
include ht hl
/-- one judgement -/
theorem judge_of {S : SS} {i : Nat} {sg : List Nat} (hi : i ≤ t.length) (hs : sg.length ≤ 1000) (hp : S p3 = some (.lst (sts t t.length))) :
    ∃ d, dIx S (.ref p3) (.int (i : Nat)) = some d ∧ ∀ (Q : QN) (X : QX), Q (.bl true) S → sp__law_judge [.str (t.take i), d, .str sg] S Q X := by
  obtain ⟨s, hs'⟩ := pre_some ht i
  refine ⟨eS s, ?_, fun Q X k => ⟨t.take i, s, sg, rfl, hs', by rw [List.length_append, List.length_take]; omega, k⟩⟩
  simp only [dIx, hp]
  rw [SL.atI_nat, sts_get hi, hs']; rfl
def jdB : US := usIf (uNot (uTru (uCall sp__law_judge gId (uA1 3 (uCons (uSl (uVar 2) uNoPart (uPart (uVar 9))) (uCons (uBin dIx (uVar 3) (uVar 9)) (uCons (uVar 4) uNil))))))) (usRet (uC (.bl false))) usNil
omit ht hl in
theorem tk_len {i : Nat} (hl : t.length ≤ 5000) : t.length ≤ sizeLine := szl (by omega)
/-- each sign of a row -/
theorem jud_all {Z : EndsS} {i : Nat} {e5 e6 e7 e8 e10 e11 e12 e13 : Option D} {S : SS} (hi : i ≤ t.length) (hp : S p3 = some (.lst (sts t t.length))) : ∀ (xs : List Nat) (e4 : Option D),
    (∀ e4, Z.nx (E14 sc jar p3 t e4 e5 e6 e7 e8 (some (.int (i : Nat))) e10 e11 e12 e13) S) → forL (ugName 4) jdB (fun _ => True) Z (chs xs) (E14 sc jar p3 t e4 e5 e6 e7 e8 (some (.int (i : Nat))) e10 e11 e12 e13) S
  | [], e4, k => ⟨trivial, k e4⟩
  | a :: xs, e4, k => by
    refine ⟨trivial, ?_⟩
    have hz := szl (n := t.length) (by omega)
    unfold jdB
    simp only [dAdd, dAddI, dSub, dEq, dNe, dLt, dLe, dGt, dGe, dIs, SL.isNon, dNeg, fLen, lenD, isTy, mLstrip, seqOf, tru, tyOf, Option.map_some, String.reduceEq, usNil, usSeq, usSet, usExpr, usRet, usRetN, usIf, usBrk, usCnt, usAug, usAsg, usDPut, usRaise, usSub, uVar, uC, uBin, uChain, uUn, uTru, uTb, uAnd, uOr, uNot, uAndV, uOrV, uNotV, uIte, uNil, uCons, uTup, uLst, uNoPart, uPart, uSl, vSl, uFn, gP, uIsi, uBM, uBM0, gM, gAppend, gPop, uCall, uA0, uA1, gId, gApp, isSeq, isRng, isRng2, uDGet, bodyE, startE, ugName, List.map_cons, List.map_nil, List.length_cons, List.length_nil, List.cons_append, List.nil_append, List.getElem?_cons_zero, List.getElem?_cons_succ, List.set_cons_zero, List.set_cons_succ, List.replicate, Nat.add_one_sub_one, Nat.sub_self, Nat.reduceSub, Nat.reduceAdd, Option.some.injEq, exists_eq_left', exists_eq_left, exists_and_left, true_and, and_true, D.bl.injEq, D.int.injEq, D.str.injEq, D.tup.injEq, D.ref.injEq, Ob.lst.injEq, List.cons.injEq, fTup, if_true, if_false, ite_true, ite_false, Bool.false_eq_true, Bool.true_eq_false, reduceIte, E14, hz, cut_to (Int.natCast_nonneg i), Int.toNat_natCast]
    obtain ⟨d, ed, mk⟩ := judge_of ht hl (S := S) (i := i) (sg := [a]) hi (by simp) hp
    exact ⟨d, ed, mk _ _ ⟨true, rfl, jud_all hi hp xs _ k⟩⟩
/-- what the law holds all the time -/
structure LW (S0 S : SS) (jar cr p3 : Addr) (t : List Nat) (n : Nat) : Prop where
  kx : KeepX S0 jar S
  jr : JarS S jar cr n
  st : S0 p3 = some (.lst (sts t t.length))
  ne : p3 ≠ jar
omit ht hl in
theorem LW.hp {S : SS} {n : Nat} (h : LW S0 S jar cr p3 t n) : S p3 = some (.lst (sts t t.length)) := h.kx p3 _ h.ne h.st
def tlB : US := usSet 12 (uBin dAdd (uVar 12) (uBin dIx (uVar 7) (uCall sp__law_draw gId (uA1 2 (uCons (uVar 1) (uCons (uFn (gP fLen) (uCons (uVar 7) uNil)) uNil))))))
omit ht hl in
theorem tl_loop {sg : List Nat} {Z : EndsS} {e4 e5 e6 e8 e9 e10 e11 : Option D} (h0 : 0 < sg.length) (h60 : sg.length ≤ 60) : ∀ (j : Nat) (lo : Int) (x : List Nat) (n : Nat) (e13 : Option D) (S : SS), LW S0 S jar cr p3 t n → n + j ≤ 900000 → x.length + j ≤ 500 →
    (∀ x S' e13, LW S0 S' jar cr p3 t (n + j) → x.length ≤ 500 → Z.nx (E14 sc jar p3 t e4 e5 e6 (some (.str sg)) e8 e9 e10 e11 (some (.str x)) e13) S') →
    forL (ugName 13) tlB (fun _ => True) Z (irng lo j) (E14 sc jar p3 t e4 e5 e6 (some (.str sg)) e8 e9 e10 e11 (some (.str x)) e13) S
  | 0, lo, x, n, e13, S, h, hn, hx, k => ⟨trivial, k x S e13 h (by omega)⟩
  | j + 1, lo, x, n, e13, S, h, hn, hx, k => by
    rw [irng_succ]
    refine ⟨trivial, ?_⟩
    have hz := szl (n := sg.length) (by omega)
    unfold tlB
    simp only [dAdd, dAddI, dSub, dEq, dNe, dLt, dLe, dGt, dGe, dIs, SL.isNon, dNeg, fLen, lenD, isTy, mLstrip, seqOf, tru, tyOf, Option.map_some, String.reduceEq, usNil, usSeq, usSet, usExpr, usRet, usRetN, usIf, usBrk, usCnt, usAug, usAsg, usDPut, usRaise, usSub, uVar, uC, uBin, uChain, uUn, uTru, uTb, uAnd, uOr, uNot, uAndV, uOrV, uNotV, uIte, uNil, uCons, uTup, uLst, uNoPart, uPart, uSl, vSl, uFn, gP, uIsi, uBM, uBM0, gM, gAppend, gPop, uCall, uA0, uA1, gId, gApp, isSeq, isRng, isRng2, uDGet, bodyE, startE, ugName, List.map_cons, List.map_nil, List.length_cons, List.length_nil, List.cons_append, List.nil_append, List.getElem?_cons_zero, List.getElem?_cons_succ, List.set_cons_zero, List.set_cons_succ, List.replicate, Nat.add_one_sub_one, Nat.sub_self, Nat.reduceSub, Nat.reduceAdd, Option.some.injEq, exists_eq_left', exists_eq_left, exists_and_left, true_and, and_true, D.bl.injEq, D.int.injEq, D.str.injEq, D.tup.injEq, D.ref.injEq, Ob.lst.injEq, List.cons.injEq, fTup, if_true, if_false, ite_true, ite_false, Bool.false_eq_true, Bool.true_eq_false, reduceIte, E14, hz]
    refine draw_of h.jr (by omega) (by omega) (by omega) h.kx fun r S' r0 r1 hj' kx' _ => ?_
    obtain ⟨a, ea, ha⟩ := ix_pick (S := S') (x := sg) (by omega) r0 r1
    have hz2 : x.length + 1 ≤ sizeLine := by rw [sizeLine_eq]; omega
    simp only [dAdd, dAddI, dSub, dEq, dNe, dLt, dLe, dGt, dGe, dIs, SL.isNon, dNeg, fLen, lenD, isTy, mLstrip, seqOf, tru, tyOf, Option.map_some, String.reduceEq, usNil, usSeq, usSet, usExpr, usRet, usRetN, usIf, usBrk, usCnt, usAug, usAsg, usDPut, usRaise, usSub, uVar, uC, uBin, uChain, uUn, uTru, uTb, uAnd, uOr, uNot, uAndV, uOrV, uNotV, uIte, uNil, uCons, uTup, uLst, uNoPart, uPart, uSl, vSl, uFn, gP, uIsi, uBM, uBM0, gM, gAppend, gPop, uCall, uA0, uA1, gId, gApp, isSeq, isRng, isRng2, uDGet, bodyE, startE, ugName, List.map_cons, List.map_nil, List.length_cons, List.length_nil, List.cons_append, List.nil_append, List.getElem?_cons_zero, List.getElem?_cons_succ, List.set_cons_zero, List.set_cons_succ, List.replicate, Nat.add_one_sub_one, Nat.sub_self, Nat.reduceSub, Nat.reduceAdd, Option.some.injEq, exists_eq_left', exists_eq_left, exists_and_left, true_and, and_true, D.bl.injEq, D.int.injEq, D.str.injEq, D.tup.injEq, D.ref.injEq, Ob.lst.injEq, List.cons.injEq, fTup, if_true, if_false, ite_true, ite_false, Bool.false_eq_true, Bool.true_eq_false, reduceIte, ea, hz2]
    exact tl_loop h0 h60 j (lo + 1) (x ++ [a]) (n + 1) _ S' ⟨kx', hj', h.st, h.ne⟩ (by omega) (by rw [List.length_append]; simp; omega) fun x S2 e13 g1 g2 => k x S2 e13 (by rw [show n + (j + 1) = n + 1 + j by omega]; exact g1) g2
def trB : US := usSeq (usSet 12 (uBin dIx (uVar 7) (uCall sp__law_draw gId (uA1 2 (uCons (uVar 1) (uCons (uFn (gP fLen) (uCons (uVar 7) uNil)) uNil))))))
  (usSeq (usFor (isRng (uCall sp__law_draw gId (uA1 2 (uCons (uVar 1) (uCons (uC (.int 4)) uNil))))) (ugName 13) tlB)
  (usIf (uNot (uTru (uCall sp__law_judge gId (uA1 3 (uCons (uVar 10) (uCons (uBin dIx (uVar 3) (uVar 9)) (uCons (uVar 12) uNil))))))) (usRet (uC (.bl false))) usNil))
theorem tr_loop {sg : List Nat} {i : Nat} {Z : EndsS} {e4 e5 e6 e8 : Option D} (hi : i ≤ t.length) (h0 : 0 < sg.length) (h60 : sg.length ≤ 60) : ∀ (j : Nat) (lo : Int) (n : Nat) (e11 e12 e13 : Option D) (S : SS), LW S0 S jar cr p3 t n → n + 10 * j ≤ 890000 →
    (∀ S' e11 e12 e13, LW S0 S' jar cr p3 t (n + 10 * j) → Z.nx (E14 sc jar p3 t e4 e5 e6 (some (.str sg)) e8 (some (.int (i : Nat))) (some (.str (t.take i))) e11 e12 e13) S') →
    forL (ugName 11) trB (fun _ => True) Z (irng lo j) (E14 sc jar p3 t e4 e5 e6 (some (.str sg)) e8 (some (.int (i : Nat))) (some (.str (t.take i))) e11 e12 e13) S
  | 0, lo, n, e11, e12, e13, S, h, hn, k => ⟨trivial, k S e11 e12 e13 h⟩
  | j + 1, lo, n, e11, e12, e13, S, h, hn, k => by
    rw [irng_succ]
    refine ⟨trivial, ?_⟩
    have hz := szl (n := sg.length) (by omega)
    unfold trB
    simp only [dAdd, dAddI, dSub, dEq, dNe, dLt, dLe, dGt, dGe, dIs, SL.isNon, dNeg, fLen, lenD, isTy, mLstrip, seqOf, tru, tyOf, Option.map_some, String.reduceEq, usNil, usSeq, usSet, usExpr, usRet, usRetN, usIf, usBrk, usCnt, usAug, usAsg, usDPut, usRaise, usSub, uVar, uC, uBin, uChain, uUn, uTru, uTb, uAnd, uOr, uNot, uAndV, uOrV, uNotV, uIte, uNil, uCons, uTup, uLst, uNoPart, uPart, uSl, vSl, uFn, gP, uIsi, uBM, uBM0, gM, gAppend, gPop, uCall, uA0, uA1, gId, gApp, isSeq, isRng, isRng2, uDGet, bodyE, startE, ugName, List.map_cons, List.map_nil, List.length_cons, List.length_nil, List.cons_append, List.nil_append, List.getElem?_cons_zero, List.getElem?_cons_succ, List.set_cons_zero, List.set_cons_succ, List.replicate, Nat.add_one_sub_one, Nat.sub_self, Nat.reduceSub, Nat.reduceAdd, Option.some.injEq, exists_eq_left', exists_eq_left, exists_and_left, true_and, and_true, D.bl.injEq, D.int.injEq, D.str.injEq, D.tup.injEq, D.ref.injEq, Ob.lst.injEq, List.cons.injEq, fTup, if_true, if_false, ite_true, ite_false, Bool.false_eq_true, Bool.true_eq_false, reduceIte, E14, hz]
    refine draw_of h.jr (by omega) (by omega) (by omega) h.kx fun r S1 r0 r1 hj1 kx1 _ => ?_
    obtain ⟨a, ea, ha⟩ := ix_pick (S := S1) (x := sg) (by omega) r0 r1
    simp only [dAdd, dAddI, dSub, dEq, dNe, dLt, dLe, dGt, dGe, dIs, SL.isNon, dNeg, fLen, lenD, isTy, mLstrip, seqOf, tru, tyOf, Option.map_some, String.reduceEq, usNil, usSeq, usSet, usExpr, usRet, usRetN, usIf, usBrk, usCnt, usAug, usAsg, usDPut, usRaise, usSub, uVar, uC, uBin, uChain, uUn, uTru, uTb, uAnd, uOr, uNot, uAndV, uOrV, uNotV, uIte, uNil, uCons, uTup, uLst, uNoPart, uPart, uSl, vSl, uFn, gP, uIsi, uBM, uBM0, gM, gAppend, gPop, uCall, uA0, uA1, gId, gApp, isSeq, isRng, isRng2, uDGet, bodyE, startE, ugName, List.map_cons, List.map_nil, List.length_cons, List.length_nil, List.cons_append, List.nil_append, List.getElem?_cons_zero, List.getElem?_cons_succ, List.set_cons_zero, List.set_cons_succ, List.replicate, Nat.add_one_sub_one, Nat.sub_self, Nat.reduceSub, Nat.reduceAdd, Option.some.injEq, exists_eq_left', exists_eq_left, exists_and_left, true_and, and_true, D.bl.injEq, D.int.injEq, D.str.injEq, D.tup.injEq, D.ref.injEq, Ob.lst.injEq, List.cons.injEq, fTup, if_true, if_false, ite_true, ite_false, Bool.false_eq_true, Bool.true_eq_false, reduceIte, ea, usFor]
    refine draw_of hj1 (by decide) (by decide) (by omega) kx1 fun r2 S2 r20 r21 hj2 kx2 _ => ?_
    refine ⟨r2, rfl, by omega, by omega, ?_⟩
    refine tl_loop h0 h60 r2.toNat 0 [a] (n + 2) e13 S2 ⟨kx2, hj2, h.st, h.ne⟩ (by omega) (by simp; omega) fun x S3 e13 g1 g2 => ?_
    simp only [dAdd, dAddI, dSub, dEq, dNe, dLt, dLe, dGt, dGe, dIs, SL.isNon, dNeg, fLen, lenD, isTy, mLstrip, seqOf, tru, tyOf, Option.map_some, String.reduceEq, usNil, usSeq, usSet, usExpr, usRet, usRetN, usIf, usBrk, usCnt, usAug, usAsg, usDPut, usRaise, usSub, uVar, uC, uBin, uChain, uUn, uTru, uTb, uAnd, uOr, uNot, uAndV, uOrV, uNotV, uIte, uNil, uCons, uTup, uLst, uNoPart, uPart, uSl, vSl, uFn, gP, uIsi, uBM, uBM0, gM, gAppend, gPop, uCall, uA0, uA1, gId, gApp, isSeq, isRng, isRng2, uDGet, bodyE, startE, ugName, List.map_cons, List.map_nil, List.length_cons, List.length_nil, List.cons_append, List.nil_append, List.getElem?_cons_zero, List.getElem?_cons_succ, List.set_cons_zero, List.set_cons_succ, List.replicate, Nat.add_one_sub_one, Nat.sub_self, Nat.reduceSub, Nat.reduceAdd, Option.some.injEq, exists_eq_left', exists_eq_left, exists_and_left, true_and, and_true, D.bl.injEq, D.int.injEq, D.str.injEq, D.tup.injEq, D.ref.injEq, Ob.lst.injEq, List.cons.injEq, fTup, if_true, if_false, ite_true, ite_false, Bool.false_eq_true, Bool.true_eq_false, reduceIte, E14]
    obtain ⟨d, ed, mk⟩ := judge_of ht hl (S := S3) (i := i) (sg := x) hi (by omega) g1.hp
    refine ⟨d, ed, mk _ _ ⟨true, rfl, ?_⟩⟩
    exact tr_loop hi h0 h60 j (lo + 1) (n + 10) _ _ _ S3 ⟨g1.kx, g1.jr.mono (by omega), g1.st, g1.ne⟩ (by omega) fun S4 e11 e12 e13 g3 => k S4 e11 e12 e13 (by rw [show n + 10 * (j + 1) = n + 10 + 10 * j by omega]; exact g3)
def plB : US := usSeq (usSet 10 (uSl (uVar 2) uNoPart (uPart (uVar 9))))
  (usSeq (usIf (uNot (uTru (uCall sp__law_judge gId (uA1 3 (uCons (uVar 10) (uCons (uBin dIx (uVar 3) (uVar 9)) (uCons (uC (.str (cs ""))) uNil))))))) (usRet (uC (.bl false))) usNil)
  (usFor (isRng (uC (.int 3))) (ugName 11) trB))
theorem pl_loop {sg : List Nat} {Z : EndsS} {p5 : Addr} {all : List D} {e4 e6 e8 : Option D} (h0 : 0 < sg.length) (h60 : sg.length ≤ 60) (hp5 : p5 ≠ jar) (hS5 : S0 p5 = some (.lst all)) : ∀ (xs : List Nat) (n : Nat) (e9 e10 e11 e12 e13 : Option D) (S : SS), (∀ x ∈ xs, x ≤ t.length) → LW S0 S jar cr p3 t n → n + 40 * xs.length ≤ 880000 →
    (∀ S' e9 e10 e11 e12 e13, LW S0 S' jar cr p3 t (n + 40 * xs.length) → Z.nx (E14 sc jar p3 t e4 (some (.ref p5)) e6 (some (.str sg)) e8 e9 e10 e11 e12 e13) S') →
    forL (ugName 9) plB (fun S => S p5 = some (.lst all)) Z (xs.map fun x => .int (x : Nat)) (E14 sc jar p3 t e4 (some (.ref p5)) e6 (some (.str sg)) e8 e9 e10 e11 e12 e13) S
  | [], n, e9, e10, e11, e12, e13, S, hx, h, hn, k => ⟨h.kx p5 _ hp5 hS5, k S e9 e10 e11 e12 e13 h⟩
  | x :: xs, n, e9, e10, e11, e12, e13, S, hx, h, hn, k => by
    simp only [List.length_cons] at hn
    refine ⟨h.kx p5 _ hp5 hS5, ?_⟩
    have hz := szl (n := t.length) (by omega)
    have hxl := hx x (List.mem_cons_self ..)
    unfold plB
    simp only [dAdd, dAddI, dSub, dEq, dNe, dLt, dLe, dGt, dGe, dIs, SL.isNon, dNeg, fLen, lenD, isTy, mLstrip, seqOf, tru, tyOf, Option.map_some, String.reduceEq, usNil, usSeq, usSet, usExpr, usRet, usRetN, usIf, usBrk, usCnt, usAug, usAsg, usDPut, usRaise, usSub, uVar, uC, uBin, uChain, uUn, uTru, uTb, uAnd, uOr, uNot, uAndV, uOrV, uNotV, uIte, uNil, uCons, uTup, uLst, uNoPart, uPart, uSl, vSl, uFn, gP, uIsi, uBM, uBM0, gM, gAppend, gPop, uCall, uA0, uA1, gId, gApp, isSeq, isRng, isRng2, uDGet, bodyE, startE, ugName, List.map_cons, List.map_nil, List.length_cons, List.length_nil, List.cons_append, List.nil_append, List.getElem?_cons_zero, List.getElem?_cons_succ, List.set_cons_zero, List.set_cons_succ, List.replicate, Nat.add_one_sub_one, Nat.sub_self, Nat.reduceSub, Nat.reduceAdd, Option.some.injEq, exists_eq_left', exists_eq_left, exists_and_left, true_and, and_true, D.bl.injEq, D.int.injEq, D.str.injEq, D.tup.injEq, D.ref.injEq, Ob.lst.injEq, List.cons.injEq, fTup, if_true, if_false, ite_true, ite_false, Bool.false_eq_true, Bool.true_eq_false, reduceIte, E14, hz, cut_to (Int.natCast_nonneg x), Int.toNat_natCast, c_e, usFor]
    obtain ⟨d, ed, mk⟩ := judge_of ht hl (S := S) (i := x) (sg := []) hxl (by simp) h.hp
    refine ⟨d, ed, mk _ _ ⟨true, rfl, ?_⟩⟩
    refine ⟨by decide, by decide, ?_⟩
    refine tr_loop ht hl hxl h0 h60 3 0 n e11 e12 e13 S h (by omega) fun S' e11 e12 e13 g => ?_
    exact pl_loop h0 h60 hp5 hS5 xs (n + 40) _ _ _ _ _ S' (fun y hy => hx y (List.mem_cons_of_mem _ hy)) ⟨g.kx, g.jr.mono (by omega), g.st, g.ne⟩ (by omega) fun S4 e9 e10 e11 e12 e13 g3 => k S4 e9 e10 e11 e12 e13 (by simp only [List.length_cons]; rw [show n + 40 * (xs.length + 1) = n + 40 + 40 * xs.length by omega]; exact g3)
end
end K00

set_option Elab.async false
set_option linter.all false
set_option maxRecDepth 100000
set_option maxHeartbeats 4000000
namespace K00
open PySem PySem.Spec L2 SL
variable {K : PySem.W.Frag} {c : Cs}
theorem sts_last {t : List Nat} {k : Nat} : (sts t k).getLast? = some (eO (rn s0 (t.take k))) := by
  unfold sts; rw [List.range_succ, List.map_append, List.getLast?_append]; simp
def stB : US := usExpr (uBM "list" gAppend (uVar 3) (uCons (uCall sp__law_step gId (uA1 2 (uCons (uBin dIx (uVar 3) (uUn dNeg (uC (.int 1)))) (uCons (uVar 4) uNil)))) uNil))
theorem st_loop {S0 : SS} {sc : D} {jar p3 : Addr} {t : List Nat} {st0 : Stt} (ht : rn s0 t = some st0) (hl : t.length ≤ 5000) {Z : EndsS} {e5 e6 e7 e8 e9 e10 e11 e12 e13 : Option D} :
    ∀ (r : List Nat) (k : Nat) (e4 : Option D) (S : SS), k ≤ t.length → t.drop k = r → S p3 = some (.lst (sts t k)) → (∀ b, b ≠ p3 → S b = S0 b) →
      (∀ S' e4, S' p3 = some (.lst (sts t t.length)) → (∀ b, b ≠ p3 → S' b = S0 b) → Z.nx (E14 sc jar p3 t e4 e5 e6 e7 e8 e9 e10 e11 e12 e13) S') →
      forL (ugName 4) stB (fun _ => True) Z (chs r) (E14 sc jar p3 t e4 e5 e6 e7 e8 e9 e10 e11 e12 e13) S
  | [], k, e4, S, hkl, hr, hp, hb, kk => by
    refine ⟨trivial, kk S e4 ?_ hb⟩
    have hk : t.length ≤ k := List.drop_eq_nil_iff.mp hr
    have h : k = t.length := by omega
    rw [← h]; exact hp
  | a :: r, k, e4, S, hkl, hr, hp, hb, kk => by
    have hk : k < t.length := by
      rcases Nat.lt_or_ge k t.length with h | h
      · exact h
      · rw [List.drop_of_length_le h] at hr; cases hr
    rw [List.drop_eq_getElem_cons hk] at hr
    injection hr with h1 h2
    obtain ⟨s, hs⟩ := pre_some ht k
    obtain ⟨s', hs'⟩ := pre_some ht (k + 1)
    have e1 : t.take (k + 1) = t.take k ++ [a] := by rw [List.take_succ, List.getElem?_eq_getElem hk, h1]; rfl
    have e2 : stp s a = rn s0 (t.take (k + 1)) := by
      rw [e1, rn_app, hs]
      show stp s a = (stp s a).bind _
      cases stp s a <;> rfl
    refine ⟨trivial, ?_⟩
    unfold stB
    simp only [dAdd, dAddI, dSub, dEq, dNe, dLt, dLe, dGt, dGe, dIs, SL.isNon, dNeg, fLen, lenD, isTy, mLstrip, seqOf, tru, tyOf, Option.map_some, String.reduceEq, usNil, usSeq, usSet, usExpr, usRet, usRetN, usIf, usBrk, usCnt, usAug, usAsg, usDPut, usRaise, usSub, uVar, uC, uBin, uChain, uUn, uTru, uTb, uAnd, uOr, uNot, uAndV, uOrV, uNotV, uIte, uNil, uCons, uTup, uLst, uNoPart, uPart, uSl, vSl, uFn, gP, uIsi, uBM, uBM0, gM, gAppend, gPop, uCall, uA0, uA1, gId, gApp, isSeq, isRng, isRng2, uDGet, bodyE, startE, ugName, List.map_cons, List.map_nil, List.length_cons, List.length_nil, List.cons_append, List.nil_append, List.getElem?_cons_zero, List.getElem?_cons_succ, List.set_cons_zero, List.set_cons_succ, List.replicate, Nat.add_one_sub_one, Nat.sub_self, Nat.reduceSub, Nat.reduceAdd, Option.some.injEq, exists_eq_left', exists_eq_left, exists_and_left, true_and, and_true, D.bl.injEq, D.int.injEq, D.str.injEq, D.tup.injEq, D.ref.injEq, Ob.lst.injEq, List.cons.injEq, fTup, if_true, if_false, ite_true, ite_false, Bool.false_eq_true, Bool.true_eq_false, reduceIte, E14, hp, dIx, SL.atI_last, sts_last, hs, eO]
    refine ⟨s, a, rfl, ?_⟩
    rw [e2]
    simp only [dAdd, dAddI, dSub, dEq, dNe, dLt, dLe, dGt, dGe, dIs, SL.isNon, dNeg, fLen, lenD, isTy, mLstrip, seqOf, tru, tyOf, Option.map_some, String.reduceEq, usNil, usSeq, usSet, usExpr, usRet, usRetN, usIf, usBrk, usCnt, usAug, usAsg, usDPut, usRaise, usSub, uVar, uC, uBin, uChain, uUn, uTru, uTb, uAnd, uOr, uNot, uAndV, uOrV, uNotV, uIte, uNil, uCons, uTup, uLst, uNoPart, uPart, uSl, vSl, uFn, gP, uIsi, uBM, uBM0, gM, gAppend, gPop, uCall, uA0, uA1, gId, gApp, isSeq, isRng, isRng2, uDGet, bodyE, startE, ugName, List.map_cons, List.map_nil, List.length_cons, List.length_nil, List.cons_append, List.nil_append, List.getElem?_cons_zero, List.getElem?_cons_succ, List.set_cons_zero, List.set_cons_succ, List.replicate, Nat.add_one_sub_one, Nat.sub_self, Nat.reduceSub, Nat.reduceAdd, Option.some.injEq, exists_eq_left', exists_eq_left, exists_and_left, true_and, and_true, D.bl.injEq, D.int.injEq, D.str.injEq, D.tup.injEq, D.ref.injEq, Ob.lst.injEq, List.cons.injEq, fTup, if_true, if_false, ite_true, ite_false, Bool.false_eq_true, Bool.true_eq_false, reduceIte, hp]
    refine ⟨by rw [sts_len, sizeLine_eq]; omega, ?_⟩
    rw [← sts_succ]
    exact st_loop (S0 := S0) ht hl r (k + 1) _ _ hk h2 sup_same (fun b hb' => (sup_ne hb').trans (hb b hb')) kk
def pcB : US := usExpr (uBM "list" gAppend (uVar 5) (uCons (uCall sp__law_draw gId (uA1 2 (uCons (uVar 1) (uCons (uBin dAdd (uFn (gP fLen) (uCons (uVar 2) uNil)) (uC (.int 1))) uNil)))) uNil))
theorem pc_loop {sc : D} {jar cr p3 p5 : Addr} {t : List Nat} (hl : t.length ≤ 5000) (h5 : p5 ≠ jar ∧ p5 ≠ cr) (h53 : p5 ≠ p3) (h3 : p3 ≠ jar) {Z : EndsS} {e4 e7 e8 e9 e10 e11 e12 e13 : Option D} :
    ∀ (j : Nat) (lo : Int) (n : Nat) (pl : List Nat) (e6 : Option D) (S : SS), n + j ≤ 900000 → pl.length + j ≤ 100 → (∀ x ∈ pl, x ≤ t.length) → S p5 = some (.lst (pl.map fun x => .int (x : Nat))) → JarS S jar cr n → S p3 = some (.lst (sts t t.length)) →
      (∀ (S' : SS) (pl : List Nat) (e6 : Option D), (∀ x ∈ pl, x ≤ t.length) → pl.length ≤ 100 → S' p5 = some (.lst (pl.map fun x => .int (x : Nat))) → JarS S' jar cr (n + j) → S' p3 = some (.lst (sts t t.length)) → Z.nx (E14 sc jar p3 t e4 (some (.ref p5)) e6 e7 e8 e9 e10 e11 e12 e13) S') →
      forL (ugName 6) pcB (fun _ => True) Z (irng lo j) (E14 sc jar p3 t e4 (some (.ref p5)) e6 e7 e8 e9 e10 e11 e12 e13) S
  | 0, lo, n, pl, e6, S, hn, hpl, hp, h5', hj, h3', k => ⟨trivial, k S pl e6 hp (by omega) h5' hj h3'⟩
  | j + 1, lo, n, pl, e6, S, hn, hpl, hp, h5', hj, h3', k => by
    rw [irng_succ]
    refine ⟨trivial, ?_⟩
    have hz := szl (n := t.length) (by omega)
    unfold pcB
    simp only [dAdd, dAddI, dSub, dEq, dNe, dLt, dLe, dGt, dGe, dIs, SL.isNon, dNeg, fLen, lenD, isTy, mLstrip, seqOf, tru, tyOf, Option.map_some, String.reduceEq, usNil, usSeq, usSet, usExpr, usRet, usRetN, usIf, usBrk, usCnt, usAug, usAsg, usDPut, usRaise, usSub, uVar, uC, uBin, uChain, uUn, uTru, uTb, uAnd, uOr, uNot, uAndV, uOrV, uNotV, uIte, uNil, uCons, uTup, uLst, uNoPart, uPart, uSl, vSl, uFn, gP, uIsi, uBM, uBM0, gM, gAppend, gPop, uCall, uA0, uA1, gId, gApp, isSeq, isRng, isRng2, uDGet, bodyE, startE, ugName, List.map_cons, List.map_nil, List.length_cons, List.length_nil, List.cons_append, List.nil_append, List.getElem?_cons_zero, List.getElem?_cons_succ, List.set_cons_zero, List.set_cons_succ, List.replicate, Nat.add_one_sub_one, Nat.sub_self, Nat.reduceSub, Nat.reduceAdd, Option.some.injEq, exists_eq_left', exists_eq_left, exists_and_left, true_and, and_true, D.bl.injEq, D.int.injEq, D.str.injEq, D.tup.injEq, D.ref.injEq, Ob.lst.injEq, List.cons.injEq, fTup, if_true, if_false, ite_true, ite_false, Bool.false_eq_true, Bool.true_eq_false, reduceIte, E14, hz, h5']
    refine draw_of (S0 := S) hj (by omega) (by omega) (by omega) .refl fun r S' r0 r1 hj' kx' hb => ?_
    obtain ⟨x, rfl⟩ : ∃ x : Nat, r = x := ⟨r.toNat, by omega⟩
    have h5s : S' p5 = some (.lst (pl.map fun x => .int (x : Nat))) := by rw [hb p5 h5.1]; exact h5'
    simp only [dAdd, dAddI, dSub, dEq, dNe, dLt, dLe, dGt, dGe, dIs, SL.isNon, dNeg, fLen, lenD, isTy, mLstrip, seqOf, tru, tyOf, Option.map_some, String.reduceEq, usNil, usSeq, usSet, usExpr, usRet, usRetN, usIf, usBrk, usCnt, usAug, usAsg, usDPut, usRaise, usSub, uVar, uC, uBin, uChain, uUn, uTru, uTb, uAnd, uOr, uNot, uAndV, uOrV, uNotV, uIte, uNil, uCons, uTup, uLst, uNoPart, uPart, uSl, vSl, uFn, gP, uIsi, uBM, uBM0, gM, gAppend, gPop, uCall, uA0, uA1, gId, gApp, isSeq, isRng, isRng2, uDGet, bodyE, startE, ugName, List.map_cons, List.map_nil, List.length_cons, List.length_nil, List.cons_append, List.nil_append, List.getElem?_cons_zero, List.getElem?_cons_succ, List.set_cons_zero, List.set_cons_succ, List.replicate, Nat.add_one_sub_one, Nat.sub_self, Nat.reduceSub, Nat.reduceAdd, Option.some.injEq, exists_eq_left', exists_eq_left, exists_and_left, true_and, and_true, D.bl.injEq, D.int.injEq, D.str.injEq, D.tup.injEq, D.ref.injEq, Ob.lst.injEq, List.cons.injEq, fTup, if_true, if_false, ite_true, ite_false, Bool.false_eq_true, Bool.true_eq_false, reduceIte, h5s]
    refine ⟨by rw [List.length_map, sizeLine_eq]; omega, ?_⟩
    refine pc_loop hl h5 h53 h3 j (lo + 1) (n + 1) (pl ++ [x]) _ _ (by omega) (by rw [List.length_append]; simp; omega) (fun y hy => by
      rcases List.mem_append.mp hy with z | z
      · exact hp y z
      · simp at z; omega) (by rw [sup_same]; simp) (hj'.at_ h5.1 h5.2) (by rw [sup_ne h53.symm, hb p3 h3]; exact h3') fun S2 pl e6 a1 a2 a3 a4 a5 => k S2 pl e6 a1 a2 a3 (by rw [show n + (j + 1) = n + 1 + j by omega]; exact a4) a5
def lmC : UT := uOr (uTb (uBin dEq (uBin dIx (uBin dIx (uVar 3) (uVar 6)) (uC (.int 1))) (uC (.int 12)))) (uTb (uBin dEq (uBin dIx (uBin dIx (uVar 3) (uVar 6)) (uC (.int 2))) (uC (.int 20))))
theorem lm_lc {sc : D} {jar p3 p8 : Addr} {t : List Nat} {st0 : Stt} (ht : rn s0 t = some st0) (hl : t.length ≤ 5000) (h83 : p8 ≠ p3) {env : En} {Q : SS → Prop} {e4 e5 e7 e8 e9 e10 e11 e12 e13 : Option D} (hw : wipeE env [6] = E14 sc jar p3 t e4 e5 none e7 e8 e9 e10 e11 e12 e13) :
    ∀ (j lo : Nat) (acc : List Nat) (S : SS), lo + j ≤ t.length + 1 → acc.length ≤ lo → (∀ x ∈ acc, x ≤ t.length) → S p8 = some (.lst (acc.map fun x => .int (x : Nat))) → S p3 = some (.lst (sts t t.length)) →
      (∀ (S' : SS) (acc : List Nat), (∀ b, b ≠ p8 → S' b = S b) → (∀ x ∈ acc, x ≤ t.length) → acc.length ≤ 6000 → S' p8 = some (.lst (acc.map fun x => .int (x : Nat))) → Q S') →
      lcL (ugName 6) lmC (uVar 6) (fun _ => True) [6] p8 env Q (irng (lo : Nat) j) S
  | 0, lo, acc, S, hlo, hal, ha, h8, h3, k => ⟨trivial, k S acc (fun _ _ => rfl) ha (by omega) h8⟩
  | j + 1, lo, acc, S, hlo, hal, ha, h8, h3, k => by
    rw [irng_succ]
    refine ⟨trivial, ?_⟩
    rw [hw]
    obtain ⟨s, hs⟩ := pre_some ht lo
    obtain ⟨md, ct, dp⟩ := s
    have i1 : L2.atI [D.str (mdS md), .int (ct : Nat), .int (dp : Nat)] 1 = some (.int (ct : Nat)) := rfl
    have i2 : L2.atI [D.str (mdS md), .int (ct : Nat), .int (dp : Nat)] 2 = some (.int (dp : Nat)) := rfl
    have hc : ((lo : Nat) : Int) + 1 = ((lo + 1 : Nat) : Int) := by omega
    have next : ∀ (acc : List Nat) (S1 : SS), (∀ b, b ≠ p8 → S1 b = S b) → acc.length ≤ lo + 1 → (∀ x ∈ acc, x ≤ t.length) → S1 p8 = some (.lst (acc.map fun x => .int (x : Nat))) → lcL (ugName 6) lmC (uVar 6) (fun _ => True) [6] p8 env Q (irng ((lo + 1 : Nat) : Int) j) S1 := fun acc S1 hb1 h1 h2 h4 =>
      lm_lc ht hl h83 hw j (lo + 1) acc S1 (by omega) h1 h2 h4 (by rw [hb1 p3 h83.symm]; exact h3) fun S2 acc a1 a2 a3 a4 => k S2 acc (fun b hb => (a1 b hb).trans (hb1 b hb)) a2 a3 a4
    have yes : ∃ acc' : List D, S p8 = some (.lst acc') ∧ acc'.length < sizeLine ∧ lcL (ugName 6) lmC (uVar 6) (fun _ => True) [6] p8 env Q (irng ((lo : Nat) + 1) j) (SL.sup S p8 (.lst (acc' ++ [.int (lo : Nat)]))) := by
      refine ⟨_, h8, by rw [List.length_map, sizeLine_eq]; omega, ?_⟩
      rw [hc]
      exact next (acc ++ [lo]) _ (fun b hb => sup_ne hb) (by rw [List.length_append]; simp; omega) (fun x hx => by
        rcases List.mem_append.mp hx with z | z
        · exact ha x z
        · simp at z; omega) (by rw [sup_same]; simp)
    have no : lcL (ugName 6) lmC (uVar 6) (fun _ => True) [6] p8 env Q (irng ((lo : Nat) + 1) j) S := by
      rw [hc]; exact next acc S (fun _ _ => rfl) (by omega) ha h8
    show lmC _ _ _ _
    unfold lmC
    simp only [dAdd, dAddI, dSub, dEq, dNe, dLt, dLe, dGt, dGe, dIs, SL.isNon, dNeg, fLen, lenD, isTy, mLstrip, seqOf, tru, tyOf, Option.map_some, String.reduceEq, usNil, usSeq, usSet, usExpr, usRet, usRetN, usIf, usBrk, usCnt, usAug, usAsg, usDPut, usRaise, usSub, uVar, uC, uBin, uChain, uUn, uTru, uTb, uAnd, uOr, uNot, uAndV, uOrV, uNotV, uIte, uNil, uCons, uTup, uLst, uNoPart, uPart, uSl, vSl, uFn, gP, uIsi, uBM, uBM0, gM, gAppend, gPop, uCall, uA0, uA1, gId, gApp, isSeq, isRng, isRng2, uDGet, bodyE, startE, ugName, List.map_cons, List.map_nil, List.length_cons, List.length_nil, List.cons_append, List.nil_append, List.getElem?_cons_zero, List.getElem?_cons_succ, List.set_cons_zero, List.set_cons_succ, List.replicate, Nat.add_one_sub_one, Nat.sub_self, Nat.reduceSub, Nat.reduceAdd, Option.some.injEq, exists_eq_left', exists_eq_left, exists_and_left, true_and, and_true, D.bl.injEq, D.int.injEq, D.str.injEq, D.tup.injEq, D.ref.injEq, Ob.lst.injEq, List.cons.injEq, fTup, if_true, if_false, ite_true, ite_false, Bool.false_eq_true, Bool.true_eq_false, reduceIte, E14, dIx, h3, SL.atI_nat, sts_get (show lo ≤ t.length by omega), hs, eO, eS, i1, i2]
    split
    · exact yes
    · split
      · exact yes
      · exact no
def lwZ : US := usSeq (usFor (isSeq (uVar 5)) (ugName 9) plB)
  (usSeq (usSet 9 (uCall sp__law_draw gId (uA1 2 (uCons (uVar 1) (uCons (uBin dAdd (uFn (gP fMin) (uCons (uFn (gP fLen) (uCons (uVar 2) uNil)) (uCons (uC (.int 30)) uNil))) (uC (.int 1))) uNil)))))
  (usSeq (usFor (isSeq (uVar 7)) (ugName 4) jdB) (usRet (uC (.bl true)))))
def lwY : US := usIf (uTru (uVar 8)) (usSeq (usSet 9 (uBin dIx (uVar 8) (uCall sp__law_draw gId (uA1 2 (uCons (uVar 1) (uCons (uFn (gP fLen) (uCons (uVar 8) uNil)) uNil)))))) (usFor (isSeq (uC (.str (cs "07ab(),-")))) (ugName 4) jdB)) usNil
theorem law_eq : u_law K c sp__law_jar sp__law_text sp__law_step sp__law_draw sp__law_signs sp__law_judge = usSeq (usSet 1 (uCall sp__law_jar gId (uA1 1 (uCons (uVar 0) uNil))))
  (usSeq (usSet 2 (uCall sp__law_text gId (uA1 1 (uCons (uVar 1) uNil))))
  (usSeq (usSet 3 (uLst (uCons (uTup (uCons (uC (.str (cs "start"))) (uCons (uC (.int 0)) (uCons (uC (.int 0)) uNil)))) uNil)))
  (usSeq (usFor (isSeq (uVar 2)) (ugName 4) stB)
  (usSeq (usSet 5 (uLst (uCons (uC (.int 0)) (uCons (uFn (gP fLen) (uCons (uVar 2) uNil)) uNil))))
  (usSeq (usFor (isRng (uC (.int 4))) (ugName 6) pcB)
  (usSeq (usSet 7 (uCall sp__law_signs gId uA0))
  (usSeq (usSet 8 (uLc (isRng (uFn (gP fLen) (uCons (uVar 3) uNil))) (ugName 6) lmC (uVar 6) [6]))
  (usSeq lwY lwZ)))))))) := rfl
section
variable {S0 : SS} {sc : D} {jar cr p3 p5 p8 : Addr} {t : List Nat} {st0 : Stt} (ht : rn s0 t = some st0) (hl : t.length ≤ 5000)
include ht hl
theorem lwZ_of {S : SS} {n : Nat} {pl : List Nat} {sg : List Nat} {Q : QN} {X : QX} {e4 e6 e8 e9 e10 e11 e12 e13 : Option D} (h : LW S0 S jar cr p3 t n) (hn : n ≤ 800000) (h0 : 0 < sg.length) (h60 : sg.length ≤ 60) (hp5 : p5 ≠ jar) (hS5 : S0 p5 = some (.lst (pl.map fun x => .int (x : Nat)))) (hpl : ∀ x ∈ pl, x ≤ t.length) (hpl2 : pl.length ≤ 100)
    (q : ∀ S', Q (.bl true) S') : lwZ (bodyE Q X) (E14 sc jar p3 t e4 (some (.ref p5)) e6 (some (.str sg)) e8 e9 e10 e11 e12 e13) S := by
  have hz := szl (n := t.length) (by omega)
  unfold lwZ
  simp only [dAdd, dAddI, dSub, dEq, dNe, dLt, dLe, dGt, dGe, dIs, SL.isNon, dNeg, fLen, lenD, isTy, mLstrip, seqOf, tru, tyOf, Option.map_some, String.reduceEq, usNil, usSeq, usSet, usExpr, usRet, usRetN, usIf, usBrk, usCnt, usAug, usAsg, usDPut, usRaise, usSub, uVar, uC, uBin, uChain, uUn, uTru, uTb, uAnd, uOr, uNot, uAndV, uOrV, uNotV, uIte, uNil, uCons, uTup, uLst, uNoPart, uPart, uSl, vSl, uFn, gP, uIsi, uBM, uBM0, gM, gAppend, gPop, uCall, uA0, uA1, gId, gApp, isSeq, isRng, isRng2, uDGet, bodyE, startE, ugName, List.map_cons, List.map_nil, List.length_cons, List.length_nil, List.cons_append, List.nil_append, List.getElem?_cons_zero, List.getElem?_cons_succ, List.set_cons_zero, List.set_cons_succ, List.replicate, Nat.add_one_sub_one, Nat.sub_self, Nat.reduceSub, Nat.reduceAdd, Option.some.injEq, exists_eq_left', exists_eq_left, exists_and_left, true_and, and_true, D.bl.injEq, D.int.injEq, D.str.injEq, D.tup.injEq, D.ref.injEq, Ob.lst.injEq, List.cons.injEq, fTup, if_true, if_false, ite_true, ite_false, Bool.false_eq_true, Bool.true_eq_false, reduceIte, E14, usFor, vSeq, h.kx p5 _ hp5 hS5]
  refine pl_loop ht hl h0 h60 hp5 hS5 pl n e9 e10 e11 e12 e13 S hpl h (by omega) fun S' e9 e10 e11 e12 e13 g => ?_
  simp only [dAdd, dAddI, dSub, dEq, dNe, dLt, dLe, dGt, dGe, dIs, SL.isNon, dNeg, fLen, lenD, isTy, mLstrip, seqOf, tru, tyOf, Option.map_some, String.reduceEq, usNil, usSeq, usSet, usExpr, usRet, usRetN, usIf, usBrk, usCnt, usAug, usAsg, usDPut, usRaise, usSub, uVar, uC, uBin, uChain, uUn, uTru, uTb, uAnd, uOr, uNot, uAndV, uOrV, uNotV, uIte, uNil, uCons, uTup, uLst, uNoPart, uPart, uSl, vSl, uFn, gP, uIsi, uBM, uBM0, gM, gAppend, gPop, uCall, uA0, uA1, gId, gApp, isSeq, isRng, isRng2, uDGet, bodyE, startE, ugName, List.map_cons, List.map_nil, List.length_cons, List.length_nil, List.cons_append, List.nil_append, List.getElem?_cons_zero, List.getElem?_cons_succ, List.set_cons_zero, List.set_cons_succ, List.replicate, Nat.add_one_sub_one, Nat.sub_self, Nat.reduceSub, Nat.reduceAdd, Option.some.injEq, exists_eq_left', exists_eq_left, exists_and_left, true_and, and_true, D.bl.injEq, D.int.injEq, D.str.injEq, D.tup.injEq, D.ref.injEq, Ob.lst.injEq, List.cons.injEq, fTup, if_true, if_false, ite_true, ite_false, Bool.false_eq_true, Bool.true_eq_false, reduceIte, E14, hz, fMin, vSeq]
  refine draw_of g.jr (by split <;> omega) (by split <;> omega) (by omega) g.kx fun r S2 r0 r1 hj2 kx2 _ => ?_
  obtain ⟨x, rfl⟩ : ∃ x : Nat, r = x := ⟨r.toNat, by omega⟩
  have hx : x ≤ t.length := by split at r1 <;> omega
  simp only [dAdd, dAddI, dSub, dEq, dNe, dLt, dLe, dGt, dGe, dIs, SL.isNon, dNeg, fLen, lenD, isTy, mLstrip, seqOf, tru, tyOf, Option.map_some, String.reduceEq, usNil, usSeq, usSet, usExpr, usRet, usRetN, usIf, usBrk, usCnt, usAug, usAsg, usDPut, usRaise, usSub, uVar, uC, uBin, uChain, uUn, uTru, uTb, uAnd, uOr, uNot, uAndV, uOrV, uNotV, uIte, uNil, uCons, uTup, uLst, uNoPart, uPart, uSl, vSl, uFn, gP, uIsi, uBM, uBM0, gM, gAppend, gPop, uCall, uA0, uA1, gId, gApp, isSeq, isRng, isRng2, uDGet, bodyE, startE, ugName, List.map_cons, List.map_nil, List.length_cons, List.length_nil, List.cons_append, List.nil_append, List.getElem?_cons_zero, List.getElem?_cons_succ, List.set_cons_zero, List.set_cons_succ, List.replicate, Nat.add_one_sub_one, Nat.sub_self, Nat.reduceSub, Nat.reduceAdd, Option.some.injEq, exists_eq_left', exists_eq_left, exists_and_left, true_and, and_true, D.bl.injEq, D.int.injEq, D.str.injEq, D.tup.injEq, D.ref.injEq, Ob.lst.injEq, List.cons.injEq, fTup, if_true, if_false, ite_true, ite_false, Bool.false_eq_true, Bool.true_eq_false, reduceIte, usFor, vSeq]
  exact jud_all ht hl (Z := { bodyE Q X with nx := fun _ S => ∃ S', Le S' S ∧ Q (.bl true) S' }) hx (LW.hp ⟨kx2, hj2, g.st, g.ne⟩) sg e4 fun e4 => ⟨S2, Le.refl _, q S2⟩
theorem lwY_of {S : SS} {n : Nat} {acc : List Nat} {sg : List Nat} {Z : EndsS} {e4 e5 e6 e9 e10 e11 e12 e13 : Option D} (h : LW S0 S jar cr p3 t n) (hn : n ≤ 800000) (hp8 : p8 ≠ jar) (hS8 : S0 p8 = some (.lst (acc.map fun x => .int (x : Nat)))) (ha : ∀ x ∈ acc, x ≤ t.length) (hal : acc.length ≤ 6000)
    (k : ∀ S' e4 e9, LW S0 S' jar cr p3 t (n + 1) → Z.nx (E14 sc jar p3 t e4 e5 e6 (some (.str sg)) (some (.ref p8)) e9 e10 e11 e12 e13) S') : lwY Z (E14 sc jar p3 t e4 e5 e6 (some (.str sg)) (some (.ref p8)) e9 e10 e11 e12 e13) S := by
  have h8 := h.kx p8 _ hp8 hS8
  unfold lwY
  simp only [dAdd, dAddI, dSub, dEq, dNe, dLt, dLe, dGt, dGe, dIs, SL.isNon, dNeg, fLen, lenD, isTy, mLstrip, seqOf, tru, tyOf, Option.map_some, String.reduceEq, usNil, usSeq, usSet, usExpr, usRet, usRetN, usIf, usBrk, usCnt, usAug, usAsg, usDPut, usRaise, usSub, uVar, uC, uBin, uChain, uUn, uTru, uTb, uAnd, uOr, uNot, uAndV, uOrV, uNotV, uIte, uNil, uCons, uTup, uLst, uNoPart, uPart, uSl, vSl, uFn, gP, uIsi, uBM, uBM0, gM, gAppend, gPop, uCall, uA0, uA1, gId, gApp, isSeq, isRng, isRng2, uDGet, bodyE, startE, ugName, List.map_cons, List.map_nil, List.length_cons, List.length_nil, List.cons_append, List.nil_append, List.getElem?_cons_zero, List.getElem?_cons_succ, List.set_cons_zero, List.set_cons_succ, List.replicate, Nat.add_one_sub_one, Nat.sub_self, Nat.reduceSub, Nat.reduceAdd, Option.some.injEq, exists_eq_left', exists_eq_left, exists_and_left, true_and, and_true, D.bl.injEq, D.int.injEq, D.str.injEq, D.tup.injEq, D.ref.injEq, Ob.lst.injEq, List.cons.injEq, fTup, if_true, if_false, ite_true, ite_false, Bool.false_eq_true, Bool.true_eq_false, reduceIte, E14, h8]
  by_cases hem : acc = []
  · subst hem
    exact k S _ _ ⟨h.kx, h.jr.mono (by omega), h.st, h.ne⟩
  · have hlen : 0 < acc.length := List.length_pos_iff.mpr hem
    have e1 : (!(acc.map fun x => D.int (x : Nat)).isEmpty) = true := by cases acc with
      | nil => exact absurd rfl hem
      | cons a r => rfl
    rw [if_pos e1]
    refine draw_of h.jr (by simp; omega) (by simp; omega) (by omega) h.kx fun r S2 r0 r1 hj2 kx2 hb => ?_
    obtain ⟨d, ed, hd⟩ := ix_pickL (S := S2) (kx2 p8 _ hp8 hS8) r0 (by simpa using r1)
    obtain ⟨x, hx, rfl⟩ := List.mem_map.mp hd
    simp only [dAdd, dAddI, dSub, dEq, dNe, dLt, dLe, dGt, dGe, dIs, SL.isNon, dNeg, fLen, lenD, isTy, mLstrip, seqOf, tru, tyOf, Option.map_some, String.reduceEq, usNil, usSeq, usSet, usExpr, usRet, usRetN, usIf, usBrk, usCnt, usAug, usAsg, usDPut, usRaise, usSub, uVar, uC, uBin, uChain, uUn, uTru, uTb, uAnd, uOr, uNot, uAndV, uOrV, uNotV, uIte, uNil, uCons, uTup, uLst, uNoPart, uPart, uSl, vSl, uFn, gP, uIsi, uBM, uBM0, gM, gAppend, gPop, uCall, uA0, uA1, gId, gApp, isSeq, isRng, isRng2, uDGet, bodyE, startE, ugName, List.map_cons, List.map_nil, List.length_cons, List.length_nil, List.cons_append, List.nil_append, List.getElem?_cons_zero, List.getElem?_cons_succ, List.set_cons_zero, List.set_cons_succ, List.replicate, Nat.add_one_sub_one, Nat.sub_self, Nat.reduceSub, Nat.reduceAdd, Option.some.injEq, exists_eq_left', exists_eq_left, exists_and_left, true_and, and_true, D.bl.injEq, D.int.injEq, D.str.injEq, D.tup.injEq, D.ref.injEq, Ob.lst.injEq, List.cons.injEq, fTup, if_true, if_false, ite_true, ite_false, Bool.false_eq_true, Bool.true_eq_false, reduceIte, ed, usFor, vSeq]
    exact jud_all ht hl (ha x hx) (LW.hp ⟨kx2, hj2, h.st, h.ne⟩) (cs "07ab(),-") e4 fun e4 => k S2 e4 _ ⟨kx2, hj2, h.st, h.ne⟩
end
def sp_law : FS := fun ds S Q X => ∃ sc, ∃ ns : List Int, ds = [sc] ∧ Scr S sc ns ∧ ∀ S', Q (.bl true) S'
theorem ok_law {ds : List D} {S : SS} {Q : QN} {X : QX} (h : sp_law ds S Q X) : u_law K c sp__law_jar sp__law_text sp__law_step sp__law_draw sp__law_signs sp__law_judge (bodyE Q X) (startE N_law ds) S := by
  obtain ⟨sc, ns, rfl, hs, q⟩ := h
  rw [law_eq]
  simp only [usSeq, usSet, uCall, uA0, uA1, uCons, uNil, uVar, gId, startE, List.map_cons, List.map_nil, List.length_cons, List.length_nil, List.cons_append, List.nil_append, List.getElem?_cons_zero, List.getElem?_cons_succ, List.set_cons_zero, List.set_cons_succ, List.replicate, Option.some.injEq, exists_eq_left', Nat.reduceSub, Nat.reduceAdd, true_and]
  refine ⟨sc, ns, rfl, hs, fun jar cr S1 le hj => ?_⟩
  refine ⟨jar, cr, 0, rfl, by omega, hj, fun t st0 S2 hl ht hj2 kx2 => ?_⟩
  have hz := szl (n := t.length) (by omega)
  simp only [uLst, uTup, uC, uCons, uNil, uFn, gP, fLen, lenD, hz, if_true, Option.map_some, List.length_cons, List.length_nil, Nat.reduceAdd, Option.some.injEq, exists_eq_left', List.set_cons_zero, List.set_cons_succ, uVar, List.getElem?_cons_zero, List.getElem?_cons_succ]
  refine ⟨z3, by rw [sizeLine_eq]; decide, fun p3 hp3 => ?_⟩
  have h3 := hj2.fr hp3
  have hj3 := hj2.new (o := .lst [eS s0]) hp3
  simp only [usFor, isSeq, uVar, List.getElem?_cons_zero, List.getElem?_cons_succ, Option.some.injEq, exists_eq_left', vSeq]
  refine st_loop (S0 := SL.sup S2 p3 (.lst [eS s0])) ht hl t 0 none _ (Nat.zero_le _) rfl (by show SL.sup S2 p3 _ p3 = _; rw [sup_same]; rfl) (fun _ _ => rfl) fun S4 e4 hp4 hb4 => ?_
  have hj4 : JarS S4 jar cr 5000 := by
    obtain ⟨g1, ⟨kvs, g2, hk⟩, xs, g3, g4⟩ := hj3
    exact ⟨g1, ⟨kvs, by rw [hb4 jar h3.1.symm]; exact g2, hk⟩, xs, by rw [hb4 cr h3.2.symm]; exact g3, g4⟩
  simp only [dAdd, dAddI, dSub, dEq, dNe, dLt, dLe, dGt, dGe, dIs, SL.isNon, dNeg, fLen, lenD, isTy, mLstrip, seqOf, tru, tyOf, Option.map_some, String.reduceEq, usNil, usSeq, usSet, usExpr, usRet, usRetN, usIf, usBrk, usCnt, usAug, usAsg, usDPut, usRaise, usSub, uVar, uC, uBin, uChain, uUn, uTru, uTb, uAnd, uOr, uNot, uAndV, uOrV, uNotV, uIte, uNil, uCons, uTup, uLst, uNoPart, uPart, uSl, vSl, uFn, gP, uIsi, uBM, uBM0, gM, gAppend, gPop, uCall, uA0, uA1, gId, gApp, isSeq, isRng, isRng2, uDGet, bodyE, startE, ugName, List.map_cons, List.map_nil, List.length_cons, List.length_nil, List.cons_append, List.nil_append, List.getElem?_cons_zero, List.getElem?_cons_succ, List.set_cons_zero, List.set_cons_succ, List.replicate, Nat.add_one_sub_one, Nat.sub_self, Nat.reduceSub, Nat.reduceAdd, Option.some.injEq, exists_eq_left', exists_eq_left, exists_and_left, true_and, and_true, D.bl.injEq, D.int.injEq, D.str.injEq, D.tup.injEq, D.ref.injEq, Ob.lst.injEq, List.cons.injEq, fTup, if_true, if_false, ite_true, ite_false, Bool.false_eq_true, Bool.true_eq_false, reduceIte, E14, hz]
  refine ⟨by rw [sizeLine_eq]; decide, fun p5 hp5 => ?_⟩
  have h5 := hj4.fr hp5
  have h53 : p5 ≠ p3 := fun z => by rw [z, hp4] at hp5; cases hp5
  have hj5 := hj4.new (o := .lst [.int 0, .int (t.length : Nat)]) hp5
  simp only [dAdd, dAddI, dSub, dEq, dNe, dLt, dLe, dGt, dGe, dIs, SL.isNon, dNeg, fLen, lenD, isTy, mLstrip, seqOf, tru, tyOf, Option.map_some, String.reduceEq, usNil, usSeq, usSet, usExpr, usRet, usRetN, usIf, usBrk, usCnt, usAug, usAsg, usDPut, usRaise, usSub, uVar, uC, uBin, uChain, uUn, uTru, uTb, uAnd, uOr, uNot, uAndV, uOrV, uNotV, uIte, uNil, uCons, uTup, uLst, uNoPart, uPart, uSl, vSl, uFn, gP, uIsi, uBM, uBM0, gM, gAppend, gPop, uCall, uA0, uA1, gId, gApp, isSeq, isRng, isRng2, uDGet, bodyE, startE, ugName, List.map_cons, List.map_nil, List.length_cons, List.length_nil, List.cons_append, List.nil_append, List.getElem?_cons_zero, List.getElem?_cons_succ, List.set_cons_zero, List.set_cons_succ, List.replicate, Nat.add_one_sub_one, Nat.sub_self, Nat.reduceSub, Nat.reduceAdd, Option.some.injEq, exists_eq_left', exists_eq_left, exists_and_left, true_and, and_true, D.bl.injEq, D.int.injEq, D.str.injEq, D.tup.injEq, D.ref.injEq, Ob.lst.injEq, List.cons.injEq, fTup, if_true, if_false, ite_true, ite_false, Bool.false_eq_true, Bool.true_eq_false, reduceIte, usFor]
  refine ⟨by decide, by decide, ?_⟩
  refine pc_loop hl h5 h53 h3.1 4 0 5000 [0, t.length] none _ (by decide) (by simp) (fun x hx => by simp at hx; omega) (by rw [sup_same]; rfl) hj5 (by rw [sup_ne h53.symm]; exact hp4) fun S6 pl e6 hpl hpl2 h6 hj6 h63 => ?_
  simp only [dAdd, dAddI, dSub, dEq, dNe, dLt, dLe, dGt, dGe, dIs, SL.isNon, dNeg, fLen, lenD, isTy, mLstrip, seqOf, tru, tyOf, Option.map_some, String.reduceEq, usNil, usSeq, usSet, usExpr, usRet, usRetN, usIf, usBrk, usCnt, usAug, usAsg, usDPut, usRaise, usSub, uVar, uC, uBin, uChain, uUn, uTru, uTb, uAnd, uOr, uNot, uAndV, uOrV, uNotV, uIte, uNil, uCons, uTup, uLst, uNoPart, uPart, uSl, vSl, uFn, gP, uIsi, uBM, uBM0, gM, gAppend, gPop, uCall, uA0, uA1, gId, gApp, isSeq, isRng, isRng2, uDGet, bodyE, startE, ugName, List.map_cons, List.map_nil, List.length_cons, List.length_nil, List.cons_append, List.nil_append, List.getElem?_cons_zero, List.getElem?_cons_succ, List.set_cons_zero, List.set_cons_succ, List.replicate, Nat.add_one_sub_one, Nat.sub_self, Nat.reduceSub, Nat.reduceAdd, Option.some.injEq, exists_eq_left', exists_eq_left, exists_and_left, true_and, and_true, D.bl.injEq, D.int.injEq, D.str.injEq, D.tup.injEq, D.ref.injEq, Ob.lst.injEq, List.cons.injEq, fTup, if_true, if_false, ite_true, ite_false, Bool.false_eq_true, Bool.true_eq_false, reduceIte, E14]
  refine ⟨rfl, fun sg h60 h0 => ?_⟩
  simp only [dAdd, dAddI, dSub, dEq, dNe, dLt, dLe, dGt, dGe, dIs, SL.isNon, dNeg, fLen, lenD, isTy, mLstrip, seqOf, tru, tyOf, Option.map_some, String.reduceEq, usNil, usSeq, usSet, usExpr, usRet, usRetN, usIf, usBrk, usCnt, usAug, usAsg, usDPut, usRaise, usSub, uVar, uC, uBin, uChain, uUn, uTru, uTb, uAnd, uOr, uNot, uAndV, uOrV, uNotV, uIte, uNil, uCons, uTup, uLst, uNoPart, uPart, uSl, vSl, uFn, gP, uIsi, uBM, uBM0, gM, gAppend, gPop, uCall, uA0, uA1, gId, gApp, isSeq, isRng, isRng2, uDGet, bodyE, startE, ugName, List.map_cons, List.map_nil, List.length_cons, List.length_nil, List.cons_append, List.nil_append, List.getElem?_cons_zero, List.getElem?_cons_succ, List.set_cons_zero, List.set_cons_succ, List.replicate, Nat.add_one_sub_one, Nat.sub_self, Nat.reduceSub, Nat.reduceAdd, Option.some.injEq, exists_eq_left', exists_eq_left, exists_and_left, true_and, and_true, D.bl.injEq, D.int.injEq, D.str.injEq, D.tup.injEq, D.ref.injEq, Ob.lst.injEq, List.cons.injEq, fTup, if_true, if_false, ite_true, ite_false, Bool.false_eq_true, Bool.true_eq_false, reduceIte, uLc, h63, sts_len]
  refine ⟨by omega, by omega, fun p8 hp8 => ?_⟩
  have h8 := hj6.fr hp8
  have h83 : p8 ≠ p3 := fun z => by rw [z, h63] at hp8; cases hp8
  have h85 : p8 ≠ p5 := fun z => by rw [z, h6] at hp8; cases hp8
  rw [Int.toNat_natCast]
  refine lm_lc ht hl h83 rfl (t.length + 1) 0 [] _ (by omega) (by simp) (fun x hx => by cases hx) (by rw [sup_same]; rfl) (by rw [sup_ne h83.symm]; exact h63) fun S9 acc hb9 ha hal h98 => ?_
  have hS9 : ∀ b, b ≠ p8 → S9 b = S6 b := fun b hb => (hb9 b hb).trans (sup_ne hb)
  have hj9 : JarS S9 jar cr 5004 := by
    obtain ⟨g1, ⟨kvs, g2, hk⟩, xs, g3, g4⟩ := hj6
    exact ⟨g1, ⟨kvs, by rw [hS9 jar h8.1.symm]; exact g2, hk⟩, xs, by rw [hS9 cr h8.2.symm]; exact g3, g4⟩
  have lw : LW S9 S9 jar cr p3 t 5004 := ⟨.refl, hj9, by rw [hS9 p3 h83.symm]; exact h63, h3.1⟩
  refine lwY_of ht hl lw (by decide) h8.1 h98 ha hal fun S10 e4 e9 lw10 => ?_
  exact lwZ_of ht hl lw10 (by decide) h0 h60 h5.1 (by rw [hS9 p5 h85.symm]; exact h6) hpl hpl2 q
end K00

set_option Elab.async false
set_option linter.all false
set_option maxRecDepth 100000
set_option maxHeartbeats 4000000
namespace K00
open PySem PySem.Spec L2 SL ClX
section
variable {P : Program} {w : World} {K : PySem.W.Frag} {mg : Str → Option Value} {base h : Heap} {c : Cs}
/-- the defs -/
structure Ds (K : PySem.W.Frag) (mg : Str → Option Value) : Prop where
  d_run_end : D0 K mg "run_end" s_run_end
  d_is_token : D0 K mg "is_token" s_is_token
  d_is_plain_within : D0 K mg "is_plain_within" s_is_plain_within
  d_is_plain : D0 K mg "is_plain" s_is_plain
  d_text_of : D0 K mg "text_of" s_text_of
  d_write_value : D0 K mg "write_value" s_write_value
  d_integer_end : D0 K mg "integer_end" s_integer_end
  d_word_end : D0 K mg "word_end" s_word_end
  d_value_of_word : D0 K mg "value_of_word" s_value_of_word
  d_read_value : D0 K mg "read_value" s_read_value
  d__law_jar : D0 K mg "_law_jar" s__law_jar
  d__law_draw : D0 K mg "_law_draw" s__law_draw
  d__law_first : D0 K mg "_law_first" s__law_first
  d__law_step : D0 K mg "_law_step" s__law_step
  d__law_whole : D0 K mg "_law_whole" s__law_whole
  d__law_atom : D0 K mg "_law_atom" s__law_atom
  d__law_text : D0 K mg "_law_text" s__law_text
  d__law_atom_value : D0 K mg "_law_atom_value" s__law_atom_value
  d__law_value : D0 K mg "_law_value" s__law_value
  d__law_same : D0 K mg "_law_same" s__law_same
  d__law_told : D0 K mg "_law_told" s__law_told
  d__law_judge : D0 K mg "_law_judge" s__law_judge
  d__law_signs : D0 K mg "_law_signs" s__law_signs
  d_law : D0 K mg "law" s_law
theorem all_ff (B : Bs K mg c) (Dd : Ds K mg) (xv : ExF P w K mg base "InvalidValue" c.InvalidValue ["given"]) (xt : ExF P w K mg base "InvalidText" c.InvalidText ["text", "at"]) (ks : Ks K c) {fl : Addr} {fdl : FuncData} (Fl : FunD K "law" "law" (defArgs s_law) (defBody s_law) (defScope s_law) [] [] fl fdl) : FnD P w K mg base 34 fl fdl ps_law sp_law := by
  have h_run_end : FF P w K mg base "run_end" 1 ps_run_end sp_run_end 4 [] gId := ff_d0 Dd.d_run_end sc_run_end (u_run_end K c) (fun _ _ _ _ _ _ us hl => match us, hl with | [_, _, _, _], _ => rfl) (fun f cdv A outer s H E hr => der_run_end B  hr) (fun ds S Q X hh => ok_run_end hh)
  have h_is_token : FF P w K mg base "is_token" 2 ps_is_token sp_is_token 1 [] gId := ff_d0 Dd.d_is_token sc_is_token (u_is_token K c sp_run_end) (fun _ _ _ _ _ _ us hl => match us, hl with | [_], _ => rfl) (fun f cdv A outer s H E hr => der_is_token B h_run_end hr) (fun ds S Q X hh => ok_is_token hh)
  have r_is_plain_within : ∀ n, FF P w K mg base "is_plain_within" (n + 2) ps_is_plain_within (sp_pw n) 2 [] gId := fun n => by
    induction n with
    | zero => exact ff_void Dd.d_is_plain_within (fun _ _ _ _ _ _ us hl => match us, hl with | [_, _], _ => rfl) fun ds S Q X hh => (by obtain ⟨_, m, hm, _⟩ := hh; omega)
    | succ n ih => exact ff_d0 Dd.d_is_plain_within sc_is_plain_within (u_is_plain_within K c sp_is_token (sp_pw n)) (fun _ _ _ _ _ _ us hl => match us, hl with | [_, _], _ => rfl) (fun f cdv A outer s H E hr => der_is_plain_within B (by omega) h_is_token ih hr) (fun ds S Q X hh => ok_pw hh)
  have h_is_plain_within : FF P w K mg base "is_plain_within" 30 ps_is_plain_within (sp_pw 21) 2 [] gId := ff_up (r_is_plain_within 21) (by decide)
  have h_is_plain : FF P w K mg base "is_plain" 31 ps_is_plain sp_is_plain 1 [] gId := ff_d0 Dd.d_is_plain sc_is_plain (u_is_plain K c (sp_pw 21)) (fun _ _ _ _ _ _ us hl => match us, hl with | [_], _ => rfl) (fun f cdv A outer s H E hr => der_is_plain B h_is_plain_within hr) (fun ds S Q X hh => ok_is_plain hh)
  have r_text_of : ∀ n, FF P w K mg base "text_of" (n + 2) ps_text_of (sp_to n) 1 [] gId := fun n => by
    induction n with
    | zero => exact ff_void Dd.d_text_of (fun _ _ _ _ _ _ us hl => match us, hl with | [_], _ => rfl) fun ds S Q X hh => (by obtain ⟨_, m, hm, _⟩ := hh; omega)
    | succ n ih => exact ff_d0 Dd.d_text_of sc_text_of (u_text_of K c (sp_to n)) (fun _ _ _ _ _ _ us hl => match us, hl with | [_], _ => rfl) (fun f cdv A outer s H E hr => der_text_of B (by omega) ih hr) (fun ds S Q X hh => ok_to hh)
  have h_text_of : FF P w K mg base "text_of" 30 ps_text_of (sp_to 21) 1 [] gId := ff_up (r_text_of 21) (by decide)
  have h_write_value : FF P w K mg base "write_value" 32 ps_write_value sp_write_value 1 [] gId := ff_d0 Dd.d_write_value sc_write_value (u_write_value K c sp_is_plain (sp_to 21)) (fun _ _ _ _ _ _ us hl => match us, hl with | [_], _ => rfl) (fun f cdv A outer s H E hr => der_write_value B h_is_plain xv h_text_of hr) (fun ds S Q X hh => ok_write_value hh)
  have h_integer_end : FF P w K mg base "integer_end" 2 ps_integer_end sp_integer_end 2 [] gId := ff_d0 Dd.d_integer_end sc_integer_end (u_integer_end K c sp_run_end) (fun _ _ _ _ _ _ us hl => match us, hl with | [_, _], _ => rfl) (fun f cdv A outer s H E hr => der_integer_end B h_run_end hr) (fun ds S Q X hh => ok_integer_end hh)
  have h_word_end : FF P w K mg base "word_end" 3 ps_word_end sp_word_end 2 [] gId := ff_d0 Dd.d_word_end sc_word_end (u_word_end K c sp_run_end sp_integer_end) (fun _ _ _ _ _ _ us hl => match us, hl with | [_, _], _ => rfl) (fun f cdv A outer s H E hr => der_word_end B h_run_end h_integer_end hr) (fun ds S Q X hh => ok_word_end hh)
  have h_value_of_word : FF P w K mg base "value_of_word" 1 ps_value_of_word sp_value_of_word 1 [] gId := ff_d0 Dd.d_value_of_word sc_value_of_word (u_value_of_word K c) (fun _ _ _ _ _ _ us hl => match us, hl with | [_], _ => rfl) (fun f cdv A outer s H E hr => der_value_of_word B  hr) (fun ds S Q X hh => ok_value_of_word hh)
  have h_read_value : FF P w K mg base "read_value" 4 ps_read_value (sp_read_value c) 1 [] gId := ff_d0 Dd.d_read_value sc_read_value (u_read_value K c sp_word_end sp_value_of_word) (fun _ _ _ _ _ _ us hl => match us, hl with | [_], _ => rfl) (fun f cdv A outer s H E hr => der_read_value B xt h_word_end h_value_of_word hr) (fun ds S Q X hh => ok_read_value hh)
  have h__law_jar : FF P w K mg base "_law_jar" 1 ps__law_jar sp__law_jar 1 [] gId := ff_d0 Dd.d__law_jar sc__law_jar (u__law_jar K c) (fun _ _ _ _ _ _ us hl => match us, hl with | [_], _ => rfl) (fun f cdv A outer s H E hr => der__law_jar B  hr) (fun ds S Q X hh => ok_law_jar hh)
  have h__law_draw : FF P w K mg base "_law_draw" 1 ps__law_draw sp__law_draw 2 [] gId := ff_d0 Dd.d__law_draw sc__law_draw (u__law_draw K c) (fun _ _ _ _ _ _ us hl => match us, hl with | [_, _], _ => rfl) (fun f cdv A outer s H E hr => der__law_draw B  hr) (fun ds S Q X hh => ok_law_draw hh)
  have h__law_first : FF P w K mg base "_law_first" 1 ps__law_first sp__law_first 2 [] gId := ff_d0 Dd.d__law_first sc__law_first (u__law_first K c) (fun _ _ _ _ _ _ us hl => match us, hl with | [_, _], _ => rfl) (fun f cdv A outer s H E hr => der__law_first B  hr) (fun ds S Q X hh => ok_law_first hh)
  have h__law_step : FF P w K mg base "_law_step" 2 ps__law_step sp__law_step 2 [] gId := ff_d0 Dd.d__law_step sc__law_step (u__law_step K c sp__law_first) (fun _ _ _ _ _ _ us hl => match us, hl with | [_, _], _ => rfl) (fun f cdv A outer s H E hr => der__law_step B h__law_first hr) (fun ds S Q X hh => ok_law_step hh)
  have h__law_whole : FF P w K mg base "_law_whole" 1 ps__law_whole sp__law_whole 1 [] gId := ff_d0 Dd.d__law_whole sc__law_whole (u__law_whole K c) (fun _ _ _ _ _ _ us hl => match us, hl with | [_], _ => rfl) (fun f cdv A outer s H E hr => der__law_whole B  hr) (fun ds S Q X hh => ok_law_whole hh)
  have h__law_atom : FF P w K mg base "_law_atom" 2 ps__law_atom sp__law_atom 1 [] gId := ff_d0 Dd.d__law_atom sc__law_atom (u__law_atom K c sp__law_draw) (fun _ _ _ _ _ _ us hl => match us, hl with | [_], _ => rfl) (fun f cdv A outer s H E hr => der__law_atom B h__law_draw hr) (fun ds S Q X hh => ok_law_atom hh)
  have h__law_text : FF P w K mg base "_law_text" 3 ps__law_text sp__law_text 1 [] gId := ff_d0 Dd.d__law_text sc__law_text (u__law_text K c sp__law_draw sp__law_atom) (fun _ _ _ _ _ _ us hl => match us, hl with | [_], _ => rfl) (fun f cdv A outer s H E hr => der__law_text B h__law_draw h__law_atom hr) (fun ds S Q X hh => ok_law_text hh)
  have h__law_atom_value : FF P w K mg base "_law_atom_value" 1 ps__law_atom_value sp__law_atom_value 1 [] gId := ff_d0 Dd.d__law_atom_value sc__law_atom_value (u__law_atom_value K c) (fun _ _ _ _ _ _ us hl => match us, hl with | [_], _ => rfl) (fun f cdv A outer s H E hr => der__law_atom_value B  hr) (fun ds S Q X hh => ok_law_atom_value hh)
  have h__law_value : FF P w K mg base "_law_value" 2 ps__law_value sp__law_value 1 [] gId := ff_d0 Dd.d__law_value sc__law_value (u__law_value K c sp__law_atom_value) (fun _ _ _ _ _ _ us hl => match us, hl with | [_], _ => rfl) (fun f cdv A outer s H E hr => der__law_value B h__law_atom_value hr) (fun ds S Q X hh => ok_law_value hh)
  have r__law_same : ∀ n, FF P w K mg base "_law_same" (n + 2) ps__law_same (sp_ls n) 2 [] gId := fun n => by
    induction n with
    | zero => exact ff_void Dd.d__law_same (fun _ _ _ _ _ _ us hl => match us, hl with | [_, _], _ => rfl) fun ds S Q X hh => (by obtain ⟨_, m, hm, _⟩ := hh; omega)
    | succ n ih => exact ff_d0 Dd.d__law_same sc__law_same (u__law_same K c (sp_ls n)) (fun _ _ _ _ _ _ us hl => match us, hl with | [_, _], _ => rfl) (fun f cdv A outer s H E hr => der__law_same B (by omega) ih hr) (fun ds S Q X hh => ok_ls hh)
  have h__law_same : FF P w K mg base "_law_same" 30 ps__law_same (sp_ls 22) 2 [] gId := ff_up (r__law_same 22) (by decide)
  have h__law_told : FF P w K mg base "_law_told" 5 ps__law_told sp__law_told 1 [] gId := ff_d0 Dd.d__law_told sc__law_told (u__law_told K c (sp_read_value c)) (fun _ _ _ _ _ _ us hl => match us, hl with | [_], _ => rfl) (fun f cdv A outer s H E hr => der__law_told B h_read_value hr) (fun ds S Q X hh => ok_law_told ks hh)
  have h__law_judge : FF P w K mg base "_law_judge" 33 ps__law_judge sp__law_judge 3 [] gId := ff_d0 Dd.d__law_judge sc__law_judge (u__law_judge K c sp__law_step sp__law_told sp__law_whole sp__law_value (sp_ls 22) sp_is_plain sp_write_value) (fun _ _ _ _ _ _ us hl => match us, hl with | [_, _, _], _ => rfl) (fun f cdv A outer s H E hr => der__law_judge B h__law_step h__law_told h__law_whole h__law_value h__law_same h_is_plain h_write_value hr) (fun ds S Q X hh => ok_law_judge hh)
  have h__law_signs : FF P w K mg base "_law_signs" 1 ps__law_signs sp__law_signs 0 [] gId := ff_d0 Dd.d__law_signs sc__law_signs (u__law_signs K c) (fun _ _ _ _ _ _ us hl => match us, hl with | [], _ => rfl) (fun f cdv A outer s H E hr => der__law_signs B  hr) (fun ds S Q X hh => ok_law_signs hh)
  exact fn_d Fl sc_law (u_law K c sp__law_jar sp__law_text sp__law_step sp__law_draw sp__law_signs sp__law_judge) (fun cdv A outer s H E hr => der_law B h__law_jar h__law_text h__law_step h__law_draw h__law_signs h__law_judge hr) (fun ds S Q X _ hh => ok_law hh)
end
abbrev s_iInvalidValue : Stmt := inClass (top 3) 0
theorem sc_iInvalidValue : FnScope ["self", "given"] ["self", "given"] (defScope s_iInvalidValue) := ⟨rfl, rfl, rfl, by decide +kernel, rfl, by decide +kernel, by decide +kernel⟩
abbrev s_iInvalidText : Stmt := inClass (top 4) 0
theorem sc_iInvalidText : FnScope ["self", "text", "at"] ["self", "text", "at"] (defScope s_iInvalidText) := ⟨rfl, rfl, rfl, by decide +kernel, rfl, by decide +kernel, by decide +kernel⟩
theorem all_mk {P : Program} {w : World} {K : PySem.W.Frag} {h : Heap} {mg : Str → Option Value} {fa : Addr} (X : K.In h) (G : h.Ns mainGlobals mg) (hfa : mg "law" = some (.ref fa))
    {f0 : Addr} {od0 an0 : Option Addr} {sl0 : Array (Option Value)} {oc0 kV0 dc0 pm0 cd0 ct0 : Value}
    {f1 : Addr} {od1 an1 : Option Addr} {sl1 : Array (Option Value)} {oc1 kV1 dc1 pm1 cd1 ct1 : Value}
    {f2 : Addr} {od2 an2 : Option Addr} {sl2 : Array (Option Value)} {oc2 kV2 dc2 pm2 cd2 ct2 : Value}
    {f3 : Addr} {od3 an3 : Option Addr} {sl3 : Array (Option Value)} {oc3 kV3 dc3 pm3 cd3 ct3 : Value}
    {f4 : Addr} {od4 an4 : Option Addr} {sl4 : Array (Option Value)} {oc4 kV4 dc4 pm4 cd4 ct4 : Value}
    {f5 : Addr} {od5 an5 : Option Addr} {sl5 : Array (Option Value)} {oc5 kV5 dc5 pm5 cd5 ct5 : Value}
    {f6 : Addr} {od6 an6 : Option Addr} {sl6 : Array (Option Value)} {oc6 kV6 dc6 pm6 cd6 ct6 : Value}
    {f7 : Addr} {od7 an7 : Option Addr} {sl7 : Array (Option Value)} {oc7 kV7 dc7 pm7 cd7 ct7 : Value}
    {f8 : Addr} {od8 an8 : Option Addr} {sl8 : Array (Option Value)} {oc8 kV8 dc8 pm8 cd8 ct8 : Value}
    {f9 : Addr} {od9 an9 : Option Addr} {sl9 : Array (Option Value)} {oc9 kV9 dc9 pm9 cd9 ct9 : Value}
    {f10 : Addr} {od10 an10 : Option Addr} {sl10 : Array (Option Value)} {oc10 kV10 dc10 pm10 cd10 ct10 : Value}
    {f11 : Addr} {od11 an11 : Option Addr} {sl11 : Array (Option Value)} {oc11 kV11 dc11 pm11 cd11 ct11 : Value}
    {f12 : Addr} {od12 an12 : Option Addr} {sl12 : Array (Option Value)} {oc12 kV12 dc12 pm12 cd12 ct12 : Value}
    {f13 : Addr} {od13 an13 : Option Addr} {sl13 : Array (Option Value)} {oc13 kV13 dc13 pm13 cd13 ct13 : Value}
    {f14 : Addr} {od14 an14 : Option Addr} {sl14 : Array (Option Value)} {oc14 kV14 dc14 pm14 cd14 ct14 : Value}
    {f15 : Addr} {od15 an15 : Option Addr} {sl15 : Array (Option Value)} {oc15 kV15 dc15 pm15 cd15 ct15 : Value}
    {f16 : Addr} {od16 an16 : Option Addr} {sl16 : Array (Option Value)} {oc16 kV16 dc16 pm16 cd16 ct16 : Value}
    {f17 : Addr} {od17 an17 : Option Addr} {sl17 : Array (Option Value)} {oc17 kV17 dc17 pm17 cd17 ct17 : Value}
    {f18 : Addr} {od18 an18 : Option Addr} {sl18 : Array (Option Value)} {oc18 kV18 dc18 pm18 cd18 ct18 : Value}
    {f19 : Addr} {od19 an19 : Option Addr} {sl19 : Array (Option Value)} {oc19 kV19 dc19 pm19 cd19 ct19 : Value}
    {f20 : Addr} {od20 an20 : Option Addr} {sl20 : Array (Option Value)} {oc20 kV20 dc20 pm20 cd20 ct20 : Value}
    {f21 : Addr} {od21 an21 : Option Addr} {sl21 : Array (Option Value)} {oc21 kV21 dc21 pm21 cd21 ct21 : Value}
    {f22 : Addr} {od22 an22 : Option Addr} {sl22 : Array (Option Value)} {oc22 kV22 dc22 pm22 cd22 ct22 : Value}
    {f23 : Addr} {od23 an23 : Option Addr} {sl23 : Array (Option Value)} {oc23 kV23 dc23 pm23 cd23 ct23 : Value}
    {CShopError : Addr}
    {CInvalidDeed : Addr}
    {CInvalidValue : Addr}
    {CInvalidText : Addr}
    {nmInvalidValue qInvalidValue : Str} {NInvalidValue : Addr} {bsInvalidValue bmInvalidValue : List Value} {snInvalidValue : List Str} {subInvalidValue : List Value} {abInvalidValue : Bool} {colInvalidValue : Option Bool} {ddInvalidValue : Option Addr} {m0InvalidValue m1InvalidValue m2InvalidValue m3InvalidValue m5InvalidValue : Option Value}
    {iInvalidValue : Addr} {odiInvalidValue aniInvalidValue : Option Addr} {sliInvalidValue : Array (Option Value)} {ociInvalidValue kViInvalidValue dciInvalidValue pmiInvalidValue cdiInvalidValue ctiInvalidValue : Value}
    {nmInvalidText qInvalidText : Str} {NInvalidText : Addr} {bsInvalidText bmInvalidText : List Value} {snInvalidText : List Str} {subInvalidText : List Value} {abInvalidText : Bool} {colInvalidText : Option Bool} {ddInvalidText : Option Addr} {m0InvalidText m1InvalidText m2InvalidText m3InvalidText m5InvalidText : Option Value}
    {iInvalidText : Addr} {odiInvalidText aniInvalidText : Option Addr} {sliInvalidText : Array (Option Value)} {ociInvalidText kViInvalidText dciInvalidText pmiInvalidText cdiInvalidText ctiInvalidText : Value}
    {tkFIGURES : Tok}
    {tkLETTERS : Tok}
    {tkLIMIT : Tok}
    {tkMOST_DEEP : Tok}
    {tkMOST_FIGURES : Tok}
    {tkMOST_SIGNS : Tok}
    {tkTOKEN_SIGNS : Tok}
    (a0 : PySem.W.nsIn K mainGlobals "run_end" = some (some (.ref f0)))
    (l0 : K.lookup f0 = some ⟨oc0, od0, .func (PySem.W.fnOf "run_end" "run_end" (defArgs s_run_end) (defBody s_run_end) (defScope s_run_end) .none kV0 dc0 pm0 an0 cd0 ct0), sl0⟩)
    (c0 : PySem.W.codeIn K cd0 "run_end" = true)
    (k0 : PySem.W.keepIn K (.ref f0) = true)
    (a1 : PySem.W.nsIn K mainGlobals "is_token" = some (some (.ref f1)))
    (l1 : K.lookup f1 = some ⟨oc1, od1, .func (PySem.W.fnOf "is_token" "is_token" (defArgs s_is_token) (defBody s_is_token) (defScope s_is_token) .none kV1 dc1 pm1 an1 cd1 ct1), sl1⟩)
    (c1 : PySem.W.codeIn K cd1 "is_token" = true)
    (k1 : PySem.W.keepIn K (.ref f1) = true)
    (a2 : PySem.W.nsIn K mainGlobals "is_plain_within" = some (some (.ref f2)))
    (l2 : K.lookup f2 = some ⟨oc2, od2, .func (PySem.W.fnOf "is_plain_within" "is_plain_within" (defArgs s_is_plain_within) (defBody s_is_plain_within) (defScope s_is_plain_within) .none kV2 dc2 pm2 an2 cd2 ct2), sl2⟩)
    (c2 : PySem.W.codeIn K cd2 "is_plain_within" = true)
    (k2 : PySem.W.keepIn K (.ref f2) = true)
    (a3 : PySem.W.nsIn K mainGlobals "is_plain" = some (some (.ref f3)))
    (l3 : K.lookup f3 = some ⟨oc3, od3, .func (PySem.W.fnOf "is_plain" "is_plain" (defArgs s_is_plain) (defBody s_is_plain) (defScope s_is_plain) .none kV3 dc3 pm3 an3 cd3 ct3), sl3⟩)
    (c3 : PySem.W.codeIn K cd3 "is_plain" = true)
    (k3 : PySem.W.keepIn K (.ref f3) = true)
    (a4 : PySem.W.nsIn K mainGlobals "text_of" = some (some (.ref f4)))
    (l4 : K.lookup f4 = some ⟨oc4, od4, .func (PySem.W.fnOf "text_of" "text_of" (defArgs s_text_of) (defBody s_text_of) (defScope s_text_of) .none kV4 dc4 pm4 an4 cd4 ct4), sl4⟩)
    (c4 : PySem.W.codeIn K cd4 "text_of" = true)
    (k4 : PySem.W.keepIn K (.ref f4) = true)
    (a5 : PySem.W.nsIn K mainGlobals "write_value" = some (some (.ref f5)))
    (l5 : K.lookup f5 = some ⟨oc5, od5, .func (PySem.W.fnOf "write_value" "write_value" (defArgs s_write_value) (defBody s_write_value) (defScope s_write_value) .none kV5 dc5 pm5 an5 cd5 ct5), sl5⟩)
    (c5 : PySem.W.codeIn K cd5 "write_value" = true)
    (k5 : PySem.W.keepIn K (.ref f5) = true)
    (a6 : PySem.W.nsIn K mainGlobals "integer_end" = some (some (.ref f6)))
    (l6 : K.lookup f6 = some ⟨oc6, od6, .func (PySem.W.fnOf "integer_end" "integer_end" (defArgs s_integer_end) (defBody s_integer_end) (defScope s_integer_end) .none kV6 dc6 pm6 an6 cd6 ct6), sl6⟩)
    (c6 : PySem.W.codeIn K cd6 "integer_end" = true)
    (k6 : PySem.W.keepIn K (.ref f6) = true)
    (a7 : PySem.W.nsIn K mainGlobals "word_end" = some (some (.ref f7)))
    (l7 : K.lookup f7 = some ⟨oc7, od7, .func (PySem.W.fnOf "word_end" "word_end" (defArgs s_word_end) (defBody s_word_end) (defScope s_word_end) .none kV7 dc7 pm7 an7 cd7 ct7), sl7⟩)
    (c7 : PySem.W.codeIn K cd7 "word_end" = true)
    (k7 : PySem.W.keepIn K (.ref f7) = true)
    (a8 : PySem.W.nsIn K mainGlobals "value_of_word" = some (some (.ref f8)))
    (l8 : K.lookup f8 = some ⟨oc8, od8, .func (PySem.W.fnOf "value_of_word" "value_of_word" (defArgs s_value_of_word) (defBody s_value_of_word) (defScope s_value_of_word) .none kV8 dc8 pm8 an8 cd8 ct8), sl8⟩)
    (c8 : PySem.W.codeIn K cd8 "value_of_word" = true)
    (k8 : PySem.W.keepIn K (.ref f8) = true)
    (a9 : PySem.W.nsIn K mainGlobals "read_value" = some (some (.ref f9)))
    (l9 : K.lookup f9 = some ⟨oc9, od9, .func (PySem.W.fnOf "read_value" "read_value" (defArgs s_read_value) (defBody s_read_value) (defScope s_read_value) .none kV9 dc9 pm9 an9 cd9 ct9), sl9⟩)
    (c9 : PySem.W.codeIn K cd9 "read_value" = true)
    (k9 : PySem.W.keepIn K (.ref f9) = true)
    (a10 : PySem.W.nsIn K mainGlobals "_law_jar" = some (some (.ref f10)))
    (l10 : K.lookup f10 = some ⟨oc10, od10, .func (PySem.W.fnOf "_law_jar" "_law_jar" (defArgs s__law_jar) (defBody s__law_jar) (defScope s__law_jar) .none kV10 dc10 pm10 an10 cd10 ct10), sl10⟩)
    (c10 : PySem.W.codeIn K cd10 "_law_jar" = true)
    (k10 : PySem.W.keepIn K (.ref f10) = true)
    (a11 : PySem.W.nsIn K mainGlobals "_law_draw" = some (some (.ref f11)))
    (l11 : K.lookup f11 = some ⟨oc11, od11, .func (PySem.W.fnOf "_law_draw" "_law_draw" (defArgs s__law_draw) (defBody s__law_draw) (defScope s__law_draw) .none kV11 dc11 pm11 an11 cd11 ct11), sl11⟩)
    (c11 : PySem.W.codeIn K cd11 "_law_draw" = true)
    (k11 : PySem.W.keepIn K (.ref f11) = true)
    (a12 : PySem.W.nsIn K mainGlobals "_law_first" = some (some (.ref f12)))
    (l12 : K.lookup f12 = some ⟨oc12, od12, .func (PySem.W.fnOf "_law_first" "_law_first" (defArgs s__law_first) (defBody s__law_first) (defScope s__law_first) .none kV12 dc12 pm12 an12 cd12 ct12), sl12⟩)
    (c12 : PySem.W.codeIn K cd12 "_law_first" = true)
    (k12 : PySem.W.keepIn K (.ref f12) = true)
    (a13 : PySem.W.nsIn K mainGlobals "_law_step" = some (some (.ref f13)))
    (l13 : K.lookup f13 = some ⟨oc13, od13, .func (PySem.W.fnOf "_law_step" "_law_step" (defArgs s__law_step) (defBody s__law_step) (defScope s__law_step) .none kV13 dc13 pm13 an13 cd13 ct13), sl13⟩)
    (c13 : PySem.W.codeIn K cd13 "_law_step" = true)
    (k13 : PySem.W.keepIn K (.ref f13) = true)
    (a14 : PySem.W.nsIn K mainGlobals "_law_whole" = some (some (.ref f14)))
    (l14 : K.lookup f14 = some ⟨oc14, od14, .func (PySem.W.fnOf "_law_whole" "_law_whole" (defArgs s__law_whole) (defBody s__law_whole) (defScope s__law_whole) .none kV14 dc14 pm14 an14 cd14 ct14), sl14⟩)
    (c14 : PySem.W.codeIn K cd14 "_law_whole" = true)
    (k14 : PySem.W.keepIn K (.ref f14) = true)
    (a15 : PySem.W.nsIn K mainGlobals "_law_atom" = some (some (.ref f15)))
    (l15 : K.lookup f15 = some ⟨oc15, od15, .func (PySem.W.fnOf "_law_atom" "_law_atom" (defArgs s__law_atom) (defBody s__law_atom) (defScope s__law_atom) .none kV15 dc15 pm15 an15 cd15 ct15), sl15⟩)
    (c15 : PySem.W.codeIn K cd15 "_law_atom" = true)
    (k15 : PySem.W.keepIn K (.ref f15) = true)
    (a16 : PySem.W.nsIn K mainGlobals "_law_text" = some (some (.ref f16)))
    (l16 : K.lookup f16 = some ⟨oc16, od16, .func (PySem.W.fnOf "_law_text" "_law_text" (defArgs s__law_text) (defBody s__law_text) (defScope s__law_text) .none kV16 dc16 pm16 an16 cd16 ct16), sl16⟩)
    (c16 : PySem.W.codeIn K cd16 "_law_text" = true)
    (k16 : PySem.W.keepIn K (.ref f16) = true)
    (a17 : PySem.W.nsIn K mainGlobals "_law_atom_value" = some (some (.ref f17)))
    (l17 : K.lookup f17 = some ⟨oc17, od17, .func (PySem.W.fnOf "_law_atom_value" "_law_atom_value" (defArgs s__law_atom_value) (defBody s__law_atom_value) (defScope s__law_atom_value) .none kV17 dc17 pm17 an17 cd17 ct17), sl17⟩)
    (c17 : PySem.W.codeIn K cd17 "_law_atom_value" = true)
    (k17 : PySem.W.keepIn K (.ref f17) = true)
    (a18 : PySem.W.nsIn K mainGlobals "_law_value" = some (some (.ref f18)))
    (l18 : K.lookup f18 = some ⟨oc18, od18, .func (PySem.W.fnOf "_law_value" "_law_value" (defArgs s__law_value) (defBody s__law_value) (defScope s__law_value) .none kV18 dc18 pm18 an18 cd18 ct18), sl18⟩)
    (c18 : PySem.W.codeIn K cd18 "_law_value" = true)
    (k18 : PySem.W.keepIn K (.ref f18) = true)
    (a19 : PySem.W.nsIn K mainGlobals "_law_same" = some (some (.ref f19)))
    (l19 : K.lookup f19 = some ⟨oc19, od19, .func (PySem.W.fnOf "_law_same" "_law_same" (defArgs s__law_same) (defBody s__law_same) (defScope s__law_same) .none kV19 dc19 pm19 an19 cd19 ct19), sl19⟩)
    (c19 : PySem.W.codeIn K cd19 "_law_same" = true)
    (k19 : PySem.W.keepIn K (.ref f19) = true)
    (a20 : PySem.W.nsIn K mainGlobals "_law_told" = some (some (.ref f20)))
    (l20 : K.lookup f20 = some ⟨oc20, od20, .func (PySem.W.fnOf "_law_told" "_law_told" (defArgs s__law_told) (defBody s__law_told) (defScope s__law_told) .none kV20 dc20 pm20 an20 cd20 ct20), sl20⟩)
    (c20 : PySem.W.codeIn K cd20 "_law_told" = true)
    (k20 : PySem.W.keepIn K (.ref f20) = true)
    (a21 : PySem.W.nsIn K mainGlobals "_law_judge" = some (some (.ref f21)))
    (l21 : K.lookup f21 = some ⟨oc21, od21, .func (PySem.W.fnOf "_law_judge" "_law_judge" (defArgs s__law_judge) (defBody s__law_judge) (defScope s__law_judge) .none kV21 dc21 pm21 an21 cd21 ct21), sl21⟩)
    (c21 : PySem.W.codeIn K cd21 "_law_judge" = true)
    (k21 : PySem.W.keepIn K (.ref f21) = true)
    (a22 : PySem.W.nsIn K mainGlobals "_law_signs" = some (some (.ref f22)))
    (l22 : K.lookup f22 = some ⟨oc22, od22, .func (PySem.W.fnOf "_law_signs" "_law_signs" (defArgs s__law_signs) (defBody s__law_signs) (defScope s__law_signs) .none kV22 dc22 pm22 an22 cd22 ct22), sl22⟩)
    (c22 : PySem.W.codeIn K cd22 "_law_signs" = true)
    (k22 : PySem.W.keepIn K (.ref f22) = true)
    (a23 : PySem.W.nsIn K mainGlobals "law" = some (some (.ref f23)))
    (l23 : K.lookup f23 = some ⟨oc23, od23, .func (PySem.W.fnOf "law" "law" (defArgs s_law) (defBody s_law) (defScope s_law) .none kV23 dc23 pm23 an23 cd23 ct23), sl23⟩)
    (c23 : PySem.W.codeIn K cd23 "law" = true)
    (k23 : PySem.W.keepIn K (.ref f23) = true)
    (aCShopError : PySem.W.nsIn K mainGlobals "ShopError" = some (some (.ref CShopError)))
    (aCInvalidDeed : PySem.W.nsIn K mainGlobals "InvalidDeed" = some (some (.ref CInvalidDeed)))
    (aCInvalidValue : PySem.W.nsIn K mainGlobals "InvalidValue" = some (some (.ref CInvalidValue)))
    (aCInvalidText : PySem.W.nsIn K mainGlobals "InvalidText" = some (some (.ref CInvalidText)))
    (xLInvalidValue : K.lookup CInvalidValue = some (excClassObj nmInvalidValue qInvalidValue CInvalidValue NInvalidValue bsInvalidValue bmInvalidValue true snInvalidValue subInvalidValue abInvalidValue colInvalidValue ddInvalidValue m0InvalidValue m1InvalidValue m2InvalidValue m3InvalidValue m5InvalidValue "ValueError.__new__"))
    (vEInvalidValue : PySem.HandSPX.refsVE bmInvalidValue = true)
    (saInvalidValue : PySem.W.findIn K (.ref CInvalidValue) "__setattr__" = some (some (.builtin "object.__setattr__")))
    (eCInvalidValue : PySem.W.subIn K (.ref CInvalidValue) (.type "BaseException") = some true)
    (tCInvalidValue : PySem.W.typeIn K (.ref CInvalidValue) = some (.type "type"))
    (kCInvalidValue : PySem.W.keepIn K (.ref CInvalidValue) = true)
    (noInvalidValuegiven : PySem.W.findIn K (.ref CInvalidValue) "given" = some none)
    (iiInvalidValue : PySem.W.findIn K (.ref CInvalidValue) "__init__" = some (some (.ref iInvalidValue)))
    (tiInvalidValue : PySem.W.typeIn K (.ref iInvalidValue) = some (.type "function"))
    (liInvalidValue : K.lookup iInvalidValue = some ⟨ociInvalidValue, odiInvalidValue, .func (PySem.W.fnOf "__init__" "InvalidValue.__init__" (defArgs s_iInvalidValue) (defBody s_iInvalidValue) (defScope s_iInvalidValue) .none kViInvalidValue dciInvalidValue pmiInvalidValue aniInvalidValue cdiInvalidValue ctiInvalidValue), sliInvalidValue⟩)
    (ciInvalidValue : PySem.W.codeIn K cdiInvalidValue "InvalidValue.__init__" = true)
    (kiInvalidValue : PySem.W.keepIn K (.ref iInvalidValue) = true)
    (xLInvalidText : K.lookup CInvalidText = some (excClassObj nmInvalidText qInvalidText CInvalidText NInvalidText bsInvalidText bmInvalidText true snInvalidText subInvalidText abInvalidText colInvalidText ddInvalidText m0InvalidText m1InvalidText m2InvalidText m3InvalidText m5InvalidText "ValueError.__new__"))
    (vEInvalidText : PySem.HandSPX.refsVE bmInvalidText = true)
    (saInvalidText : PySem.W.findIn K (.ref CInvalidText) "__setattr__" = some (some (.builtin "object.__setattr__")))
    (eCInvalidText : PySem.W.subIn K (.ref CInvalidText) (.type "BaseException") = some true)
    (tCInvalidText : PySem.W.typeIn K (.ref CInvalidText) = some (.type "type"))
    (kCInvalidText : PySem.W.keepIn K (.ref CInvalidText) = true)
    (noInvalidTexttext : PySem.W.findIn K (.ref CInvalidText) "text" = some none)
    (noInvalidTextat : PySem.W.findIn K (.ref CInvalidText) "at" = some none)
    (iiInvalidText : PySem.W.findIn K (.ref CInvalidText) "__init__" = some (some (.ref iInvalidText)))
    (tiInvalidText : PySem.W.typeIn K (.ref iInvalidText) = some (.type "function"))
    (liInvalidText : K.lookup iInvalidText = some ⟨ociInvalidText, odiInvalidText, .func (PySem.W.fnOf "__init__" "InvalidText.__init__" (defArgs s_iInvalidText) (defBody s_iInvalidText) (defScope s_iInvalidText) .none kViInvalidText dciInvalidText pmiInvalidText aniInvalidText cdiInvalidText ctiInvalidText), sliInvalidText⟩)
    (ciInvalidText : PySem.W.codeIn K cdiInvalidText "InvalidText.__init__" = true)
    (kiInvalidText : PySem.W.keepIn K (.ref iInvalidText) = true)
    (ga : PySem.W.findIn K (.ref CInvalidText) "__getattribute__" = some (some (.builtin "BaseException.__getattribute__")))
    (gg : PySem.W.findIn K (.ref CInvalidText) "__getattr__" = some none)
    (hd : PySem.W.hasDictIn K CInvalidText = true)
    (hcl : PySem.W.findIn K (.ref CInvalidText) "__class__" = some (some (.builtin "object.__class__")))
    (hgd : PySem.W.specialIn K (.builtin "object.__class__") "__get__" = some (some (.builtin "getset_descriptor.__get__")))
    (htk : PySem.W.takesIn K (.builtin "object.__class__") = some true)
    (hmo : PySem.W.mroIn K CInvalidText (.type "object") = some true)
    (sCC : PySem.W.subIn K (.ref CInvalidText) (.ref CInvalidText) = some true)
    (sVE : PySem.W.subIn K (.ref CInvalidText) (.type "ValueError") = some true)
    (sShopError : PySem.W.subIn K (.ref CInvalidText) (.ref CShopError) = some true)
    (icShopError : PySem.W.isClsIn K CShopError = true)
    (tyShopError : PySem.W.typeIn K (.ref CShopError) = some (.type "type"))
    (sInvalidValue : PySem.W.subIn K (.ref CInvalidText) (.ref CInvalidValue) = some false)
    (icInvalidValue : PySem.W.isClsIn K CInvalidValue = true)
    (tyInvalidValue : PySem.W.typeIn K (.ref CInvalidValue) = some (.type "type"))
    (sInvalidDeed : PySem.W.subIn K (.ref CInvalidText) (.ref CInvalidDeed) = some false)
    (icInvalidDeed : PySem.W.isClsIn K CInvalidDeed = true)
    (tyInvalidDeed : PySem.W.typeIn K (.ref CInvalidDeed) = some (.type "type"))
    (z_ValueError : PySem.W.nsIn K mainGlobals "ValueError" = some none)
    (z_bool : PySem.W.nsIn K mainGlobals "bool" = some none)
    (z_int : PySem.W.nsIn K mainGlobals "int" = some none)
    (z_isinstance : PySem.W.nsIn K mainGlobals "isinstance" = some none)
    (z_len : PySem.W.nsIn K mainGlobals "len" = some none)
    (z_min : PySem.W.nsIn K mainGlobals "min" = some none)
    (z_range : PySem.W.nsIn K mainGlobals "range" = some none)
    (z_str : PySem.W.nsIn K mainGlobals "str" = some none)
    (z_tuple : PySem.W.nsIn K mainGlobals "tuple" = some none)
    (v_FIGURES : PySem.W.nsIn K mainGlobals "FIGURES" = some (some (.str (Str.ofString "0123456789") tkFIGURES)))
    (v_LETTERS : PySem.W.nsIn K mainGlobals "LETTERS" = some (some (.str (Str.ofString "abcdefghijklmnopqrstuvwxyz") tkLETTERS)))
    (v_LIMIT : PySem.W.nsIn K mainGlobals "LIMIT" = some (some (.int 1000000000000 tkLIMIT)))
    (v_MOST_DEEP : PySem.W.nsIn K mainGlobals "MOST_DEEP" = some (some (.int 20 tkMOST_DEEP)))
    (v_MOST_FIGURES : PySem.W.nsIn K mainGlobals "MOST_FIGURES" = some (some (.int 12 tkMOST_FIGURES)))
    (v_MOST_SIGNS : PySem.W.nsIn K mainGlobals "MOST_SIGNS" = some (some (.int 12 tkMOST_SIGNS)))
    (v_TOKEN_SIGNS : PySem.W.nsIn K mainGlobals "TOKEN_SIGNS" = some (some (.str (Str.ofString "abcdefghijklmnopqrstuvwxyz0123456789") tkTOKEN_SIGNS))) :
    ∃ fd : FuncData, (∀ (s : Shared) (v : Value), BindsTo s fd ⟨[v], []⟩ [("script", v)]) ∧ ∀ base : Heap, K.In base → base.Ns mainGlobals mg → FnOk P w K mg base (L2.CX P w) 34 fa fd ["script"] (lsp K 1 sp_law) := by
  have Dd : Ds K mg := ⟨d0_mk X G a0 l0 c0 k0, d0_mk X G a1 l1 c1 k1, d0_mk X G a2 l2 c2 k2, d0_mk X G a3 l3 c3 k3, d0_mk X G a4 l4 c4 k4, d0_mk X G a5 l5 c5 k5, d0_mk X G a6 l6 c6 k6, d0_mk X G a7 l7 c7 k7, d0_mk X G a8 l8 c8 k8, d0_mk X G a9 l9 c9 k9, d0_mk X G a10 l10 c10 k10, d0_mk X G a11 l11 c11 k11, d0_mk X G a12 l12 c12 k12, d0_mk X G a13 l13 c13 k13, d0_mk X G a14 l14 c14 k14, d0_mk X G a15 l15 c15 k15, d0_mk X G a16 l16 c16 k16, d0_mk X G a17 l17 c17 k17, d0_mk X G a18 l18 c18 k18, d0_mk X G a19 l19 c19 k19, d0_mk X G a20 l20 c20 k20, d0_mk X G a21 l21 c21 k21, d0_mk X G a22 l22 c22 k22, d0_mk X G a23 l23 c23 k23⟩
  have TInvalidValue : OexC K CInvalidValue := ⟨⟨nmInvalidValue, qInvalidValue, NInvalidValue, bsInvalidValue, bmInvalidValue, snInvalidValue, subInvalidValue, abInvalidValue, colInvalidValue, ddInvalidValue, m0InvalidValue, m1InvalidValue, m2InvalidValue, m3InvalidValue, m5InvalidValue, xLInvalidValue, vEInvalidValue⟩, saInvalidValue, eCInvalidValue, tCInvalidValue, kCInvalidValue⟩
  have TInvalidText : OexC K CInvalidText := ⟨⟨nmInvalidText, qInvalidText, NInvalidText, bsInvalidText, bmInvalidText, snInvalidText, subInvalidText, abInvalidText, colInvalidText, ddInvalidText, m0InvalidText, m1InvalidText, m2InvalidText, m3InvalidText, m5InvalidText, xLInvalidText, vEInvalidText⟩, saInvalidText, eCInvalidText, tCInvalidText, kCInvalidText⟩
  have EC : ExcC K CInvalidText := ⟨ga, gg, eCInvalidText, hd, hcl, hgd, htk, hmo⟩
  let c : Cs := ⟨CShopError, CInvalidDeed, CInvalidValue, CInvalidText⟩
  have B : Bs K mg c := ⟨PySem.W.mg_none_of X G z_ValueError, PySem.W.mg_none_of X G z_bool, PySem.W.mg_none_of X G z_int, PySem.W.mg_none_of X G z_isinstance, PySem.W.mg_none_of X G z_len, PySem.W.mg_none_of X G z_min, PySem.W.mg_none_of X G z_range, PySem.W.mg_none_of X G z_str, PySem.W.mg_none_of X G z_tuple, ⟨.str (Str.ofString "0123456789"), _, PySem.W.mg_of X G v_FIGURES, ⟨_, rfl⟩, fun _ => rep_str.mpr (by rw [tx_cs])⟩, ⟨.str (Str.ofString "abcdefghijklmnopqrstuvwxyz"), _, PySem.W.mg_of X G v_LETTERS, ⟨_, rfl⟩, fun _ => rep_str.mpr (by rw [tx_cs])⟩, ⟨.int 1000000000000, _, PySem.W.mg_of X G v_LIMIT, ⟨_, rfl⟩, fun _ => rep_int.mpr rfl⟩, ⟨.int 20, _, PySem.W.mg_of X G v_MOST_DEEP, ⟨_, rfl⟩, fun _ => rep_int.mpr rfl⟩, ⟨.int 12, _, PySem.W.mg_of X G v_MOST_FIGURES, ⟨_, rfl⟩, fun _ => rep_int.mpr rfl⟩, ⟨.int 12, _, PySem.W.mg_of X G v_MOST_SIGNS, ⟨_, rfl⟩, fun _ => rep_int.mpr rfl⟩, ⟨.str (Str.ofString "abcdefghijklmnopqrstuvwxyz0123456789"), _, PySem.W.mg_of X G v_TOKEN_SIGNS, ⟨_, rfl⟩, fun _ => rep_str.mpr (by rw [tx_cs])⟩, PySem.W.mg_of X G aCShopError, PySem.W.mg_of X G aCInvalidDeed, PySem.W.mg_of X G aCInvalidValue, PySem.W.mg_of X G aCInvalidText, ⟨ga, gg, noInvalidTextat, eCInvalidText, hd⟩, ⟨ga, gg, noInvalidTexttext, eCInvalidText, hd⟩, EC⟩
  have ks : Ks K c := ⟨PySem.W.exm_ref eCInvalidText hd tCInvalidText sCC, kit_ref sShopError icShopError tyShopError sCC, kit_type sVE, kit_ref sInvalidValue icInvalidValue tyInvalidValue sCC, kit_ref sInvalidDeed icInvalidDeed tyInvalidDeed sCC⟩
  have FiInvalidValue : FunD K "__init__" "InvalidValue.__init__" (defArgs s_iInvalidValue) (defBody s_iInvalidValue) (defScope s_iInvalidValue) [] [] iInvalidValue _ := ⟨⟨_, _, .none, _, _, _, _, _, _, _, rfl, liInvalidValue, ciInvalidValue, .inl ⟨rfl, rfl⟩, .inl rfl⟩, kiInvalidValue⟩
  have FiInvalidText : FunD K "__init__" "InvalidText.__init__" (defArgs s_iInvalidText) (defBody s_iInvalidText) (defScope s_iInvalidText) [] [] iInvalidText _ := ⟨⟨_, _, .none, _, _, _, _, _, _, _, rfl, liInvalidText, ciInvalidText, .inl ⟨rfl, rfl⟩, .inl rfl⟩, kiInvalidText⟩
  obtain ⟨f, fd, hm, F⟩ := Dd.d_law
  have e := hm.symm.trans hfa
  cases e
  refine ⟨fd, fun s v => F.bindsA (ps := ["script"]) (fun _ _ _ _ _ _ us hl => match us, hl with | [_], _ => rfl) s [v] rfl, fun base _ _ => ?_⟩
  have xv : ExF P w K mg base "InvalidValue" c.InvalidValue ["given"] := ⟨TInvalidValue, B.c_InvalidValue, _, _, _, iiInvalidValue, tiInvalidValue, ini1 FiInvalidValue rfl sc_iInvalidValue TInvalidValue noInvalidValuegiven (fun cdv A outer s H E => ps_ost (pv 0) (pv 1)), FiInvalidValue.bindsN (fun _ _ _ _ _ _ us hl => match us, hl with | [_, _], _ => rfl)⟩
  have xt : ExF P w K mg base "InvalidText" c.InvalidText ["text", "at"] := ⟨TInvalidText, B.c_InvalidText, _, _, _, iiInvalidText, tiInvalidText, ini2 FiInvalidText rfl sc_iInvalidText TInvalidText noInvalidTexttext noInvalidTextat (fun cdv A outer s H E => ps_ost (pv 0) (pv 1)) (fun cdv A outer s H E => ps_ost (pv 0) (pv 2)), FiInvalidText.bindsN (fun _ _ _ _ _ _ us hl => match us, hl with | [_, _, _], _ => rfl)⟩
  exact all_ff B Dd xv xt ks F
theorem walk {l : PySem.W.OpenLaw} {q : Program} {loose : List Str} {XP : (Str → Option Value) → Heap → Prop} {YP : World → Heap → Prop} {d : DefRec} {K : Params → PySem.W.Frag} (hn : l.most = some 63) (hdf : d.params.defaults = [])
    (hY : ∀ (w : World) (h : Heap), YP w h → (K w.params).In h)
    (F : ∀ (w : World) (mg : Str → Option Value) (fa : Addr) (h : Heap), (K w.params).In h → h.Ns mainGlobals mg → mg d.name = some (.ref fa) →
      ∃ fd : FuncData, (∀ (s : Shared) (u : Value), BindsTo s fd ⟨[u], []⟩ [("script", u)]) ∧ ∀ base : Heap, (K w.params).In base → base.Ns mainGlobals mg → FnOk l.prog w (K w.params) mg base (L2.CX l.prog w) 34 fa fd ["script"] (lsp (K w.params) 1 sp_law)) :
    PySem.W.WalkO q loose XP YP l.row.toRowW d [] (fun f vs => PySem.call f vs) :=
  L2.walk_of (n := 63) (k := 34) (x := "script") (CX := fun w => L2.CX l.prog w) (sp := fun w => lsp (K w.params) 1 sp_law) hn (by decide) hdf ⟨rfl, by decide, by decide⟩ hY F (fun w H a ns hl _ hS => lsp_law hS fun sd S hs => ⟨sd, ns, rfl, hs, fun _ => rfl⟩) fun w H s e s' z => cx_no z
end K00

set_option Elab.async false
open PySem PySem.W PyProof.Rows
set_option maxRecDepth 100000 in
set_option maxHeartbeats 0 in
theorem PySem.Challenge.cw_oncecoin_k00_next_signs_of_texts_holds : PySem.Challenge.rw_oncecoin_k00_next_signs_of_texts.Holds := by
  w_on; o_law; k_head; (case hw => w_witness2)
  k_fill
  refine K00.walk (l := PySem.Challenge.rw_oncecoin_k00_next_signs_of_texts) rfl rfl (fun w h Y => PySem.W.kIn_of Y) ?F
  case F =>
    intro w mg fa h KX G hmg
    refine' K00.all_mk KX G hmg ?a0 ?l0 ?c0 ?k0 ?a1 ?l1 ?c1 ?k1 ?a2 ?l2 ?c2 ?k2 ?a3 ?l3 ?c3 ?k3 ?a4 ?l4 ?c4 ?k4 ?a5 ?l5 ?c5 ?k5 ?a6 ?l6 ?c6 ?k6 ?a7 ?l7 ?c7 ?k7 ?a8 ?l8 ?c8 ?k8 ?a9 ?l9 ?c9 ?k9 ?a10 ?l10 ?c10 ?k10 ?a11 ?l11 ?c11 ?k11 ?a12 ?l12 ?c12 ?k12 ?a13 ?l13 ?c13 ?k13 ?a14 ?l14 ?c14 ?k14 ?a15 ?l15 ?c15 ?k15 ?a16 ?l16 ?c16 ?k16 ?a17 ?l17 ?c17 ?k17 ?a18 ?l18 ?c18 ?k18 ?a19 ?l19 ?c19 ?k19 ?a20 ?l20 ?c20 ?k20 ?a21 ?l21 ?c21 ?k21 ?a22 ?l22 ?c22 ?k22 ?a23 ?l23 ?c23 ?k23 ?aCShopError ?aCInvalidDeed ?aCInvalidValue ?aCInvalidText ?xLInvalidValue ?vEInvalidValue ?saInvalidValue ?eCInvalidValue ?tCInvalidValue ?kCInvalidValue ?noInvalidValuegiven ?iiInvalidValue ?tiInvalidValue ?liInvalidValue ?ciInvalidValue ?kiInvalidValue ?xLInvalidText ?vEInvalidText ?saInvalidText ?eCInvalidText ?tCInvalidText ?kCInvalidText ?noInvalidTexttext ?noInvalidTextat ?iiInvalidText ?tiInvalidText ?liInvalidText ?ciInvalidText ?kiInvalidText ?ga ?gg ?hd ?hcl ?hgd ?htk ?hmo ?sCC ?sVE ?sShopError ?icShopError ?tyShopError ?sInvalidValue ?icInvalidValue ?tyInvalidValue ?sInvalidDeed ?icInvalidDeed ?tyInvalidDeed ?z_ValueError ?z_bool ?z_int ?z_isinstance ?z_len ?z_min ?z_range ?z_str ?z_tuple ?v_FIGURES ?v_LETTERS ?v_LIMIT ?v_MOST_DEEP ?v_MOST_FIGURES ?v_MOST_SIGNS ?v_TOKEN_SIGNS
    (case a0 => first | k_is | rfl)
    (case l0 => first | k_is | rfl)
    (case c0 => first | k_is | rfl)
    (case k0 => first | k_is | rfl)
    (case a1 => first | k_is | rfl)
    (case l1 => first | k_is | rfl)
    (case c1 => first | k_is | rfl)
    (case k1 => first | k_is | rfl)
    (case a2 => first | k_is | rfl)
    (case l2 => first | k_is | rfl)
    (case c2 => first | k_is | rfl)
    (case k2 => first | k_is | rfl)
    (case a3 => first | k_is | rfl)
    (case l3 => first | k_is | rfl)
    (case c3 => first | k_is | rfl)
    (case k3 => first | k_is | rfl)
    (case a4 => first | k_is | rfl)
    (case l4 => first | k_is | rfl)
    (case c4 => first | k_is | rfl)
    (case k4 => first | k_is | rfl)
    (case a5 => first | k_is | rfl)
    (case l5 => first | k_is | rfl)
    (case c5 => first | k_is | rfl)
    (case k5 => first | k_is | rfl)
    (case a6 => first | k_is | rfl)
    (case l6 => first | k_is | rfl)
    (case c6 => first | k_is | rfl)
    (case k6 => first | k_is | rfl)
    (case a7 => first | k_is | rfl)
    (case l7 => first | k_is | rfl)
    (case c7 => first | k_is | rfl)
    (case k7 => first | k_is | rfl)
    (case a8 => first | k_is | rfl)
    (case l8 => first | k_is | rfl)
    (case c8 => first | k_is | rfl)
    (case k8 => first | k_is | rfl)
    (case a9 => first | k_is | rfl)
    (case l9 => first | k_is | rfl)
    (case c9 => first | k_is | rfl)
    (case k9 => first | k_is | rfl)
    (case a10 => first | k_is | rfl)
    (case l10 => first | k_is | rfl)
    (case c10 => first | k_is | rfl)
    (case k10 => first | k_is | rfl)
    (case a11 => first | k_is | rfl)
    (case l11 => first | k_is | rfl)
    (case c11 => first | k_is | rfl)
    (case k11 => first | k_is | rfl)
    (case a12 => first | k_is | rfl)
    (case l12 => first | k_is | rfl)
    (case c12 => first | k_is | rfl)
    (case k12 => first | k_is | rfl)
    (case a13 => first | k_is | rfl)
    (case l13 => first | k_is | rfl)
    (case c13 => first | k_is | rfl)
    (case k13 => first | k_is | rfl)
    (case a14 => first | k_is | rfl)
    (case l14 => first | k_is | rfl)
    (case c14 => first | k_is | rfl)
    (case k14 => first | k_is | rfl)
    (case a15 => first | k_is | rfl)
    (case l15 => first | k_is | rfl)
    (case c15 => first | k_is | rfl)
    (case k15 => first | k_is | rfl)
    (case a16 => first | k_is | rfl)
    (case l16 => first | k_is | rfl)
    (case c16 => first | k_is | rfl)
    (case k16 => first | k_is | rfl)
    (case a17 => first | k_is | rfl)
    (case l17 => first | k_is | rfl)
    (case c17 => first | k_is | rfl)
    (case k17 => first | k_is | rfl)
    (case a18 => first | k_is | rfl)
    (case l18 => first | k_is | rfl)
    (case c18 => first | k_is | rfl)
    (case k18 => first | k_is | rfl)
    (case a19 => first | k_is | rfl)
    (case l19 => first | k_is | rfl)
    (case c19 => first | k_is | rfl)
    (case k19 => first | k_is | rfl)
    (case a20 => first | k_is | rfl)
    (case l20 => first | k_is | rfl)
    (case c20 => first | k_is | rfl)
    (case k20 => first | k_is | rfl)
    (case a21 => first | k_is | rfl)
    (case l21 => first | k_is | rfl)
    (case c21 => first | k_is | rfl)
    (case k21 => first | k_is | rfl)
    (case a22 => first | k_is | rfl)
    (case l22 => first | k_is | rfl)
    (case c22 => first | k_is | rfl)
    (case k22 => first | k_is | rfl)
    (case a23 => first | k_is | rfl)
    (case l23 => first | k_is | rfl)
    (case c23 => first | k_is | rfl)
    (case k23 => first | k_is | rfl)
    (case aCShopError => first | k_is | rfl)
    (case aCInvalidDeed => first | k_is | rfl)
    (case aCInvalidValue => first | k_is | rfl)
    (case aCInvalidText => first | k_is | rfl)
    (case xLInvalidValue => first | k_is | rfl)
    (case vEInvalidValue => first | rfl | decide +kernel | k_is)
    (case saInvalidValue => first | k_is | rfl)
    (case eCInvalidValue => first | k_is | rfl)
    (case tCInvalidValue => first | k_is | rfl)
    (case kCInvalidValue => first | k_is | rfl)
    (case noInvalidValuegiven => first | k_is | rfl)
    (case iiInvalidValue => first | k_is | rfl)
    (case tiInvalidValue => first | k_is | rfl)
    (case liInvalidValue => first | k_is | rfl)
    (case ciInvalidValue => first | k_is | rfl)
    (case kiInvalidValue => first | k_is | rfl)
    (case xLInvalidText => first | k_is | rfl)
    (case vEInvalidText => first | rfl | decide +kernel | k_is)
    (case saInvalidText => first | k_is | rfl)
    (case eCInvalidText => first | k_is | rfl)
    (case tCInvalidText => first | k_is | rfl)
    (case kCInvalidText => first | k_is | rfl)
    (case noInvalidTexttext => first | k_is | rfl)
    (case noInvalidTextat => first | k_is | rfl)
    (case iiInvalidText => first | k_is | rfl)
    (case tiInvalidText => first | k_is | rfl)
    (case liInvalidText => first | k_is | rfl)
    (case ciInvalidText => first | k_is | rfl)
    (case kiInvalidText => first | k_is | rfl)
    (case ga => first | k_is | rfl)
    (case gg => first | k_is | rfl)
    (case hd => first | k_is | rfl)
    (case hcl => first | k_is | rfl)
    (case hgd => first | k_is | rfl)
    (case htk => first | k_is | rfl)
    (case hmo => first | k_is | rfl)
    (case sCC => first | k_is | rfl)
    (case sVE => first | k_is | rfl)
    (case sShopError => first | k_is | rfl)
    (case icShopError => first | k_is | rfl)
    (case tyShopError => first | k_is | rfl)
    (case sInvalidValue => first | k_is | rfl)
    (case icInvalidValue => first | k_is | rfl)
    (case tyInvalidValue => first | k_is | rfl)
    (case sInvalidDeed => first | k_is | rfl)
    (case icInvalidDeed => first | k_is | rfl)
    (case tyInvalidDeed => first | k_is | rfl)
    (case z_ValueError => first | k_is | rfl)
    (case z_bool => first | k_is | rfl)
    (case z_int => first | k_is | rfl)
    (case z_isinstance => first | k_is | rfl)
    (case z_len => first | k_is | rfl)
    (case z_min => first | k_is | rfl)
    (case z_range => first | k_is | rfl)
    (case z_str => first | k_is | rfl)
    (case z_tuple => first | k_is | rfl)
    (case v_FIGURES => first | k_is | rfl)
    (case v_LETTERS => first | k_is | rfl)
    (case v_LIMIT => first | k_is | rfl)
    (case v_MOST_DEEP => first | k_is | rfl)
    (case v_MOST_FIGURES => first | k_is | rfl)
    (case v_MOST_SIGNS => first | k_is | rfl)
    (case v_TOKEN_SIGNS => first | k_is | rfl)
#print axioms PySem.Challenge.cw_oncecoin_k00_next_signs_of_texts_holds
