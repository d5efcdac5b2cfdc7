import PyProof.Rows.All
import Wide.All
import OpenK.AllK
import Wide.FinOn
import HandS.ForMost
import HandS.Flow
import HandS.IsInst
import HandS.TupAny
import HandS.TupMul
import HandS.Style
import HandS.Deep
import HandS.NoneIn
import HandS.Iter
import KE.GoesEnum
import HandS.Zip
import HandS.Conv
import HandS.More
import HandS.RaiseMore
import HandS.HeadEnd
import HandS.Defaults
import HandS.Head0
import HandS.Head1
import HandS.Head2
import HandS.HeadHook1
import HandS.HeadHook2
import HandS.Strs
import HandS.SortKw
import HandS.Comp
import HandS.DictComp
import KE.KStateDown
import PySem.Challenge.RW_movedchecks_k11_kinds
set_option Elab.async false
set_option linter.all false
set_option maxRecDepth 100000
set_option maxHeartbeats 4000000
/-! Layer Dy, part 1: plain data over the hand layer. -/
namespace Dy
open PySem L2

/-- a plain datum -/
inductive D where
  | non | bl (b : Bool) | int (i : Int) | str (s : Str)
  | lst (xs : List D) | tup (xs : List D)
  | dct (ks : List Key) (vs : List D)
  | ins (C : Addr) (ns : List Str) (vs : List D)
  | scr (ns : List Int)
  | obj (C : Addr)

def tysB : List String := ["int", "str", "bool", "list", "tuple", "dict"]
/-- an own class whose instances are no built-in things -/
structure ObjC (K : PySem.W.Frag) (C : Addr) : Prop where
  cl : Cls K C
  ha : PySem.W.findIn K (.ref C) "__class__" = some (some (.builtin "object.__class__"))
  hn : PySem.W.specialIn K (.builtin "object.__class__") "__get__" = some (some (.builtin "getset_descriptor.__get__"))
  htk : PySem.W.takesIn K (.builtin "object.__class__") = some true
  hm : PySem.W.mroIn K C (.type "object") = some true
  no : ∀ T ∈ tysB, PySem.W.kitOne K (.ref C) (.type T) = some false
mutual
/-- the value v is the datum d in the heap H -/
inductive Rp (K : PySem.W.Frag) (H : Hp) : V → D → Prop
  | non : Rp K H .non .non
  | bl (b : Bool) : Rp K H (.bl b) (.bl b)
  | int (i : Int) : Rp K H (.int i) (.int i)
  | str (x : Str) : Rp K H (.str x) (.str x)
  | lst {a : Addr} {xs : List V} {ds : List D} : H a = some (.lst xs) → RpA K H xs ds → Rp K H (.ref a) (.lst ds)
  | tup {a : Addr} {xs : List V} {ds : List D} : SqT K H a xs → RpA K H xs ds → Rp K H (.ref a) (.tup ds)
  | dct {a : Addr} {kvs : List (Key × V)} {ks : List Key} {xs : List V} {ds : List D} : H a = some (.dK kvs) → kvs.map (·.1) = ks → kvs.map (·.2) = xs → RpA K H xs ds → Rp K H (.ref a) (.dct ks ds)
  | ins {a C dx : Addr} {fs : List (Str × V)} {ns : List Str} {xs : List V} {ds : List D} : H a = some (.ins C dx fs) → fs.map (·.1) = ns → fs.map (·.2) = xs → RpA K H xs ds → Rp K H (.ref a) (.ins C ns ds)
  | scr {a : Addr} {ns : List Int} : SqL K H a (ns.map V.int) → Rp K H (.ref a) (.scr ns)
  | obj {a C dx : Addr} {fs : List (Str × V)} : H a = some (.ins C dx fs) → ObjC K C → Rp K H (.ref a) (.obj C)
inductive RpA (K : PySem.W.Frag) (H : Hp) : List V → List D → Prop
  | nil : RpA K H [] []
  | cons {v : V} {vs : List V} {d : D} {ds : List D} : Rp K H v d → RpA K H vs ds → RpA K H (v :: vs) (d :: ds)
end

theorem same_rd {H H' : Hp} {a : Addr} {u : HO} (e : Same H H') (h : Rd H a u) : Rd H' a u := by
  rcases h with h | ⟨o, h⟩
  · exact Or.inl (e a _ h)
  · exact Or.inr ⟨o, e a _ h⟩
theorem same_l {K : PySem.W.Frag} {H H' : Hp} {a : Addr} {xs : List V} (e : Same H H') (h : SqL K H a xs) : SqL K H' a xs := by
  rcases h with h | h
  · exact Or.inl (same_rd e h)
  · exact Or.inr h
theorem same_t {K : PySem.W.Frag} {H H' : Hp} {a : Addr} {xs : List V} (e : Same H H') (h : SqT K H a xs) : SqT K H' a xs := by
  rcases h with h | h
  · exact Or.inl (same_rd e h)
  · exact Or.inr h
section
variable {K : PySem.W.Frag} {H H' : Hp}
mutual
theorem Rp.mono (e : Same H H') : ∀ {v : V} {d : D}, Rp K H v d → Rp K H' v d
  | _, _, .non => .non
  | _, _, .bl b => .bl b
  | _, _, .int i => .int i
  | _, _, .str x => .str x
  | _, _, .lst h a => .lst (e _ _ h) (RpA.mono e a)
  | _, _, .tup h a => .tup (same_t e h) (RpA.mono e a)
  | _, _, .dct h k x a => .dct (e _ _ h) k x (RpA.mono e a)
  | _, _, .ins h k x a => .ins (e _ _ h) k x (RpA.mono e a)
  | _, _, .scr h => .scr (same_l e h)
  | _, _, .obj h c => .obj (e _ _ h) c
theorem RpA.mono (e : Same H H') : ∀ {vs : List V} {ds : List D}, RpA K H vs ds → RpA K H' vs ds
  | _, _, .nil => .nil
  | _, _, .cons h t => .cons (Rp.mono e h) (RpA.mono e t)
end
theorem RpA.length : ∀ {vs : List V} {ds : List D}, RpA K H vs ds → vs.length = ds.length
  | _, _, .nil => rfl
  | _, _, .cons _ t => congrArg (· + 1) (RpA.length t)
theorem RpA.get : ∀ {vs : List V} {ds : List D} {i : Nat} {d : D}, RpA K H vs ds → ds[i]? = some d → ∃ v, vs[i]? = some v ∧ Rp K H v d
  | _, _, _, _, .nil, e => by simp at e
  | _, _, 0, _, .cons r _, e => by simp at e; subst e; exact ⟨_, rfl, r⟩
  | _, _, i + 1, d, .cons _ t, e => by
    obtain ⟨u, h1, h2⟩ := RpA.get (i := i) (d := d) t (by simpa using e)
    exact ⟨u, by simpa using h1, h2⟩
theorem RpA.getV : ∀ {vs : List V} {ds : List D} {i : Nat} {v : V}, RpA K H vs ds → vs[i]? = some v → ∃ d, ds[i]? = some d ∧ Rp K H v d
  | _, _, _, _, .nil, e => by simp at e
  | _, _, 0, _, .cons r _, e => by simp at e; subst e; exact ⟨_, rfl, r⟩
  | _, _, i + 1, d, .cons _ t, e => by
    obtain ⟨u, h1, h2⟩ := RpA.getV (i := i) (v := d) t (by simpa using e)
    exact ⟨u, by simpa using h1, h2⟩
theorem RpA.append : ∀ {vs us : List V} {ds es : List D}, RpA K H vs ds → RpA K H us es → RpA K H (vs ++ us) (ds ++ es)
  | _, _, _, _, .nil, s => s
  | _, _, _, _, .cons r t, s => .cons r (RpA.append t s)
theorem RpA.take : ∀ {vs : List V} {ds : List D} (n : Nat), RpA K H vs ds → RpA K H (vs.take n) (ds.take n)
  | _, _, 0, _ => .nil
  | _, _, _ + 1, .nil => .nil
  | _, _, n + 1, .cons r t => .cons r (RpA.take n t)
theorem RpA.drop : ∀ {vs : List V} {ds : List D} (n : Nat), RpA K H vs ds → RpA K H (vs.drop n) (ds.drop n)
  | _, _, 0, r => r
  | _, _, _ + 1, .nil => .nil
  | _, _, n + 1, .cons _ t => RpA.drop n t
theorem RpA.set {v : V} {d : D} (r : Rp K H v d) : ∀ {vs : List V} {ds : List D} (i : Nat), RpA K H vs ds → RpA K H (vs.set i v) (ds.set i d)
  | _, _, _, .nil => .nil
  | _, _, 0, .cons _ t => .cons r t
  | _, _, i + 1, .cons q t => .cons q (RpA.set r i t)
theorem RpA.eraseIdx : ∀ {vs : List V} {ds : List D} (i : Nat), RpA K H vs ds → RpA K H (vs.eraseIdx i) (ds.eraseIdx i)
  | _, _, _, .nil => .nil
  | _, _, 0, .cons _ t => t
  | _, _, i + 1, .cons q t => .cons q (RpA.eraseIdx i t)
end

/-! ### slots, the store of mutable things, results -/
/-- a slot's content: a datum, or a handle of a mutable thing -/
inductive SV where
  | dt (d : D) | mu (k : Nat)
/-- a mutable thing -/
inductive MO where
  | l (xs : List SV) | d (ks : List Key) (vs : List SV) | i (C : Addr) (ns : List Str) (vs : List D)
abbrev MS := List MO
/-- a result: a slot's content, a fresh list, a fresh dict -/
inductive R where
  | sv (s : SV) | fr (xs : List D) | fd (ks : List Key) (vs : List D)
abbrev Env := List (Option SV)
abbrev EM (α : Type) := Env → MS → Option (α × MS)
def R.toSV : R → SV
  | .sv s => s
  | .fr xs => .dt (.lst xs)
  | .fd ks vs => .dt (.dct ks vs)

def SVr (K : PySem.W.Frag) (Hk : Hp) (ls : List Addr) (n : Nat) (v : V) : SV → Prop
  | .dt d => Rp K Hk v d
  | .mu k => k < n ∧ ∃ l, ls[k]? = some l ∧ v = .ref l
inductive SVs (K : PySem.W.Frag) (Hk : Hp) (ls : List Addr) (n : Nat) : List V → List SV → Prop
  | nil : SVs K Hk ls n [] []
  | cons {v : V} {vs : List V} {s : SV} {ss : List SV} : SVr K Hk ls n v s → SVs K Hk ls n vs ss → SVs K Hk ls n (v :: vs) (s :: ss)
def MOr (K : PySem.W.Frag) (Hk H : Hp) (ls : List Addr) (k : Nat) (l : Addr) : MO → Prop
  | .l xs => ∃ vs, H l = some (.lst vs) ∧ SVs K Hk ls k vs xs
  | .d ks xs => ∃ kvs : List (Key × V), H l = some (.dK kvs) ∧ kvs.map (·.1) = ks ∧ SVs K Hk ls k (kvs.map (·.2)) xs
  | .i C ns xs => ∃ (dx : Addr) (fs : List (Str × V)), H l = some (.ins C dx fs) ∧ fs.map (·.1) = ns ∧ RpA K Hk (fs.map (·.2)) xs
structure World (K : PySem.W.Frag) (Hk H : Hp) (M : MS) (ls : List Addr) : Prop where
  sub : Same Hk H
  len : M.length = ls.length
  nd : ls.Nodup
  dj : ∀ l ∈ ls, Hk l = none
  ms : ∀ (k : Nat) (o : MO), M[k]? = some o → ∃ l, ls[k]? = some l ∧ MOr K Hk H ls k l o
/-- what an expression's run may change -/
structure Ext (ls : List Addr) (Hk H Hk' H' : Hp) : Prop where
  kk : Same Hk Hk'
  fr : ∀ a o, H a = some o → a ∉ ls → H' a = some o
  gr : ∀ a, Hk' a ≠ none → Hk a ≠ none ∨ H a = none
  st : ∀ a, H a ≠ none → H' a ≠ none
def EnvR (K : PySem.W.Frag) (Hk : Hp) (ls : List Addr) (σ : St) (ρ : Env) : Prop :=
  ρ.length = σ.length ∧ ∀ (i : Nat) (s : SV), ρ[i]? = some (some s) → ∃ v, σ[i]? = some (some v) ∧ SVr K Hk ls ls.length v s
/-- a result, from the heap H0 on -/
def Rr (K : PySem.W.Frag) (H0 Hk H : Hp) (ls : List Addr) (v : V) : R → Prop
  | .sv s => SVr K Hk ls ls.length v s
  | .fr ds => ∃ l vs, v = .ref l ∧ H0 l = none ∧ Hk l = none ∧ l ∉ ls ∧ H l = some (.lst vs) ∧ RpA K Hk vs ds
  | .fd ks ds => ∃ l kvs, v = .ref l ∧ H0 l = none ∧ Hk l = none ∧ l ∉ ls ∧ H l = some (.dK kvs) ∧ kvs.map (·.1) = ks ∧ RpA K Hk (kvs.map (·.2)) ds

section
variable {K : PySem.W.Frag} {Hk H Hk' H' Hk2 H2 : Hp} {M M' : MS} {ls : List Addr}
theorem Ext.refl (ls : List Addr) (Hk H : Hp) : Ext ls Hk H Hk H := ⟨fun _ _ h => h, fun _ _ h _ => h, fun _ h => .inl h, fun _ h => h⟩
theorem Ext.trans (a : Ext ls Hk H Hk' H') (b : Ext ls Hk' H' Hk2 H2) : Ext ls Hk H Hk2 H2 where
  kk := fun x o h => b.kk x o (a.kk x o h)
  fr := fun x o h hn => b.fr x o (a.fr x o h hn) hn
  gr := fun x h => by
    rcases b.gr x h with h | h
    · exact a.gr x h
    · right
      cases e : H x with
      | none => rfl
      | some o => exact absurd h (a.st x (by rw [e]; simp))
  st := fun x h => b.st x (a.st x h)
theorem SVr.mono {n : Nat} {v : V} {s : SV} (e : Same Hk Hk') (h : SVr K Hk ls n v s) : SVr K Hk' ls n v s := by
  cases s with
  | dt d => exact Rp.mono e h
  | mu k => exact h
theorem SVs.mono {n : Nat} (e : Same Hk Hk') : ∀ {vs : List V} {ss : List SV}, SVs K Hk ls n vs ss → SVs K Hk' ls n vs ss
  | _, _, .nil => .nil
  | _, _, .cons h t => .cons (h.mono e) (SVs.mono e t)
theorem SVs.length {n : Nat} : ∀ {vs : List V} {ss : List SV}, SVs K Hk ls n vs ss → vs.length = ss.length
  | _, _, .nil => rfl
  | _, _, .cons _ t => congrArg (· + 1) (SVs.length t)
theorem SVs.get {n : Nat} : ∀ {vs : List V} {ss : List SV} {i : Nat} {s : SV}, SVs K Hk ls n vs ss → ss[i]? = some s → ∃ v, vs[i]? = some v ∧ SVr K Hk ls n v s
  | _, _, _, _, .nil, e => by simp at e
  | _, _, 0, _, .cons r _, e => by simp at e; subst e; exact ⟨_, rfl, r⟩
  | _, _, i + 1, d, .cons _ t, e => by
    obtain ⟨u, h1, h2⟩ := SVs.get (i := i) (s := d) t (by simpa using e)
    exact ⟨u, by simpa using h1, h2⟩
theorem SVs.append {n : Nat} : ∀ {vs us : List V} {ss ts : List SV}, SVs K Hk ls n vs ss → SVs K Hk ls n us ts → SVs K Hk ls n (vs ++ us) (ss ++ ts)
  | _, _, _, _, .nil, s => s
  | _, _, _, _, .cons r t, s => .cons r (SVs.append t s)
theorem SVs.set {n : Nat} {v : V} {d : SV} (r : SVr K Hk ls n v d) : ∀ {vs : List V} {ds : List SV} (i : Nat), SVs K Hk ls n vs ds → SVs K Hk ls n (vs.set i v) (ds.set i d)
  | _, _, _, .nil => .nil
  | _, _, 0, .cons _ t => .cons r t
  | _, _, i + 1, .cons q t => .cons q (SVs.set r i t)
theorem SVs.eraseIdx {n : Nat} : ∀ {vs : List V} {ds : List SV} (i : Nat), SVs K Hk ls n vs ds → SVs K Hk ls n (vs.eraseIdx i) (ds.eraseIdx i)
  | _, _, _, .nil => .nil
  | _, _, 0, .cons _ t => t
  | _, _, i + 1, .cons q t => .cons q (SVs.eraseIdx i t)
theorem SVs.dropLast {n : Nat} : ∀ {vs : List V} {ds : List SV}, SVs K Hk ls n vs ds → SVs K Hk ls n vs.dropLast ds.dropLast
  | _, _, .nil => .nil
  | _, _, .cons r .nil => .nil
  | _, _, .cons r (.cons q t) => .cons r (SVs.dropLast (.cons q t))
theorem SVs.ofA {n : Nat} : ∀ {vs : List V} {ds : List D}, RpA K Hk vs ds → SVs K Hk ls n vs (ds.map .dt)
  | _, _, .nil => .nil
  | _, _, .cons r t => .cons r (SVs.ofA t)
/-- all items data -/
def allD : List SV → Option (List D)
  | [] => some []
  | .dt d :: r => match allD r with
    | some ds => some (d :: ds)
    | none => none
  | .mu _ :: _ => none
theorem allD_map (ds : List D) : allD (ds.map .dt) = some ds := by
  induction ds with
  | nil => rfl
  | cons d r ih => simp [allD, ih]
theorem SVs.toA {n : Nat} : ∀ {vs : List V} {ss : List SV} {ds : List D}, SVs K Hk ls n vs ss → allD ss = some ds → RpA K Hk vs ds
  | _, _, _, .nil, e => by cases e; exact .nil
  | _, _ :: ss, _, .cons (s := s) r t, e => by
    cases s with
    | mu k => cases e
    | dt d =>
      unfold allD at e
      cases h : allD ss with
      | none => rw [h] at e; cases e
      | some es =>
        rw [h] at e
        cases e
        exact .cons r (SVs.toA t h)
theorem EnvR.mono {σ : St} {ρ : Env} (e : Same Hk Hk') (h : EnvR K Hk ls σ ρ) : EnvR K Hk' ls σ ρ :=
  ⟨h.1, fun i s q => let ⟨v, a, b⟩ := h.2 i s q; ⟨v, a, b.mono e⟩⟩
theorem same_upd {l : Addr} {o : HO} (h : Hk l = none) : Same Hk (upd Hk l o) := fun b u e => by
  rw [upd_ne (ne_of_none e h)]
  exact e
theorem MOr.mono {k : Nat} {l : Addr} {o : MO} (e : Same Hk Hk') (h : MOr K Hk H ls k l o) : MOr K Hk' H ls k l o := by
  cases o with
  | l xs => obtain ⟨vs, a, b⟩ := h; exact ⟨vs, a, b.mono e⟩
  | d ks xs => obtain ⟨vs, a, b, c⟩ := h; exact ⟨vs, a, b, c.mono e⟩
  | i C ns xs => obtain ⟨dx, fs, a, b, c⟩ := h; exact ⟨dx, fs, a, b, RpA.mono e c⟩
/-- a thing that is known to nobody else is frozen -/
theorem World.freeze {l : Addr} {o : HO} (w : World K Hk H M ls) (hl : l ∉ ls) (h : H l = some o) (hn : Hk l = none) : World K (upd Hk l o) H M ls where
  sub := fun b u e => by
    by_cases hb : b = l
    · subst hb; rw [upd_same] at e; cases e; exact h
    · rw [upd_ne hb] at e; exact w.sub b u e
  len := w.len
  nd := w.nd
  dj := fun b hb => by
    have nb : b ≠ l := fun z => hl (z ▸ hb)
    rw [upd_ne nb]; exact w.dj b hb
  ms := fun k o e => let ⟨l, a, b⟩ := w.ms k o e; ⟨l, a, b.mono (same_upd hn)⟩
theorem Ext.freeze {H0 Hk0 : Hp} {l : Addr} {o : HO} (x : Ext ls Hk0 H0 Hk H) (h0 : H0 l = none) (hn : Hk l = none) : Ext ls Hk0 H0 (upd Hk l o) H where
  kk := fun b u e => same_upd hn b u (x.kk b u e)
  fr := x.fr
  gr := fun a h => by
    by_cases hb : a = l
    · subst hb; exact .inr h0
    · rw [upd_ne hb] at h; exact x.gr a h
  st := x.st
/-- a result becomes a slot's content -/
theorem Rr.freeze {H0 Hk0 : Hp} {v : V} {r : R} (w : World K Hk H M ls) (x : Ext ls Hk0 H0 Hk H) (h : Rr K H0 Hk H ls v r) :
    ∃ Hk', World K Hk' H M ls ∧ Ext ls Hk0 H0 Hk' H ∧ SVr K Hk' ls ls.length v r.toSV := by
  cases r with
  | sv s => exact ⟨Hk, w, x, h⟩
  | fr ds =>
    obtain ⟨l, vs, rfl, h0, hn, hl, hh, ha⟩ := h
    exact ⟨upd Hk l (.lst vs), w.freeze hl hh hn, x.freeze h0 hn, Rp.lst upd_same (RpA.mono (same_upd hn) ha)⟩
  | fd ks ds =>
    obtain ⟨l, kvs, rfl, h0, hn, hl, hh, hk, ha⟩ := h
    exact ⟨upd Hk l (.dK kvs), w.freeze hl hh hn, x.freeze h0 hn, Rp.dct upd_same hk rfl (RpA.mono (same_upd hn) ha)⟩
end

/-! ### the readings -/
def Res (K : PySem.W.Frag) (ls : List Addr) (Hk H : Hp) (r : R) (M' : MS) (Q : VK) : Prop :=
  ∀ v Hk' H', World K Hk' H' M' ls → Ext ls Hk H Hk' H' → Rr K H Hk' H' ls v r → Q v H'
def ResV (K : PySem.W.Frag) (ls : List Addr) (Hk H : Hp) (s : SV) (M' : MS) (Q : VK) : Prop :=
  ∀ v Hk' H', World K Hk' H' M' ls → Ext ls Hk H Hk' H' → SVr K Hk' ls ls.length v s → Q v H'
def tM (K : PySem.W.Frag) (m : EM R) : TE := fun σ H Q => ∃ Hk ls ρ M r M', World K Hk H M ls ∧ EnvR K Hk ls σ ρ ∧ m ρ M = some (r, M') ∧ Res K ls Hk H r M' Q
def tV (K : PySem.W.Frag) (m : EM SV) : TE := fun σ H Q => ∃ Hk ls ρ M r M', World K Hk H M ls ∧ EnvR K Hk ls σ ρ ∧ m ρ M = some (r, M') ∧ ResV K ls Hk H r M' Q
def tA (K : PySem.W.Frag) (m : EM (List SV)) : TA := fun σ H Q => ∃ Hk ls ρ M r M', World K Hk H M ls ∧ EnvR K Hk ls σ ρ ∧ m ρ M = some (r, M') ∧
  ∀ vs Hk' H', World K Hk' H' M' ls → Ext ls Hk H Hk' H' → SVs K Hk' ls ls.length vs r → Q vs H'
def tT (K : PySem.W.Frag) (m : EM Bool) : TT := fun σ H Q => ∃ Hk ls ρ M r M', World K Hk H M ls ∧ EnvR K Hk ls σ ρ ∧ m ρ M = some (r, M') ∧
  ∀ Hk' H', World K Hk' H' M' ls → Ext ls Hk H Hk' H' → Q r H'
abbrev PM (X : Cx) (e : Expr) (m : EM R) : Prop := PE X e (tM X.K m)
abbrev PV (X : Cx) (e : Expr) (m : EM SV) : Prop := PE X e (tV X.K m)
abbrev PAm (X : Cx) (es : List Expr) (m : EM (List SV)) : Prop := PA X es (tA X.K m)
abbrev PTm (X : Cx) (e : Expr) (m : EM Bool) : Prop := PT X e (tT X.K m)
theorem PE.imp {X : Cx} {e : Expr} {t u : TE} (h : PE X e t) (i : ∀ σ H Q, u σ H Q → t σ H Q) : PE X e u := ⟨fun pins s σ H Q I q => h.run pins s σ H Q I (i σ H Q q)⟩
theorem PT.imp {X : Cx} {e : Expr} {t u : TT} (h : PT X e t) (i : ∀ σ H Q, u σ H Q → t σ H Q) : PT X e u := ⟨fun pins s σ H Q I q => h.run pins s σ H Q I (i σ H Q q)⟩
theorem PA.imp {X : Cx} {e : List Expr} {t u : TA} (h : PA X e t) (i : ∀ σ H Q, u σ H Q → t σ H Q) : PA X e u := ⟨fun pos pins s σ H Q I q => h.run pos pins s σ H Q I (i σ H Q q)⟩
theorem PS.imp {X : Cx} {e : Stmt} {t u : TS} (h : PS X e t) (i : ∀ D σ H, u D σ H → t D σ H) : PS X e u := ⟨fun pins s σ H D I q => h.run pins s σ H D I (i D σ H q)⟩
theorem PSs.imp {X : Cx} {e : List Stmt} {t u : TS} (h : PSs X e t) (i : ∀ D σ H, u D σ H → t D σ H) : PSs X e u := ⟨fun pins s σ H D I q => h.run pins s σ H D I (i D σ H q)⟩

/-! ### mirrors' combinators -/
def EM.ret {α : Type} (a : α) : EM α := fun _ M => some (a, M)
def EM.seq {α β : Type} (m : EM α) (f : α → EM β) : EM β := fun ρ M => match m ρ M with
  | some (a, M') => f a ρ M'
  | none => none
/-- a result taken as a slot's content -/
def fz (m : EM R) : EM SV := m.seq fun r => EM.ret r.toSV
def sv (m : EM SV) : EM R := m.seq fun s => EM.ret (.sv s)
theorem seq_some {α β : Type} {m : EM α} {f : α → EM β} {ρ : Env} {M : MS} {z : β × MS} (h : m.seq f ρ M = some z) : ∃ a M', m ρ M = some (a, M') ∧ f a ρ M' = some z := by
  unfold EM.seq at h
  cases e : m ρ M with
  | none => rw [e] at h; cases h
  | some p =>
    obtain ⟨a, M'⟩ := p
    rw [e] at h
    exact ⟨a, M', rfl, h⟩
theorem PM.v {X : Cx} {e : Expr} {m : EM R} (h : PM X e m) : PV X e (fz m) := PE.imp h fun σ H Q ⟨Hk, ls, ρ, M, r, M', w, en, hm, q⟩ => by
  obtain ⟨a, M1, h1, h2⟩ := seq_some hm
  cases h2
  refine ⟨Hk, ls, ρ, M, a, _, w, en, h1, fun v Hk1 H1 w1 x1 r1 => ?_⟩
  obtain ⟨Hk2, w2, x2, s2⟩ := r1.freeze w1 x1
  exact q v Hk2 H1 w2 x2 s2
theorem PV.m {X : Cx} {e : Expr} {m : EM SV} (h : PV X e m) : PM X e (sv m) := PE.imp h fun σ H Q ⟨Hk, ls, ρ, M, r, M', w, en, hm, q⟩ => by
  obtain ⟨a, M1, h1, h2⟩ := seq_some hm
  cases h2
  exact ⟨Hk, ls, ρ, M, a, _, w, en, h1, fun v Hk1 H1 w1 x1 r1 => q v Hk1 H1 w1 x1 r1⟩

/-! ### names, constants -/
def eVar (i : Nat) : EM R := fun ρ M => match ρ[i]? with
  | some (some s) => some (.sv s, M)
  | _ => none
def eC (d : D) : EM R := EM.ret (.sv (.dt d))
section
variable {X : Cx} {a b c e : Expr} {es : List Expr} {ma mb mc m : EM R} {pos : Pos}
theorem eVar_some {i : Nat} {ρ : Env} {M : MS} {z : R × MS} (h : eVar i ρ M = some z) : ∃ s, ρ[i]? = some (some s) ∧ z = (.sv s, M) := by
  unfold eVar at h
  split at h
  · rename_i s hs
    cases h
    exact ⟨s, hs, rfl⟩
  · cases h
theorem pm_var {i : Nat} {e : Expr} (h : PE X e (tVar i)) : PM X e (eVar i) := PE.imp h fun σ H Q ⟨Hk, ls, ρ, M, r, M', w, en, hm, q⟩ => by
  obtain ⟨s, hs, e⟩ := eVar_some hm
  cases e
  obtain ⟨v, hv, hr⟩ := en.2 i s hs
  exact ⟨v, hv, q v Hk H w (Ext.refl _ _ _) hr⟩
theorem pm_const {v : V} {d : D} (h : PE X e (tC v)) (hr : ∀ H, Rp X.K H v d) : PM X e (eC d) := PE.imp h fun σ H Q ⟨Hk, ls, ρ, M, r, M', w, en, hm, q⟩ => by
  cases hm
  exact q v Hk H w (Ext.refl _ _ _) (hr Hk)
theorem pm_int {i : Int} {j} : PM X (.Constant (.int i) j pos) (eC (.int i)) := pm_const pe_int fun _ => .int i
theorem pm_bl {i : Bool} {j} : PM X (.Constant (.bool i) j pos) (eC (.bl i)) := pm_const pe_bl fun _ => .bl i
theorem pm_non {j} : PM X (.Constant .none j pos) (eC .non) := pm_const pe_non fun _ => .non
theorem pm_str {x : Str} {j} : PM X (.Constant (.str x) j pos) (eC (.str x)) := pm_const pe_str fun _ => .str x

/-! ### argument lists -/
def eNil : EM (List SV) := EM.ret []
def eCons (m : EM R) (ms : EM (List SV)) : EM (List SV) := (fz m).seq fun s => ms.seq fun ss => EM.ret (s :: ss)
theorem pam_nil : PAm X [] eNil := PA.imp pa_nil fun σ H Q ⟨Hk, ls, ρ, M, r, M', w, en, hm, q⟩ => by
  cases hm
  exact q [] Hk H w (Ext.refl _ _ _) .nil
theorem pam_cons {ms : EM (List SV)} (h : PM X e m) (hs : PAm X es ms) (hst : starEach (e :: es) X.env = (false, eval e X.env) :: starEach es X.env := by rfl) : PAm X (e :: es) (eCons m ms) :=
  PA.imp (pa_cons (PM.v h) hs hst) fun σ H Q ⟨Hk, ls, ρ, M, r, M', w, en, hm, q⟩ => by
  obtain ⟨s, M1, h1, h2⟩ := seq_some hm
  obtain ⟨ss, M2, h3, h4⟩ := seq_some h2
  cases h4
  refine ⟨Hk, ls, ρ, M, s, M1, w, en, h1, fun v Hk1 H1 w1 x1 r1 => ?_⟩
  refine ⟨Hk1, ls, ρ, M1, ss, _, w1, en.mono x1.kk, h3, fun vs Hk2 H2 w2 x2 r2 => ?_⟩
  exact q (v :: vs) Hk2 H2 w2 (x1.trans x2) (.cons (r1.mono x2.kk) r2)

/-! ### two operands -/
/-- an operation by values keeps to a function of slots' contents -/
def OpD (K : PySem.W.Frag) (r : R2) (g : MS → SV → SV → Option R) : Prop := ∀ (Hk H : Hp) (M : MS) (ls : List Addr) (x y : V) (s t : SV) (z : R) (Q : VK), World K Hk H M ls → SVr K Hk ls ls.length x s → SVr K Hk ls ls.length y t → g M s t = some z → Res K ls Hk H z M Q → r x y H Q
def eBin (g : MS → SV → SV → Option R) (ma mb : EM R) : EM R := (fz ma).seq fun s => (fz mb).seq fun t => fun _ M => match g M s t with
  | some z => some (z, M)
  | none => none
theorem ebin_go {r : R2} {g : MS → SV → SV → Option R} (hd : OpD X.K r g) : ∀ σ H Q, tM X.K (eBin g ma mb) σ H Q → tOp r (tV X.K (fz ma)) (tV X.K (fz mb)) σ H Q := fun σ H Q ⟨Hk, ls, ρ, M, z, M', w, en, hm, q⟩ => by
  obtain ⟨s, M1, h1, h2⟩ := seq_some hm
  obtain ⟨t, M2, h3, h4⟩ := seq_some h2
  refine ⟨Hk, ls, ρ, M, s, M1, w, en, h1, fun v Hk1 H1 w1 x1 r1 => ?_⟩
  refine ⟨Hk1, ls, ρ, M1, t, M2, w1, en.mono x1.kk, h3, fun u Hk2 H2 w2 x2 r2 => ?_⟩
  cases hg : g M2 s t with
  | none => rw [hg] at h4; cases h4
  | some z' =>
    rw [hg] at h4
    cases h4
    refine hd Hk2 H2 _ ls v u s t _ Q w2 (r1.mono x2.kk) r2 hg fun y Hk3 H3 w3 x3 r3 => ?_
    refine q y Hk3 H3 w3 ((x1.trans x2).trans x3) ?_
    exact rr_back (x1.trans x2) r3
where
  rr_back {K : PySem.W.Frag} {ls : List Addr} {H0 Hk0 H1 Hk1 H2 Hk2 : Hp} {v : V} {r : R} (x : Ext ls Hk0 H0 Hk1 H1) (h : Rr K H1 Hk2 H2 ls v r) : Rr K H0 Hk2 H2 ls v r := by
    have back : ∀ l, H1 l = none → H0 l = none := fun l h => by
      cases e : H0 l with
      | none => rfl
      | some o => exact absurd h (x.st l (by rw [e]; simp))
    cases r with
    | sv s => exact h
    | fr ds => obtain ⟨l, vs, a, b, c⟩ := h; exact ⟨l, vs, a, back l b, c⟩
    | fd ks ds => obtain ⟨l, vs, a, b, c⟩ := h; exact ⟨l, vs, a, back l b, c⟩
theorem pm_bin {op : Operator} {r : R2} {g : MS → SV → SV → Option R} (ho : OpR X (binaryOp op) r) (hd : OpD X.K r g) (ha : PM X a ma) (hb : PM X b mb) : PM X (.BinOp a op b pos) (eBin g ma mb) :=
  PE.imp (pe_op ho (PM.v ha) (PM.v hb)) (ebin_go hd)
theorem pm_cmp {op : CmpOp} {r : R2} {g : MS → SV → SV → Option R} (ho : OpR X (compareOp op) r) (hd : OpD X.K r g) (ha : PM X a ma) (hb : PM X b mb) (hm : behindInMarks op b = false := by first | exact nomark _ | rfl) : PM X (.Compare a [op] [b] pos) (eBin g ma mb) :=
  PE.imp (pe_cmpR ho (PM.v ha) (PM.v hb) hm) (ebin_go hd)
theorem pm_ix {r : R2} {g : MS → SV → SV → Option R} (ho : IxR X r) (hd : OpD X.K r g) (ha : PM X a ma) (hb : PM X b mb) (hs : PlainIx b := by exact fun _ _ => rfl) : PM X (.Subscript a b pos) (eBin g ma mb) :=
  PE.imp (pe_ix ho (PM.v ha) (PM.v hb) hs) (ebin_go hd)
end
end Dy

set_option Elab.async false
set_option linter.all false
set_option maxRecDepth 100000
set_option maxHeartbeats 4000000
namespace Dy
open PySem L2

/-! ### looking at a slot's content -/
def peeks (f : SV → Option D) : List SV → Option (List D)
  | [] => some []
  | s :: r => match f s, peeks f r with
    | some d, some ds => some (d :: ds)
    | _, _ => none
def peekN : Nat → MS → SV → Option D
  | _, _, .dt d => some d
  | 0, _, .mu _ => none
  | n + 1, M, .mu k => match M[k]? with
    | some (.l xs) => match peeks (peekN n M) xs with
      | some ds => some (.lst ds)
      | none => none
    | some (.d ks vs) => match peeks (peekN n M) vs with
      | some ds => some (.dct ks ds)
      | none => none
    | _ => none
abbrev peek : MS → SV → Option D := peekN 3
theorem peek_dt (n : Nat) (M : MS) (d : D) : peekN n M (.dt d) = some d := by cases n <;> rfl
section
variable {K : PySem.W.Frag} {Hk H : Hp} {M : MS} {ls : List Addr}
theorem SVr.up {n m : Nat} {v : V} {s : SV} (h : n ≤ m) (r : SVr K Hk ls n v s) : SVr K Hk ls m v s := by
  cases s with
  | dt d => exact r
  | mu k => exact ⟨Nat.lt_of_lt_of_le r.1 h, r.2⟩
theorem SVs.up {n m : Nat} (h : n ≤ m) : ∀ {vs : List V} {ss : List SV}, SVs K Hk ls n vs ss → SVs K Hk ls m vs ss
  | _, _, .nil => .nil
  | _, _, .cons r t => .cons (r.up h) (SVs.up h t)
theorem peeks_ok {n : Nat} {f : SV → Option D} (hf : ∀ v s d, SVr K Hk ls n v s → f s = some d → Rp K H v d) : ∀ {vs : List V} {ss : List SV} {ds : List D}, SVs K Hk ls n vs ss → peeks f ss = some ds → RpA K H vs ds
  | _, _, _, .nil, e => by cases e; exact .nil
  | _, s :: ss, _, .cons r t, e => by
    unfold peeks at e
    cases h1 : f s with
    | none => rw [h1] at e; cases e
    | some d =>
      cases h2 : peeks f ss with
      | none => rw [h1, h2] at e; cases e
      | some es =>
        rw [h1, h2] at e
        cases e
        exact .cons (hf _ _ _ r h1) (peeks_ok hf t h2)
theorem peek_ok (w : World K Hk H M ls) : ∀ (n m : Nat) (v : V) (s : SV) (d : D), SVr K Hk ls m v s → peekN n M s = some d → Rp K H v d := by
  intro n
  induction n with
  | zero =>
    intro m v s d r e
    cases s with
    | dt d' => cases e; exact Rp.mono w.sub r
    | mu k => cases e
  | succ n ih =>
    intro m v s d r e
    cases s with
    | dt d' => cases e; exact Rp.mono w.sub r
    | mu k =>
      obtain ⟨_, l, hl, rfl⟩ := r
      unfold peekN at e
      cases hM : M[k]? with
      | none => rw [hM] at e; cases e
      | some o =>
        rw [hM] at e
        obtain ⟨l', hl', ho⟩ := w.ms k o hM
        rw [hl] at hl'
        cases hl'
        cases o with
        | l xs =>
          obtain ⟨vs, hH, hs⟩ := ho
          simp only at e
          cases hp : peeks (peekN n M) xs with
          | none => rw [hp] at e; cases e
          | some ds =>
            rw [hp] at e
            cases e
            exact .lst hH (peeks_ok (fun v s d => ih k v s d) hs hp)
        | d ks xs =>
          obtain ⟨kvs, hH, hk, hs⟩ := ho
          simp only at e
          cases hp : peeks (peekN n M) xs with
          | none => rw [hp] at e; cases e
          | some ds =>
            rw [hp] at e
            cases e
            exact .dct hH hk rfl (peeks_ok (fun v s d => ih k v s d) hs hp)
        | i C ns xs => cases e

/-- the items of a list, of a tuple -/
def listOf (M : MS) : SV → Option (List SV)
  | .dt (.lst ds) => some (ds.map .dt)
  | .mu k => match M[k]? with
    | some (.l xs) => some xs
    | _ => none
  | _ => none
def itemsOf (M : MS) : SV → Option (List SV)
  | .dt (.tup ds) => some (ds.map .dt)
  | s => listOf M s
theorem listOf_ok {v : V} {s : SV} {xs : List SV} (w : World K Hk H M ls) (r : SVr K Hk ls ls.length v s) (e : listOf M s = some xs) : ∃ a vs, v = .ref a ∧ H a = some (.lst vs) ∧ SVs K Hk ls ls.length vs xs := by
  cases s with
  | dt d =>
    cases d with
    | lst ds =>
      cases e
      cases r with
      | lst h a => exact ⟨_, _, rfl, w.sub _ _ h, SVs.ofA a⟩
    | _ => cases e
  | mu k =>
    obtain ⟨hk, l, hl, rfl⟩ := r
    unfold listOf at e
    dsimp only at e
    cases hM : M[k]? with
    | none => rw [hM] at e; cases e
    | some o =>
      rw [hM] at e
      obtain ⟨l', hl', ho⟩ := w.ms k o hM
      rw [hl] at hl'
      cases hl'
      cases o with
      | l ys =>
        cases e
        obtain ⟨vs, hH, hs⟩ := ho
        exact ⟨l, vs, rfl, hH, hs.up (Nat.le_of_lt hk)⟩
      | d ks ys => cases e
      | i C ns ys => cases e
theorem itemsOf_ok {v : V} {s : SV} {xs : List SV} (w : World K Hk H M ls) (r : SVr K Hk ls ls.length v s) (e : itemsOf M s = some xs) : ∃ a vs, v = .ref a ∧ (SqL K H a vs ∨ SqT K H a vs) ∧ SVs K Hk ls ls.length vs xs := by
  by_cases ht : ∃ ds, s = .dt (.tup ds)
  · obtain ⟨ds, rfl⟩ := ht
    cases e
    cases r with
    | tup h a => exact ⟨_, _, rfl, .inr (same_t w.sub h), SVs.ofA a⟩
  · have e' : listOf M s = some xs := by
      unfold itemsOf at e
      split at e
      · exact absurd ⟨_, rfl⟩ ht
      · exact e
    obtain ⟨a, vs, h1, h2, h3⟩ := listOf_ok w r e'
    exact ⟨a, vs, h1, .inl (SqL.of h2), h3⟩
end

theorem OpR.or {X : Cx} {f : Value → Value → Sem Value} {r r' : R2} (h : OpR X f r) (h' : OpR X f r') : OpR X f (fun x y H Q => r x y H Q ∨ r' x y H Q) := by
  intro pins s σ H x y v u Q I rx ry q
  rcases q with q | q
  · exact h pins s σ H x y v u Q I rx ry q
  · exact h' pins s σ H x y v u Q I rx ry q
theorem CallR.or {X : Cx} {f : Value} {r r' : List V → Hp → VK → Prop} (h : CallR X f r) (h' : CallR X f r') : CallR X f (fun xs H Q => r xs H Q ∨ r' xs H Q) := by
  intro pins s σ H xs us Q I rx q
  rcases q with q | q
  · exact h pins s σ H xs us Q I rx q
  · exact h' pins s σ H xs us Q I rx q

section
variable {K : PySem.W.Frag} {Hk H : Hp} {M : MS} {ls : List Addr}
/-- the result is a datum that is there already (or flat) -/
theorem Res.dt {d : D} {Q : VK} (w : World K Hk H M ls) (q : Res K ls Hk H (.sv (.dt d)) M Q) {v : V} (r : Rp K Hk v d) : Q v H := q v Hk H w (Ext.refl _ _ _) r
theorem World.upd_new {p : Addr} {o : HO} (w : World K Hk H M ls) (h : H p = none) : World K Hk (upd H p o) M ls where
  sub := fun b u e => by rw [upd_ne (ne_of_none (w.sub b u e) h)]; exact w.sub b u e
  len := w.len
  nd := w.nd
  dj := w.dj
  ms := fun k x e => by
    obtain ⟨l, hl, ho⟩ := w.ms k x e
    refine ⟨l, hl, ?_⟩
    cases x with
    | l xs => obtain ⟨vs, a, b⟩ := ho; exact ⟨vs, by rw [upd_ne (ne_of_none a h)]; exact a, b⟩
    | d ks xs => obtain ⟨vs, a, b, c⟩ := ho; exact ⟨vs, by rw [upd_ne (ne_of_none a h)]; exact a, b, c⟩
    | i C ns xs => obtain ⟨dx, vs, a, b, c⟩ := ho; exact ⟨dx, vs, by rw [upd_ne (ne_of_none a h)]; exact a, b, c⟩
theorem Ext.upd_new {p : Addr} {o : HO} (h : H p = none) : Ext ls Hk H Hk (upd H p o) where
  kk := fun _ _ e => e
  fr := fun a u e _ => by rw [upd_ne (ne_of_none e h)]; exact e
  gr := fun a e => .inl e
  st := fun a e => by
    by_cases z : a = p
    · subst z; exact absurd h e
    · rw [upd_ne z]; exact e
theorem World.fresh {p : Addr} (w : World K Hk H M ls) (h : H p = none) : Hk p = none ∧ p ∉ ls := by
  constructor
  · cases e : Hk p with
    | none => rfl
    | some o => rw [w.sub p o e] at h; cases h
  · intro hp
    obtain ⟨k, hk, e⟩ := List.getElem_of_mem hp
    have hk' : k < M.length := by rw [w.len]; exact hk
    obtain ⟨l, hl, ho⟩ := w.ms k M[k] (by simp [hk'])
    rw [List.getElem?_eq_getElem hk] at hl
    have el : l = p := by rw [← e]; exact (Option.some.inj hl).symm
    subst el
    cases hm : M[k] with
    | l xs => rw [hm] at ho; obtain ⟨vs, a, _⟩ := ho; rw [h] at a; cases a
    | d ks xs => rw [hm] at ho; obtain ⟨vs, a, _⟩ := ho; rw [h] at a; cases a
    | i C ns xs => rw [hm] at ho; obtain ⟨dx, vs, a, _⟩ := ho; rw [h] at a; cases a
/-- a new list -/
theorem Res.newL {ds : List D} {Q : VK} {vs : List V} {p : Addr} (w : World K Hk H M ls) (q : Res K ls Hk H (.fr ds) M Q) (h : H p = none) (r : RpA K Hk vs ds) : Q (.ref p) (upd H p (.lst vs)) :=
  q (.ref p) Hk (upd H p (.lst vs)) (w.upd_new h) (Ext.upd_new h) ⟨p, vs, rfl, h, (w.fresh h).1, (w.fresh h).2, upd_same, r⟩
/-- a new tuple: frozen at once -/
theorem Res.newT {ds : List D} {Q : VK} {vs : List V} {p : Addr} (w : World K Hk H M ls) (q : Res K ls Hk H (.sv (.dt (.tup ds))) M Q) (h : H p = none) (r : RpA K Hk vs ds) : Q (.ref p) (upd H p (.tup vs)) :=
  q (.ref p) (upd Hk p (.tup vs)) (upd H p (.tup vs)) ((w.upd_new h).freeze (w.fresh h).2 upd_same (w.fresh h).1) ((Ext.upd_new h).freeze h (w.fresh h).1)
    (Rp.tup (SqT.of upd_same) (RpA.mono (same_upd (w.fresh h).1) r))
/-- a new empty dict and the like -/
theorem Res.newD {kvs : List (Key × V)} {ks : List Key} {ds : List D} {Q : VK} {p : Addr} (w : World K Hk H M ls) (q : Res K ls Hk H (.fd ks ds) M Q) (h : H p = none) (hk : kvs.map (·.1) = ks) (r : RpA K Hk (kvs.map (·.2)) ds) : Q (.ref p) (upd H p (.dK kvs)) :=
  q (.ref p) Hk (upd H p (.dK kvs)) (w.upd_new h) (Ext.upd_new h) ⟨p, kvs, rfl, h, (w.fresh h).1, (w.fresh h).2, upd_same, hk, r⟩
end

/-! ### operators -/
/-- a list whose items are data -/
def listD (M : MS) (s : SV) : Option (List D) := match listOf M s with
  | some xs => allD xs
  | none => none
theorem listD_ok {K : PySem.W.Frag} {Hk H : Hp} {M : MS} {ls : List Addr} {v : V} {s : SV} {ds : List D} (w : World K Hk H M ls) (r : SVr K Hk ls ls.length v s) (e : listD M s = some ds) : ∃ a vs, v = .ref a ∧ H a = some (.lst vs) ∧ RpA K Hk vs ds := by
  unfold listD at e
  cases h : listOf M s with
  | none => rw [h] at e; cases e
  | some xs =>
    rw [h] at e
    obtain ⟨a, vs, h1, h2, h3⟩ := listOf_ok w r h
    exact ⟨a, vs, h1, h2, h3.toA e⟩
def int2 (f : Int → Int → Option D) (s t : SV) : Option R := match s, t with
  | .dt (.int i), .dt (.int j) => match f i j with
    | some d => some (.sv (.dt d))
    | none => none
  | _, _ => none
theorem int2_some {f : Int → Int → Option D} {s t : SV} {z : R} (h : int2 f s t = some z) : ∃ i j d, s = .dt (.int i) ∧ t = .dt (.int j) ∧ f i j = some d ∧ z = .sv (.dt d) := by
  unfold int2 at h
  split at h
  · split at h
    · cases h; exact ⟨_, _, _, rfl, rfl, by assumption, rfl⟩
    · cases h
  · cases h
theorem Rp.int_inv {K : PySem.W.Frag} {H : Hp} {v : V} {i : Int} (h : Rp K H v (.int i)) : v = .int i := by cases h; rfl
theorem Rp.str_inv {K : PySem.W.Frag} {H : Hp} {v : V} {i : Str} (h : Rp K H v (.str i)) : v = .str i := by cases h; rfl
theorem Rp.bl_inv {K : PySem.W.Frag} {H : Hp} {v : V} {i : Bool} (h : Rp K H v (.bl i)) : v = .bl i := by cases h; rfl
theorem opd_int {K : PySem.W.Frag} {C : Int → Int → Prop} {g : Int → Int → V} {f : Int → Int → Option D} (h : ∀ i j d, f i j = some d → C i j ∧ ∀ H, Rp K H (g i j) d) : OpD K (rI C g) (fun _ s t => int2 f s t) := by
  intro Hk H M ls x y s t z Q w rx ry e q
  obtain ⟨i, j, d, rfl, rfl, hf, rfl⟩ := int2_some e
  obtain ⟨c, r⟩ := h i j d hf
  exact ⟨i, j, Rp.int_inv rx, Rp.int_inv ry, c, q.dt w (r Hk)⟩
theorem opd_int0 {K : PySem.W.Frag} {g : Int → Int → V} {f : Int → Int → Option D} (h : ∀ i j d, f i j = some d → ∀ H, Rp K H (g i j) d) : OpD K (rI0 g) (fun _ s t => int2 f s t) := by
  intro Hk H M ls x y s t z Q w rx ry e q
  obtain ⟨i, j, d, rfl, rfl, hf, rfl⟩ := int2_some e
  exact ⟨i, j, Rp.int_inv rx, Rp.int_inv ry, q.dt w (h i j d hf Hk)⟩
theorem OpD.or {K : PySem.W.Frag} {r r' : R2} {g : MS → SV → SV → Option R} (h : ∀ (Hk H : Hp) (M : MS) (ls : List Addr) (x y : V) (s t : SV) (z : R) (Q : VK), World K Hk H M ls → SVr K Hk ls ls.length x s → SVr K Hk ls ls.length y t → g M s t = some z → Res K ls Hk H z M Q → r x y H Q ∨ r' x y H Q) : OpD K (fun x y H Q => r x y H Q ∨ r' x y H Q) g := h

/-- + -/
def gAdd (M : MS) (s t : SV) : Option R := match s, t with
  | .dt (.int i), .dt (.int j) => some (.sv (.dt (.int (i + j))))
  | .dt (.str x), .dt (.str y) => if x.length + y.length ≤ sizeLine then some (.sv (.dt (.str (x ++ y)))) else none
  | .dt (.tup xs), .dt (.tup ys) => if xs.length + ys.length ≤ sizeLine then some (.sv (.dt (.tup (xs ++ ys)))) else none
  | s, t => match listD M s, listD M t with
    | some xs, some ys => if xs.length + ys.length ≤ sizeLine then some (.fr (xs ++ ys)) else none
    | _, _ => none
def rPlus (K : PySem.W.Frag) : R2 := fun x y H Q => rI0 (fun i j => .int (i + j)) x y H Q ∨ (∃ i j, x = .str i ∧ y = .str j ∧ i.length + j.length ≤ sizeLine ∧ Q (.str (i ++ j)) H) ∨ rCatA K x y H Q ∨ rCat x y H Q
theorem op_plus {X : Cx} : OpR X (binaryOp .Add) (rPlus X.K) := OpR.or op_add (OpR.or op_add_str (OpR.or op_catA op_cat))
theorem opd_plus {K : PySem.W.Frag} : OpD K (rPlus K) gAdd := by
  intro Hk H M ls x y s t z Q w rx ry e q
  unfold gAdd at e
  split at e
  · cases e
    exact .inl ⟨_, _, Rp.int_inv rx, Rp.int_inv ry, q.dt w (.int _)⟩
  · split at e
    · rename_i hz
      cases e
      exact .inr (.inl ⟨_, _, Rp.str_inv rx, Rp.str_inv ry, hz, q.dt w (.str _)⟩)
    · cases e
  · rename_i xs ys
    split at e
    · rename_i hz
      cases e
      refine .inr (.inr (.inl ?_))
      cases rx with
      | tup h1 a1 =>
        cases ry with
        | tup h2 a2 =>
          rename_i a us b vs
          refine ⟨a, b, us, vs, rfl, rfl, same_t w.sub h1, same_t w.sub h2, by rw [a1.length, a2.length]; exact hz, fun e0 => ?_, fun _ e0 => ?_, fun _ _ p hp => ?_⟩
          · subst e0
            cases a1
            exact q.dt w (.tup h2 a2)
          · subst e0
            cases a2
            rw [List.append_nil] at q
            exact q.dt w (.tup h1 a1)
          · exact q.newT w hp (a1.append a2)
    · cases e
  · split at e
    · rename_i xs ys h1 h2
      split at e
      · rename_i hz
        cases e
        obtain ⟨a, us, rfl, ha, ra⟩ := listD_ok w rx h1
        obtain ⟨b, vs, rfl, hb, rb⟩ := listD_ok w ry h2
        exact .inr (.inr (.inr ⟨a, b, us, vs, rfl, rfl, ha, hb, by rw [ra.length, rb.length]; exact hz, fun p hp => q.newL w hp (ra.append rb)⟩))
      · cases e
    · cases e
theorem pm_add {X : Cx} {a b : Expr} {ma mb : EM R} {pos : Pos} (ha : PM X a ma) (hb : PM X b mb) : PM X (.BinOp a .Add b pos) (eBin gAdd ma mb) := pm_bin op_plus opd_plus ha hb

def gSub (_ : MS) (s t : SV) : Option R := int2 (fun i j => some (.int (i - j))) s t
theorem pm_sub {X : Cx} {a b : Expr} {ma mb : EM R} {pos : Pos} (ha : PM X a ma) (hb : PM X b mb) : PM X (.BinOp a .Sub b pos) (eBin gSub ma mb) :=
  pm_bin op_sub (opd_int0 fun i j d e H => by cases e; exact .int _) ha hb
def gMod (_ : MS) (s t : SV) : Option R := int2 (fun i j => if 0 < j then some (.int (i % j)) else none) s t
theorem pm_mod {X : Cx} {a b : Expr} {ma mb : EM R} {pos : Pos} (ha : PM X a ma) (hb : PM X b mb) : PM X (.BinOp a .Mod b pos) (eBin gMod ma mb) :=
  pm_bin op_mod (opd_int fun i j d e => by
    split at e
    · rename_i h; cases e; exact ⟨h, fun _ => .int _⟩
    · cases e) ha hb
def gFdiv (_ : MS) (s t : SV) : Option R := int2 (fun i j => if 0 < j ∧ j < 1073741824 then some (.int (i / j)) else none) s t
theorem pm_fdiv {X : Cx} {a b : Expr} {ma mb : EM R} {pos : Pos} (ha : PM X a ma) (hb : PM X b mb) : PM X (.BinOp a .FloorDiv b pos) (eBin gFdiv ma mb) :=
  pm_bin op_fdiv (opd_int fun i j d e => by
    split at e
    · rename_i h; cases e; exact ⟨h, fun _ => .int _⟩
    · cases e) ha hb
def gPow (_ : MS) (s t : SV) : Option R := int2 (fun i j => if 0 ≤ j ∧ j ≤ 1000000 ∧ i.natAbs < 2 ^ 64 then some (.int (i ^ j.toNat)) else none) s t
theorem pm_pow {X : Cx} {a b : Expr} {ma mb : EM R} {pos : Pos} (ha : PM X a ma) (hb : PM X b mb) : PM X (.BinOp a .Pow b pos) (eBin gPow ma mb) :=
  pm_bin op_pow (opd_int fun i j d e => by
    split at e
    · rename_i h; cases e; exact ⟨h, fun _ => .int _⟩
    · cases e) ha hb
end Dy

set_option Elab.async false
set_option linter.all false
set_option maxRecDepth 100000
set_option maxHeartbeats 4000000
namespace Dy
open PySem L2

/-! ### * -/
def inSmall (i : Int) : Bool := decide (-(2 ^ 64) < i) && decide (i < 2 ^ 64)
def repD (n : Nat) (xs : List D) : List D := (List.replicate n xs).flatten
def gMul (M : MS) (s t : SV) : Option R := match s, t with
  | .dt (.int i), .dt (.int j) => if inSmall i || inSmall j then some (.sv (.dt (.int (i * j)))) else none
  | .dt (.tup xs), .dt (.int k) => if xs ≠ [] ∧ 2 ≤ k ∧ k ≤ 1000 ∧ xs.length ≤ 1000 then some (.sv (.dt (.tup (repD k.toNat xs)))) else none
  | s, .dt (.int k) => match listD M s with
    | some xs => if -(2 ^ 63) ≤ k ∧ k < 2 ^ 63 ∧ xs.length * k.toNat ≤ sizeLine then some (.fr (repD k.toNat xs)) else none
    | none => none
  | _, _ => none
def rTimes (K : PySem.W.Frag) : R2 := fun x y H Q => rI CMul (fun i j => .int (i * j)) x y H Q ∨ rRepT K x y H Q ∨ rRep x y H Q
theorem op_times {X : Cx} : OpR X (binaryOp .Mult) (rTimes X.K) := OpR.or op_mul (OpR.or op_repT op_rep)
theorem inSmall_ok {i : Int} (h : inSmall i = true) : -(2 ^ 64) < i ∧ i < 2 ^ 64 := by
  unfold inSmall at h
  rw [Bool.and_eq_true] at h
  exact ⟨of_decide_eq_true h.1, of_decide_eq_true h.2⟩
theorem RpA.rep {K : PySem.W.Frag} {H : Hp} {vs : List V} {ds : List D} (r : RpA K H vs ds) : ∀ n : Nat, RpA K H (List.replicate n vs).flatten (repD n ds)
  | 0 => .nil
  | n + 1 => by
    unfold repD
    rw [List.replicate_succ, List.replicate_succ, List.flatten_cons, List.flatten_cons]
    exact r.append (RpA.rep r n)
theorem opd_times {K : PySem.W.Frag} : OpD K (rTimes K) gMul := by
  intro Hk H M ls x y s t z Q w rx ry e q
  unfold gMul at e
  split at e
  · split at e
    · rename_i i j h
      cases e
      refine .inl ⟨_, _, Rp.int_inv rx, Rp.int_inv ry, ?_, q.dt w (.int _)⟩
      rw [Bool.or_eq_true] at h
      rcases h with h | h
      · exact .inl (inSmall_ok h)
      · exact .inr (inSmall_ok h)
    · cases e
  · split at e
    · rename_i xs k h
      cases e
      obtain ⟨h1, h2, h3, h4⟩ := h
      cases rx with
      | tup ht a =>
        rename_i p us
        have hl := a.length
        refine .inr (.inl ⟨p, k, us, rfl, Rp.int_inv ry, same_t w.sub ht, fun z => ?_, h2, h3, by rw [hl]; exact h4, fun p' hp => q.newT w hp (a.rep _)⟩)
        subst z
        cases a
        exact h1 rfl
    · cases e
  · split at e
    · rename_i xs hl
      split at e
      · rename_i h
        cases e
        obtain ⟨a, us, rfl, ha, ra⟩ := listD_ok w rx hl
        refine .inr (.inr ⟨a, _, us, rfl, Rp.int_inv ry, ha, h.1, h.2.1, by rw [ra.length]; exact h.2.2, fun p hp => q.newL w hp (ra.rep _)⟩)
      · cases e
    · cases e
  · cases e
theorem pm_mul {X : Cx} {a b : Expr} {ma mb : EM R} {pos : Pos} (ha : PM X a ma) (hb : PM X b mb) : PM X (.BinOp a .Mult b pos) (eBin gMul ma mb) := pm_bin op_times opd_times ha hb

/-! ### comparisons -/
def rB (b : Bool) : Option R := some (.sv (.dt (.bl b)))
def toPs (f : D → Option PyData) : List D → Option (List PyData)
  | [] => some []
  | s :: r => match f s, toPs f r with
    | some d, some ds => some (d :: ds)
    | _, _ => none
mutual
def toP : D → Option PyData
  | .non => some .none
  | .bl b => some (.bool b)
  | .int i => some (.int i)
  | .str s => some (.str s)
  | .lst xs => match toPl xs with
    | some ps => some (.list ps)
    | none => none
  | .tup xs => match toPl xs with
    | some ps => some (.tuple ps)
    | none => none
  | _ => none
def toPl : List D → Option (List PyData)
  | [] => some []
  | d :: r => match toP d, toPl r with
    | some p, some ps => some (p :: ps)
    | _, _ => none
end
section
variable {K : PySem.W.Frag} {H : Hp}
mutual
theorem toP_ok : ∀ {v : V} {d : D} {p : PyData}, Rp K H v d → toP d = some p → Dp K H v p
  | _, _, _, .non, e => by simp only [toP] at e; cases e; exact .non
  | _, _, _, .bl b, e => by simp only [toP] at e; cases e; exact .bl b
  | _, _, _, .int i, e => by simp only [toP] at e; cases e; exact .int i
  | _, _, _, .str x, e => by simp only [toP] at e; cases e; exact .str x
  | _, _, p, .lst (ds := ds) h a, e => by
    simp only [toP] at e
    cases hp : toPl ds with
    | none => rw [hp] at e; cases e
    | some ps => rw [hp] at e; cases e; exact .lst (SqL.of h) (toPl_ok a hp)
  | _, _, p, .tup (ds := ds) h a, e => by
    simp only [toP] at e
    cases hp : toPl ds with
    | none => rw [hp] at e; cases e
    | some ps => rw [hp] at e; cases e; exact .tup h (toPl_ok a hp)
  | _, _, _, .dct .., e => by simp only [toP] at e; cases e
  | _, _, _, .ins .., e => by simp only [toP] at e; cases e
  | _, _, _, .scr .., e => by simp only [toP] at e; cases e
  | _, _, _, .obj .., e => by simp only [toP] at e; cases e
theorem toPl_ok : ∀ {vs : List V} {ds : List D} {ps : List PyData}, RpA K H vs ds → toPl ds = some ps → DpAll K H vs ps
  | _, _, _, .nil, e => by simp only [toPl] at e; cases e; exact .nil
  | _, _, _, .cons (d := d) (ds := ds) r t, e => by
    simp only [toPl] at e
    cases h1 : toP d with
    | none => rw [h1] at e; cases e
    | some p =>
      cases h2 : toPl ds with
      | none => rw [h1, h2] at e; cases e
      | some ps =>
        rw [h1, h2] at e
        cases e
        exact .cons (toP_ok r h1) (toPl_ok t h2)
end
end
/-- == of data -/
def eqS (M : MS) (s t : SV) : Option Bool := match peek M s, peek M t with
  | some d, some e => match toP d, toP e with
    | some p, some q => if SeqAt.shaped p && SeqAt.shaped q then some (PyData.eqv p q) else none
    | _, _ => none
  | _, _ => none
theorem eqS_ok {K : PySem.W.Frag} {Hk H : Hp} {M : MS} {ls : List Addr} {x y : V} {s t : SV} {b : Bool} (w : World K Hk H M ls) (rx : SVr K Hk ls ls.length x s) (ry : SVr K Hk ls ls.length y t) (e : eqS M s t = some b) :
    ∃ p q, Dp K H x p ∧ Dp K H y q ∧ SeqAt.shaped p = true ∧ SeqAt.shaped q = true ∧ b = PyData.eqv p q := by
  unfold eqS at e
  split at e
  · rename_i d1 d2 h1 h2
    split at e
    · rename_i p q h3 h4
      split at e
      · rename_i hs
        cases e
        rw [Bool.and_eq_true] at hs
        exact ⟨p, q, toP_ok (peek_ok w _ _ _ _ _ rx h1) h3, toP_ok (peek_ok w _ _ _ _ _ ry h2) h4, hs.1, hs.2, rfl⟩
      · cases e
    · cases e
  · cases e
def eqT (M : MS) (s t : SV) : Option Bool := match s, t with
  | .dt (.str x), .dt (.str y) => some (decide (x = y))
  | s, t => eqS M s t
def gEq (M : MS) (s t : SV) : Option R := match eqT M s t with
  | some b => rB b
  | none => none
def gNe (M : MS) (s t : SV) : Option R := match eqT M s t with
  | some b => rB (!b)
  | none => none
theorem eqT_ok {K : PySem.W.Frag} {Hk H : Hp} {M : MS} {ls : List Addr} {x y : V} {s t : SV} {b : Bool} (w : World K Hk H M ls) (rx : SVr K Hk ls ls.length x s) (ry : SVr K Hk ls ls.length y t) (e : eqT M s t = some b) :
    (scal x y = true ∧ b = decide (x = y)) ∨ ∃ p q, Dp K H x p ∧ Dp K H y q ∧ SeqAt.shaped p = true ∧ SeqAt.shaped q = true ∧ b = PyData.eqv p q := by
  unfold eqT at e
  split at e
  · rename_i u v
    cases e
    cases rx
    cases ry
    refine .inl ⟨rfl, ?_⟩
    by_cases h : u = v
    · subst h; simp
    · have h2 : ¬ V.str u = V.str v := fun z => h (V.str.inj z)
      simp [h, h2]
  · exact .inr (eqS_ok w rx ry e)
theorem op_eqT {X : Cx} (hu : X.A.units + 64 < cLine) : OpR X (compareOp .Eq) (fun x y H Q => rEq x y H Q ∨ rEqD X.K x y H Q) := OpR.or op_eq (op_eqD hu)
theorem op_neT {X : Cx} (hu : X.A.units + 64 < cLine) : OpR X (compareOp .NotEq) (fun x y H Q => rNe x y H Q ∨ rNeD X.K x y H Q) := OpR.or op_ne (op_neD hu)
theorem opd_eq {K : PySem.W.Frag} : OpD K (fun x y H Q => rEq x y H Q ∨ rEqD K x y H Q) gEq := by
  intro Hk H M ls x y s t z Q w rx ry e q
  unfold gEq at e
  split at e
  · rename_i b hb
    cases e
    rcases eqT_ok w rx ry hb with ⟨h1, rfl⟩ | ⟨p, r, h1, h2, h3, h4, rfl⟩
    · exact .inl ⟨h1, q.dt w (.bl _)⟩
    · exact .inr ⟨p, r, h1, h2, h3, h4, q.dt w (.bl _)⟩
  · cases e
theorem opd_ne {K : PySem.W.Frag} : OpD K (fun x y H Q => rNe x y H Q ∨ rNeD K x y H Q) gNe := by
  intro Hk H M ls x y s t z Q w rx ry e q
  unfold gNe at e
  split at e
  · rename_i b hb
    cases e
    rcases eqT_ok w rx ry hb with ⟨h1, rfl⟩ | ⟨p, r, h1, h2, h3, h4, rfl⟩
    · exact .inl ⟨h1, q.dt w (.bl _)⟩
    · exact .inr ⟨p, r, h1, h2, h3, h4, q.dt w (.bl _)⟩
  · cases e
def gLt (_ : MS) (s t : SV) : Option R := int2 (fun i j => some (.bl (decide (i < j)))) s t
def gLe (_ : MS) (s t : SV) : Option R := int2 (fun i j => some (.bl (decide (i ≤ j)))) s t
def gGt (_ : MS) (s t : SV) : Option R := int2 (fun i j => some (.bl (decide (j < i)))) s t
def gGe (_ : MS) (s t : SV) : Option R := int2 (fun i j => some (.bl (decide (j ≤ i)))) s t
theorem opd_lt {K : PySem.W.Frag} : OpD K (rI0 fun i j => .bl (decide (i < j))) gLt := opd_int0 fun i j d e H => by cases e; exact .bl _
theorem opd_le {K : PySem.W.Frag} : OpD K (rI0 fun i j => .bl (decide (i ≤ j))) gLe := opd_int0 fun i j d e H => by cases e; exact .bl _
theorem opd_gt {K : PySem.W.Frag} : OpD K (rI0 fun i j => .bl (decide (j < i))) gGt := opd_int0 fun i j d e H => by cases e; exact .bl _
theorem opd_ge {K : PySem.W.Frag} : OpD K (rI0 fun i j => .bl (decide (j ≤ i))) gGe := opd_int0 fun i j d e H => by cases e; exact .bl _
/-- in: a sign in a text; a flat thing in a list or tuple of flat things -/
def flatD : D → Bool
  | .non => true
  | .bl _ => true
  | .int _ => true
  | .str _ => true
  | _ => false
def fV : D → V
  | .non => .non
  | .bl b => .bl b
  | .int i => .int i
  | .str s => .str s
  | _ => .ty ""
theorem flat_val {K : PySem.W.Frag} {H : Hp} {v : V} {d : D} (h : Rp K H v d) (f : flatD d = true) : v = fV d ∧ flatV v = true := by
  cases h <;> first | exact ⟨rfl, rfl⟩ | cases f
theorem flat_vals {K : PySem.W.Frag} {H : Hp} : ∀ {vs : List V} {ds : List D}, RpA K H vs ds → ds.all flatD = true → vs = ds.map fV ∧ vs.all flatV = true
  | _, _, .nil, _ => ⟨rfl, rfl⟩
  | _, _, .cons r t, f => by
    rw [List.all_cons, Bool.and_eq_true] at f
    obtain ⟨a, b⟩ := flat_val r f.1
    obtain ⟨c, d⟩ := flat_vals t f.2
    subst a c
    exact ⟨rfl, by rw [List.all_cons, b, d]; rfl⟩
def oneSign : Str → Option Nat := fun x => match x.cps.toList with
  | [c] => some c
  | _ => none
theorem oneSign_ok {x : Str} {c : Nat} (h : oneSign x = some c) : x = ⟨#[c]⟩ := by
  unfold oneSign at h
  split at h
  · rename_i c' e
    cases h
    obtain ⟨a⟩ := x
    obtain ⟨l⟩ := a
    cases e
    rfl
  · cases h
def itemsD (M : MS) (s : SV) : Option (List D) := match itemsOf M s with
  | some xs => allD xs
  | none => none
theorem itemsD_ok {K : PySem.W.Frag} {Hk H : Hp} {M : MS} {ls : List Addr} {v : V} {s : SV} {ds : List D} (w : World K Hk H M ls) (r : SVr K Hk ls ls.length v s) (e : itemsD M s = some ds) : ∃ a vs, v = .ref a ∧ (SqL K H a vs ∨ SqT K H a vs) ∧ RpA K Hk vs ds := by
  unfold itemsD at e
  cases h : itemsOf M s with
  | none => rw [h] at e; cases e
  | some xs =>
    rw [h] at e
    obtain ⟨a, vs, h1, h2, h3⟩ := itemsOf_ok w r h
    exact ⟨a, vs, h1, h2, h3.toA e⟩
def inS (M : MS) (s t : SV) : Option Bool := match s, t with
  | .dt (.str x), .dt (.str z) => match oneSign x with
    | some c => some (decide (c ∈ z.cps.toList))
    | none => none
  | .dt x, t => match itemsD M t with
    | some ds => if flatD x && ds.all flatD then some (inV (fV x) (ds.map fV)) else none
    | none => none
  | _, _ => none
def rInS (K : PySem.W.Frag) : R2 := fun x y H Q => (∃ (c : Nat) (z : Str), x = .str ⟨#[c]⟩ ∧ y = .str z ∧ Q (.bl (decide (c ∈ z.cps.toList))) H) ∨ rIn K false x y H Q
def rNotInS (K : PySem.W.Frag) : R2 := fun x y H Q => (∃ (c : Nat) (z : Str), x = .str ⟨#[c]⟩ ∧ y = .str z ∧ Q (.bl (!decide (c ∈ z.cps.toList))) H) ∨ rIn K true x y H Q
theorem op_inS {X : Cx} : OpR X (compareOp .In) (rInS X.K) := OpR.or op_in_sign op_in_seq
theorem op_notInS {X : Cx} : OpR X (compareOp .NotIn) (rNotInS X.K) := OpR.or op_notIn_sign op_notIn_seq
def gIn (M : MS) (s t : SV) : Option R := match inS M s t with
  | some b => rB b
  | none => none
def gNotIn (M : MS) (s t : SV) : Option R := match inS M s t with
  | some b => rB (!b)
  | none => none
theorem inS_ok {K : PySem.W.Frag} {Hk H : Hp} {M : MS} {ls : List Addr} {x y : V} {s t : SV} {b : Bool} (w : World K Hk H M ls) (rx : SVr K Hk ls ls.length x s) (ry : SVr K Hk ls ls.length y t) (e : inS M s t = some b) :
    (∃ (c : Nat) (z : Str), x = .str ⟨#[c]⟩ ∧ y = .str z ∧ b = decide (c ∈ z.cps.toList)) ∨ ∃ p xs, y = .ref p ∧ (SqL K H p xs ∨ SqT K H p xs) ∧ flatV x = true ∧ xs.all flatV = true ∧ b = inV x xs := by
  unfold inS at e
  split at e
  · rename_i x' z'
    split at e
    · rename_i c hc
      cases e
      have := oneSign_ok hc
      subst this
      exact .inl ⟨c, z', Rp.str_inv rx, Rp.str_inv ry, rfl⟩
    · cases e
  · rename_i d _ _
    split at e
    · rename_i ds hd
      split at e
      · rename_i hf
        cases e
        rw [Bool.and_eq_true] at hf
        obtain ⟨a, vs, rfl, hq, ra⟩ := itemsD_ok w ry hd
        obtain ⟨e1, f1⟩ := flat_val rx hf.1
        obtain ⟨e2, f2⟩ := flat_vals ra hf.2
        subst e1
        exact .inr ⟨a, vs, rfl, hq, f1, f2, by rw [e2]⟩
      · cases e
    · cases e
  · cases e
theorem opd_in {K : PySem.W.Frag} : OpD K (rInS K) gIn := by
  intro Hk H M ls x y s t z Q w rx ry e q
  unfold gIn at e
  split at e
  · rename_i b hb
    cases e
    rcases inS_ok w rx ry hb with ⟨c, z, rfl, rfl, rfl⟩ | ⟨p, xs, rfl, h1, h2, h3, rfl⟩
    · exact .inl ⟨c, z, rfl, rfl, q.dt w (.bl _)⟩
    · exact .inr ⟨p, xs, rfl, h1, h2, h3, q.dt w (.bl _)⟩
  · cases e
theorem opd_notIn {K : PySem.W.Frag} : OpD K (rNotInS K) gNotIn := by
  intro Hk H M ls x y s t z Q w rx ry e q
  unfold gNotIn at e
  split at e
  · rename_i b hb
    cases e
    rcases inS_ok w rx ry hb with ⟨c, z, rfl, rfl, rfl⟩ | ⟨p, xs, rfl, h1, h2, h3, rfl⟩
    · exact .inl ⟨c, z, rfl, rfl, q.dt w (.bl _)⟩
    · exact .inr ⟨p, xs, rfl, h1, h2, h3, q.dt w (.bl _)⟩
  · cases e
/-- is: truths -/
def gIs (_ : MS) (s t : SV) : Option R := match s, t with
  | .dt (.bl a), .dt (.bl b) => rB (decide (a = b))
  | _, _ => none
theorem opd_is {K : PySem.W.Frag} : OpD K rIsB gIs := by
  intro Hk H M ls x y s t z Q w rx ry e q
  unfold gIs at e
  split at e
  · cases e
    exact ⟨_, _, Rp.bl_inv rx, Rp.bl_inv ry, q.dt w (.bl _)⟩
  · cases e
section
variable {X : Cx} {a b c : Expr} {ma mb mc : EM R} {pos : Pos}
theorem pm_eq (hu : X.A.units + 64 < cLine) (ha : PM X a ma) (hb : PM X b mb) : PM X (.Compare a [.Eq] [b] pos) (eBin gEq ma mb) := pm_cmp (op_eqT hu) opd_eq ha hb
theorem pm_ne (hu : X.A.units + 64 < cLine) (ha : PM X a ma) (hb : PM X b mb) : PM X (.Compare a [.NotEq] [b] pos) (eBin gNe ma mb) := pm_cmp (op_neT hu) opd_ne ha hb
theorem pm_lt (ha : PM X a ma) (hb : PM X b mb) : PM X (.Compare a [.Lt] [b] pos) (eBin gLt ma mb) := pm_cmp op_lt opd_lt ha hb
theorem pm_le (ha : PM X a ma) (hb : PM X b mb) : PM X (.Compare a [.LtE] [b] pos) (eBin gLe ma mb) := pm_cmp op_le opd_le ha hb
theorem pm_gt (ha : PM X a ma) (hb : PM X b mb) : PM X (.Compare a [.Gt] [b] pos) (eBin gGt ma mb) := pm_cmp op_gt opd_gt ha hb
theorem pm_ge (ha : PM X a ma) (hb : PM X b mb) : PM X (.Compare a [.GtE] [b] pos) (eBin gGe ma mb) := pm_cmp op_ge opd_ge ha hb
theorem pm_in (ha : PM X a ma) (hb : PM X b mb) (hm : behindInMarks .In b = false := by rfl) : PM X (.Compare a [.In] [b] pos) (eBin gIn ma mb) := pm_cmp op_inS opd_in ha hb hm
theorem pm_notIn (ha : PM X a ma) (hb : PM X b mb) (hm : behindInMarks .NotIn b = false := by rfl) : PM X (.Compare a [.NotIn] [b] pos) (eBin gNotIn ma mb) := pm_cmp op_notInS opd_notIn ha hb hm
theorem pm_is (ha : PM X a ma) (hb : PM X b mb) : PM X (.Compare a [.Is] [b] pos) (eBin gIs ma mb) := pm_cmp op_isBl opd_is ha hb
/-- a op b op' c -/
def eChain (g g' : MS → SV → SV → Option R) (ma mb mc : EM R) : EM R := (fz ma).seq fun s => (fz mb).seq fun t => fun ρ M => match g M s t with
  | some (.sv (.dt (.bl true))) => (fz mc).seq (fun u => fun _ M' => match g' M' t u with
    | some z => some (z, M')
    | none => none) ρ M
  | some (.sv (.dt (.bl false))) => some (.sv (.dt (.bl false)), M)
  | _ => none
end
end Dy

set_option Elab.async false
set_option linter.all false
set_option maxRecDepth 100000
set_option maxHeartbeats 4000000
namespace Dy
open PySem L2

theorem Rr.back {K : PySem.W.Frag} {ls : List Addr} {H0 Hk0 H1 Hk1 H2 Hk2 : Hp} {v : V} {r : R} (x : Ext ls Hk0 H0 Hk1 H1) (h : Rr K H1 Hk2 H2 ls v r) : Rr K H0 Hk2 H2 ls v r := ebin_go.rr_back x h
theorem Res.back {K : PySem.W.Frag} {ls : List Addr} {H0 Hk0 H1 Hk1 : Hp} {r : R} {M : MS} {Q : VK} (x : Ext ls Hk0 H0 Hk1 H1) (h : Res K ls Hk0 H0 r M Q) : Res K ls Hk1 H1 r M Q :=
  fun v Hk2 H2 w2 x2 r2 => h v Hk2 H2 w2 (x.trans x2) (r2.back x)
section
variable {X : Cx} {a b c e : Expr} {es rest : List Expr} {ma mb mc m : EM R} {pos : Pos}
/-! ### chains -/
theorem echain_go {r r' : R2} {g g' : MS → SV → SV → Option R} (hd : OpD X.K r g) (hd' : OpD X.K r' g') : ∀ σ H Q, tM X.K (eChain g g' ma mb mc) σ H Q → tChain r r' (tV X.K (fz ma)) (tV X.K (fz mb)) (tV X.K (fz mc)) σ H Q := fun σ H Q ⟨Hk, ls, ρ, M, z, M', w, en, hm, q⟩ => by
  obtain ⟨s, M1, h1, h2⟩ := seq_some hm
  obtain ⟨t, M2, h3, h4⟩ := seq_some h2
  refine ⟨Hk, ls, ρ, M, s, M1, w, en, h1, fun v Hk1 H1 w1 x1 r1 => ?_⟩
  refine ⟨Hk1, ls, ρ, M1, t, M2, w1, en.mono x1.kk, h3, fun u Hk2 H2 w2 x2 r2 => ?_⟩
  cases hg : g M2 s t with
  | none => rw [hg] at h4; cases h4
  | some z' =>
    rw [hg] at h4
    refine hd Hk2 H2 M2 ls v u s t z' _ w2 (r1.mono x2.kk) r2 hg fun y Hk3 H3 w3 x3 r3 => ?_
    split at h4
    · rename_i e1
      cases e1
      have ry := Rp.bl_inv r3
      subst ry
      refine ⟨true, rfl, ?_⟩
      rw [if_pos rfl]
      obtain ⟨s5, M5, h5, h6⟩ := seq_some h4
      have x13 := (x1.trans x2).trans x3
      refine ⟨Hk3, ls, ρ, M2, s5, M5, w3, en.mono x13.kk, h5, fun v5 Hk5 H5 w5 x5 r5 => ?_⟩
      cases hg5 : g' M5 t s5 with
      | none => rw [hg5] at h6; cases h6
      | some z5 =>
        rw [hg5] at h6
        cases h6
        exact hd' Hk5 H5 _ ls u v5 t s5 _ Q w5 (r2.mono fun b o z => x5.kk b o (x3.kk b o z)) r5 hg5 (q.back (x13.trans x5))
    · rename_i e1
      cases e1
      cases h4
      have ry := Rp.bl_inv r3
      subst ry
      refine ⟨false, rfl, ?_⟩
      rw [if_neg Bool.false_ne_true]
      exact q _ Hk3 H3 w3 ((x1.trans x2).trans x3) r3
    · cases h4
theorem pm_chain {op op' : CmpOp} {r r' : R2} {g g' : MS → SV → SV → Option R} (ho : OpR X (compareOp op) r) (hd : OpD X.K r g) (ho' : OpR X (compareOp op') r') (hd' : OpD X.K r' g') (ha : PM X a ma) (hb : PM X b mb) (hc : PM X c mc)
    (hm : lastMarks [op, op'] [b, c] = false := by with_unfolding_all rfl) : PM X (.Compare a [op, op'] [b, c] pos) (eChain g g' ma mb mc) := PE.imp (pe_chain ho ho' (PM.v ha) (PM.v hb) (PM.v hc) hm) (echain_go hd hd')

/-! ### truth -/
def truthS (M : MS) : SV → Option Bool
  | .dt .non => some false
  | .dt (.bl b) => some b
  | .dt (.int i) => some (i != 0)
  | .dt (.str s) => if s.length ≤ sizeLine then some ((s.length : Int) != 0) else none
  | s => match itemsOf M s with
    | some xs => some (!xs.isEmpty)
    | none => none
theorem SVs.empty {K : PySem.W.Frag} {Hk : Hp} {ls : List Addr} {n : Nat} {vs : List V} {ss : List SV} (h : SVs K Hk ls n vs ss) : vs.isEmpty = ss.isEmpty := by cases h <;> rfl
theorem truthS_ok {K : PySem.W.Frag} {Hk H : Hp} {M : MS} {ls : List Addr} {x : V} {s : SV} {k : Bool} (w : World K Hk H M ls) (rx : SVr K Hk ls ls.length x s) (e : truthS M s = some k) : TruV K x H k := by
  unfold truthS at e
  split at e
  · cases rx; cases e; rfl
  · cases rx; cases e; rfl
  · cases rx; cases e; rfl
  · cases rx
    split at e
    · rename_i h; cases e; exact ⟨h, rfl⟩
    · cases e
  · split at e
    · rename_i xs hx
      cases e
      obtain ⟨p, vs, rfl, hq, hs⟩ := itemsOf_ok w rx hx
      rcases hq with hq | hq
      · exact .inl ⟨vs, hq, by rw [hs.empty]⟩
      · exact .inr (.inl ⟨vs, hq, by rw [hs.empty]⟩)
    · cases e
/-- a test of a value -/
def eTru (m : EM R) : EM Bool := (fz m).seq fun s => fun _ M => match truthS M s with
  | some k => some (k, M)
  | none => none
theorem etru_some {ρ : Env} {M : MS} {z : Bool × MS} (h : eTru m ρ M = some z) : ∃ s, fz m ρ M = some (s, z.2) ∧ truthS z.2 s = some z.1 := by
  obtain ⟨s, M1, h1, h2⟩ := seq_some h
  cases ht : truthS M1 s with
  | none => rw [ht] at h2; cases h2
  | some k =>
    rw [ht] at h2
    cases h2
    exact ⟨s, h1, ht⟩
theorem ptm_val (h : PM X e m) (he : ∀ whole, isTrue e X.env whole = (do let v ← whole; standAt e.pos; holding [v] (truthy v)) := by intro _; rfl) : PTm X e (eTru m) := PT.imp (pt_truth (PM.v h) he) fun σ H Q ⟨Hk, ls, ρ, M, r, M', w, en, hm, q⟩ => by
  obtain ⟨s, h1, h2⟩ := etru_some hm
  refine ⟨Hk, ls, ρ, M, s, M', w, en, h1, fun v Hk1 H1 w1 x1 r1 => ⟨r, truthS_ok w1 r1 h2, q Hk1 H1 w1 x1⟩⟩
/-- a comparison's answer -/
def eBool (m : EM R) : EM Bool := m.seq fun r => fun _ M => match r with
  | .sv (.dt (.bl k)) => some (k, M)
  | _ => none
theorem ebool_go {t : TE} (i : ∀ σ H Q, tM X.K m σ H Q → t σ H Q) : ∀ σ H Q, tT X.K (eBool m) σ H Q → tTest t σ H Q := fun σ H Q ⟨Hk, ls, ρ, M, r, M', w, en, hm, q⟩ => by
  obtain ⟨z, M1, h1, h2⟩ := seq_some hm
  refine i σ H _ ⟨Hk, ls, ρ, M, z, M1, w, en, h1, fun v Hk1 H1 w1 x1 r1 => ?_⟩
  split at h2
  · cases h2
    exact ⟨_, Rp.bl_inv r1, q Hk1 H1 w1 x1⟩
  · cases h2
theorem ptm_cmp {op : CmpOp} {r : R2} {g : MS → SV → SV → Option R} (ho : OpR X (compareOp op) r) (hd : OpD X.K r g) (ha : PM X a ma) (hb : PM X b mb) (hm : behindInMarks op b = false := by first | exact nomark _ | rfl) : PTm X (.Compare a [op] [b] pos) (eBool (eBin g ma mb)) :=
  PT.imp (pt_cmpR ho (PM.v ha) (PM.v hb) hm) (ebool_go (ebin_go hd))
theorem ptm_chain {op op' : CmpOp} {r r' : R2} {g g' : MS → SV → SV → Option R} (ho : OpR X (compareOp op) r) (hd : OpD X.K r g) (ho' : OpR X (compareOp op') r') (hd' : OpD X.K r' g') (ha : PM X a ma) (hb : PM X b mb) (hc : PM X c mc)
    (hm : lastMarks [op, op'] [b, c] = false := by with_unfolding_all rfl) : PTm X (.Compare a [op, op'] [b, c] pos) (eBool (eChain g g' ma mb mc)) := PT.imp (pt_chain ho ho' (PM.v ha) (PM.v hb) (PM.v hc) hm) (ebool_go (echain_go hd hd'))
theorem ptm_eq (hu : X.A.units + 64 < cLine) (ha : PM X a ma) (hb : PM X b mb) : PTm X (.Compare a [.Eq] [b] pos) (eBool (eBin gEq ma mb)) := ptm_cmp (op_eqT hu) opd_eq ha hb
theorem ptm_ne (hu : X.A.units + 64 < cLine) (ha : PM X a ma) (hb : PM X b mb) : PTm X (.Compare a [.NotEq] [b] pos) (eBool (eBin gNe ma mb)) := ptm_cmp (op_neT hu) opd_ne ha hb
theorem ptm_lt (ha : PM X a ma) (hb : PM X b mb) : PTm X (.Compare a [.Lt] [b] pos) (eBool (eBin gLt ma mb)) := ptm_cmp op_lt opd_lt ha hb
theorem ptm_le (ha : PM X a ma) (hb : PM X b mb) : PTm X (.Compare a [.LtE] [b] pos) (eBool (eBin gLe ma mb)) := ptm_cmp op_le opd_le ha hb
theorem ptm_gt (ha : PM X a ma) (hb : PM X b mb) : PTm X (.Compare a [.Gt] [b] pos) (eBool (eBin gGt ma mb)) := ptm_cmp op_gt opd_gt ha hb
theorem ptm_ge (ha : PM X a ma) (hb : PM X b mb) : PTm X (.Compare a [.GtE] [b] pos) (eBool (eBin gGe ma mb)) := ptm_cmp op_ge opd_ge ha hb
theorem ptm_in (ha : PM X a ma) (hb : PM X b mb) (hm : behindInMarks .In b = false := by rfl) : PTm X (.Compare a [.In] [b] pos) (eBool (eBin gIn ma mb)) := ptm_cmp op_inS opd_in ha hb hm
theorem ptm_notIn (ha : PM X a ma) (hb : PM X b mb) (hm : behindInMarks .NotIn b = false := by rfl) : PTm X (.Compare a [.NotIn] [b] pos) (eBool (eBin gNotIn ma mb)) := ptm_cmp op_notInS opd_notIn ha hb hm
theorem ptm_is (ha : PM X a ma) (hb : PM X b mb) : PTm X (.Compare a [.Is] [b] pos) (eBool (eBin gIs ma mb)) := ptm_cmp op_isBl opd_is ha hb

/-! ### and, or, not as tests -/
variable {ca cb : EM Bool}
abbrev PWm (X : Cx) (e : Expr) (m : EM Bool) : Prop := PW X e (tT X.K m)
theorem PW.imp {X : Cx} {e : Expr} {t u : TT} (h : PW X e t) (i : ∀ σ H Q, u σ H Q → t σ H Q) : PW X e u := ⟨fun wh pins s σ H Q I q => h.run wh pins s σ H Q I (i σ H Q q)⟩
def tAndB (ca cb : EM Bool) : EM Bool := ca.seq fun k => if k = true then cb else EM.ret false
def tOrB (ca cb : EM Bool) : EM Bool := ca.seq fun k => if k = true then EM.ret true else cb
def tNotB (ca : EM Bool) : EM Bool := ca.seq fun k => EM.ret (!k)
theorem pwm_and1 (ha : PTm X a ca) : PWm X (.BoolOp .And [a] pos) ca := pw_and1 ha
theorem pwm_or1 (ha : PTm X a ca) : PWm X (.BoolOp .Or [a] pos) ca := pw_or1 ha
theorem pwm_and (ha : PTm X a ca) (hb : PWm X (.BoolOp .And (b :: rest) pos) cb) : PWm X (.BoolOp .And (a :: b :: rest) pos) (tAndB ca cb) := PW.imp (pw_and ha hb) fun σ H Q ⟨Hk, ls, ρ, M, r, M', w, en, hm, q⟩ => by
  obtain ⟨k, M1, h1, h2⟩ := seq_some hm
  refine ⟨Hk, ls, ρ, M, k, M1, w, en, h1, fun Hk1 H1 w1 x1 => ?_⟩
  cases k with
  | true =>
    rw [if_pos rfl] at h2 ⊢
    exact ⟨Hk1, ls, ρ, M1, r, M', w1, en.mono x1.kk, h2, fun Hk2 H2 w2 x2 => q Hk2 H2 w2 (x1.trans x2)⟩
  | false =>
    rw [if_neg Bool.false_ne_true] at h2 ⊢
    cases h2
    exact q Hk1 H1 w1 x1
theorem pwm_or (ha : PTm X a ca) (hb : PWm X (.BoolOp .Or (b :: rest) pos) cb) : PWm X (.BoolOp .Or (a :: b :: rest) pos) (tOrB ca cb) := PW.imp (pw_or ha hb) fun σ H Q ⟨Hk, ls, ρ, M, r, M', w, en, hm, q⟩ => by
  obtain ⟨k, M1, h1, h2⟩ := seq_some hm
  refine ⟨Hk, ls, ρ, M, k, M1, w, en, h1, fun Hk1 H1 w1 x1 => ?_⟩
  cases k with
  | true =>
    rw [if_pos rfl] at h2 ⊢
    cases h2
    exact q Hk1 H1 w1 x1
  | false =>
    rw [if_neg Bool.false_ne_true] at h2 ⊢
    exact ⟨Hk1, ls, ρ, M1, r, M', w1, en.mono x1.kk, h2, fun Hk2 H2 w2 x2 => q Hk2 H2 w2 (x1.trans x2)⟩
theorem PWm.t {e : Expr} (h : PWm X e ca) : PTm X e ca := PW.pt h
theorem ptm_not (ha : PTm X a ca) : PTm X (.UnaryOp .Not a pos) (tNotB ca) := PT.imp (pt_not ha) fun σ H Q ⟨Hk, ls, ρ, M, r, M', w, en, hm, q⟩ => by
  obtain ⟨k, M1, h1, h2⟩ := seq_some hm
  cases h2
  exact ⟨Hk, ls, ρ, M, k, _, w, en, h1, fun Hk1 H1 w1 x1 => q Hk1 H1 w1 x1⟩

/-! ### and, or, not as values -/
def eAnd (ma mb : EM R) : EM R := (fz ma).seq fun s => fun ρ M => match truthS M s with
  | some true => mb ρ M
  | some false => some (.sv s, M)
  | none => none
def eOr (ma mb : EM R) : EM R := (fz ma).seq fun s => fun ρ M => match truthS M s with
  | some true => some (.sv s, M)
  | some false => mb ρ M
  | none => none
def eNot (ma : EM R) : EM R := (fz ma).seq fun s => fun _ M => match truthS M s with
  | some k => some (.sv (.dt (.bl (!k))), M)
  | none => none
theorem pm_one {op} (h : PM X a ma) : PM X (.BoolOp op [a] pos) ma := pe_one h
theorem pm_and (ha : PM X a ma) (hb : PM X (.BoolOp .And (b :: rest) pos) mb) : PM X (.BoolOp .And (a :: b :: rest) pos) (eAnd ma mb) := PE.imp (pe_andT (PM.v ha) hb) fun σ H Q ⟨Hk, ls, ρ, M, r, M', w, en, hm, q⟩ => by
  obtain ⟨s, M1, h1, h2⟩ := seq_some hm
  refine ⟨Hk, ls, ρ, M, s, M1, w, en, h1, fun v Hk1 H1 w1 x1 r1 => ?_⟩
  cases ht : truthS M1 s with
  | none => rw [ht] at h2; cases h2
  | some k =>
    rw [ht] at h2
    refine ⟨k, truthS_ok w1 r1 ht, ?_⟩
    cases k with
    | true =>
      rw [if_pos rfl]
      exact ⟨Hk1, ls, ρ, M1, r, M', w1, en.mono x1.kk, h2, q.back x1⟩
    | false =>
      rw [if_neg Bool.false_ne_true]
      cases h2
      exact q v Hk1 H1 w1 x1 r1
theorem pm_or (ha : PM X a ma) (hb : PM X (.BoolOp .Or (b :: rest) pos) mb) : PM X (.BoolOp .Or (a :: b :: rest) pos) (eOr ma mb) := PE.imp (pe_orT (PM.v ha) hb) fun σ H Q ⟨Hk, ls, ρ, M, r, M', w, en, hm, q⟩ => by
  obtain ⟨s, M1, h1, h2⟩ := seq_some hm
  refine ⟨Hk, ls, ρ, M, s, M1, w, en, h1, fun v Hk1 H1 w1 x1 r1 => ?_⟩
  cases ht : truthS M1 s with
  | none => rw [ht] at h2; cases h2
  | some k =>
    rw [ht] at h2
    refine ⟨k, truthS_ok w1 r1 ht, ?_⟩
    cases k with
    | true =>
      rw [if_pos rfl]
      cases h2
      exact q v Hk1 H1 w1 x1 r1
    | false =>
      rw [if_neg Bool.false_ne_true]
      exact ⟨Hk1, ls, ρ, M1, r, M', w1, en.mono x1.kk, h2, q.back x1⟩
theorem pm_not (ha : PM X a ma) : PM X (.UnaryOp .Not a pos) (eNot ma) := PE.imp (pe_notT (PM.v ha)) fun σ H Q ⟨Hk, ls, ρ, M, r, M', w, en, hm, q⟩ => by
  obtain ⟨s, M1, h1, h2⟩ := seq_some hm
  refine ⟨Hk, ls, ρ, M, s, M1, w, en, h1, fun v Hk1 H1 w1 x1 r1 => ?_⟩
  cases ht : truthS M1 s with
  | none => rw [ht] at h2; cases h2
  | some k =>
    rw [ht] at h2
    cases h2
    exact ⟨k, truthS_ok w1 r1 ht, q _ Hk1 H1 w1 x1 (Rp.bl _)⟩
def eNeg (ma : EM R) : EM R := (fz ma).seq fun s => fun _ M => match s with
  | .dt (.int i) => some (.sv (.dt (.int (-i))), M)
  | _ => none
theorem pm_neg (ha : PM X a ma) : PM X (.UnaryOp .USub a pos) (eNeg ma) := PE.imp (pe_un un_neg (PM.v ha)) fun σ H Q ⟨Hk, ls, ρ, M, r, M', w, en, hm, q⟩ => by
  obtain ⟨s, M1, h1, h2⟩ := seq_some hm
  refine ⟨Hk, ls, ρ, M, s, M1, w, en, h1, fun v Hk1 H1 w1 x1 r1 => ?_⟩
  split at h2
  · cases h2
    exact ⟨_, Rp.int_inv r1, q _ Hk1 H1 w1 x1 (Rp.int _)⟩
  · cases h2
/-- a if t else b -/
def eIf (c : EM Bool) (ma mb : EM R) : EM R := c.seq fun k => if k = true then ma else mb
theorem pm_if (hc : PTm X c ca) (ha : PM X a ma) (hb : PM X b mb) : PM X (.IfExp c a b pos) (eIf ca ma mb) := PE.imp (pe_ifExp hc ha hb) fun σ H Q ⟨Hk, ls, ρ, M, r, M', w, en, hm, q⟩ => by
  obtain ⟨k, M1, h1, h2⟩ := seq_some hm
  refine ⟨Hk, ls, ρ, M, k, M1, w, en, h1, fun Hk1 H1 w1 x1 => ?_⟩
  cases k with
  | true =>
    rw [if_pos rfl] at h2 ⊢
    exact ⟨Hk1, ls, ρ, M1, r, M', w1, en.mono x1.kk, h2, q.back x1⟩
  | false =>
    rw [if_neg Bool.false_ne_true] at h2 ⊢
    exact ⟨Hk1, ls, ρ, M1, r, M', w1, en.mono x1.kk, h2, q.back x1⟩

/-! ### displays -/
variable {ms : EM (List SV)}
def eTup (ms : EM (List SV)) : EM R := ms.seq fun ss => fun _ M => match allD ss with
  | some ds => if ds.length ≤ sizeLine then some (.sv (.dt (.tup ds)), M) else none
  | none => none
def eLst (ms : EM (List SV)) : EM R := ms.seq fun ss => fun _ M => match allD ss with
  | some ds => if ds.length ≤ sizeLine then some (.fr ds, M) else none
  | none => none
theorem pm_tup {x1} (h : PAm X es ms) : PM X (.Tuple es x1 pos) (eTup ms) := PE.imp (pe_tup h) fun σ H Q ⟨Hk, ls, ρ, M, r, M', w, en, hm, q⟩ => by
  obtain ⟨ss, M1, h1, h2⟩ := seq_some hm
  refine ⟨Hk, ls, ρ, M, ss, M1, w, en, h1, fun vs Hk1 H1 w1 x1 r1 => ?_⟩
  split at h2
  · rename_i ds hd
    split at h2
    · rename_i hz
      cases h2
      have ra := r1.toA hd
      exact ⟨by rw [ra.length]; exact hz, fun p hp => (q.back x1).newT w1 hp ra⟩
    · cases h2
  · cases h2
theorem pm_lst (h : PAm X es ms) : PM X (.List es pos) (eLst ms) := PE.imp (pe_lst h) fun σ H Q ⟨Hk, ls, ρ, M, r, M', w, en, hm, q⟩ => by
  obtain ⟨ss, M1, h1, h2⟩ := seq_some hm
  refine ⟨Hk, ls, ρ, M, ss, M1, w, en, h1, fun vs Hk1 H1 w1 x1 r1 => ?_⟩
  split at h2
  · rename_i ds hd
    split at h2
    · rename_i hz
      cases h2
      have ra := r1.toA hd
      exact ⟨by rw [ra.length]; exact hz, fun p hp => (q.back x1).newL w1 hp ra⟩
    · cases h2
  · cases h2

/-! ### subscripts and slices -/
def gIx (M : MS) (s t : SV) : Option R := match t with
  | .dt (.int i) => match s with
    | .dt (.str z) => if z.length ≤ sizeLine then match atI z.cps.toList i with
        | some c => some (.sv (.dt (.str ⟨#[c]⟩)))
        | none => none
      else none
    | s => match itemsOf M s with
      | some xs => match atI xs i with
        | some y => some (.sv y)
        | none => none
      | none => none
  | _ => none
theorem SVs.atI {K : PySem.W.Frag} {Hk : Hp} {ls : List Addr} {n : Nat} {vs : List V} {ss : List SV} {i : Int} {s : SV} (h : SVs K Hk ls n vs ss) (e : L2.atI ss i = some s) : ∃ v, L2.atI vs i = some v ∧ SVr K Hk ls n v s := by
  unfold L2.atI at e ⊢
  rw [h.length]
  cases hj : ixN ss.length i with
  | none => rw [hj] at e; cases e
  | some j =>
    rw [hj] at e
    exact h.get e
theorem opd_ix {K : PySem.W.Frag} : OpD K (rIx K) gIx := by
  intro Hk H M ls x y s t z Q w rx ry e q
  unfold gIx at e
  split at e
  · rename_i i
    split at e
    · rename_i z'
      split at e
      · rename_i hz
        split at e
        · rename_i c hc
          cases e
          exact .inr (.inr ⟨z', i, c, Rp.str_inv rx, Rp.int_inv ry, hz, hc, q.dt w (.str _)⟩)
        · cases e
      · cases e
    · split at e
      · rename_i xs hx
        split at e
        · rename_i y' hy
          cases e
          obtain ⟨p, vs, rfl, hq, hs⟩ := itemsOf_ok w rx hx
          obtain ⟨v, hv, rv⟩ := hs.atI hy
          rcases hq with hq | hq
          · exact .inl ⟨p, vs, i, v, rfl, Rp.int_inv ry, hq, hv, q v Hk H w (Ext.refl _ _ _) rv⟩
          · exact .inr (.inl ⟨p, vs, i, v, rfl, Rp.int_inv ry, hq, hv, q v Hk H w (Ext.refl _ _ _) rv⟩)
        · cases e
      · cases e
  · cases e
theorem pm_sub_ix (ha : PM X a ma) (hb : PM X b mb) (hs : PlainIx b := by exact fun _ _ => rfl) : PM X (.Subscript a b pos) (eBin gIx ma mb) := pm_ix ix_seq opd_ix ha hb hs
def cutD (xs : List D) (lo hi : Option Int) : List D := (xs.drop (HT.sIx xs.length 0 lo)).take (HT.sIx xs.length xs.length hi - HT.sIx xs.length 0 lo)
theorem RpA.cut {K : PySem.W.Frag} {H : Hp} {vs : List V} {ds : List D} (h : RpA K H vs ds) (lo hi : Option Int) : RpA K H (cutV vs lo hi) (cutD ds lo hi) := by
  unfold cutV cutD
  rw [h.length]
  exact (h.drop _).take _
/-- a part of a slice -/
def eNoPart : EM (Option Int) := EM.ret none
def ePart (m : EM R) : EM (Option Int) := (fz m).seq fun s => fun _ M => match s with
  | .dt (.int i) => some (some i, M)
  | _ => none
def tO (K : PySem.W.Frag) (m : EM (Option Int)) : TO := fun σ H Q => ∃ Hk ls ρ M r M', World K Hk H M ls ∧ EnvR K Hk ls σ ρ ∧ m ρ M = some (r, M') ∧ ∀ Hk' H', World K Hk' H' M' ls → Ext ls Hk H Hk' H' → Q r H'
abbrev POm (X : Cx) (e : Option Expr) (m : EM (Option Int)) : Prop := PO X e (tO X.K m)
theorem pom_none : POm X none eNoPart := ⟨fun pins s σ H Q I ⟨Hk, ls, ρ, M, r, M', w, en, hm, q⟩ => by
  cases hm
  exact po_none.run pins s σ H Q I (q Hk H w (Ext.refl _ _ _))⟩
theorem pom_some (h : PM X e m) : POm X (some e) (ePart m) := ⟨fun pins s σ H Q I ⟨Hk, ls, ρ, M, r, M', w, en, hm, q⟩ => by
  obtain ⟨s1, M1, h1, h2⟩ := seq_some hm
  refine (po_some (PM.v h)).run pins s σ H Q I ⟨Hk, ls, ρ, M, s1, M1, w, en, h1, fun v Hk1 H1 w1 x1 r1 => ?_⟩
  split at h2
  · cases h2
    exact ⟨_, Rp.int_inv r1, q Hk1 H1 w1 x1⟩
  · cases h2⟩
def gSl (M : MS) (s : SV) (lo hi : Option Int) : Option R := match s with
  | .dt (.str z) => if z.length ≤ sizeLine then some (.sv (.dt (.str (cutS z lo hi)))) else none
  | .dt (.tup ds) => some (.sv (.dt (.tup (cutD ds lo hi))))
  | .dt (.scr ns) => some (.fr (cutD (ns.map .int) lo hi))
  | s => match listD M s with
    | some ds => some (.fr (cutD ds lo hi))
    | none => none
def eSlice (m : EM R) (lo hi : EM (Option Int)) : EM R := (fz m).seq fun s => lo.seq fun l => hi.seq fun h => fun _ M => match gSl M s l h with
  | some z => some (z, M)
  | none => none
def rSlS3 (K : PySem.W.Frag) : V → Option Int → Option Int → Hp → VK → Prop := fun x lo hi H Q => rSlS x lo hi H Q ∨ rSlA K x lo hi H Q ∨ rSlL K x lo hi H Q
theorem sl_any : SlR X (rSlS3 X.K) := SlR.or sl_str (SlR.or sl_tupA sl_list)
theorem RpA.ints {K : PySem.W.Frag} {H : Hp} : ∀ ns : List Int, RpA K H (ns.map V.int) (ns.map D.int)
  | [] => .nil
  | n :: r => .cons (.int n) (RpA.ints r)
theorem gsl_ok {K : PySem.W.Frag} {Hk H : Hp} {M : MS} {ls : List Addr} {x : V} {s : SV} {lo hi : Option Int} {z : R} {Q : VK} (w : World K Hk H M ls) (rx : SVr K Hk ls ls.length x s) (e : gSl M s lo hi = some z) (q : Res K ls Hk H z M Q) : rSlS3 K x lo hi H Q := by
  unfold gSl at e
  split at e
  · split at e
    · rename_i hz
      cases e
      exact .inl ⟨_, Rp.str_inv rx, hz, q.dt w (.str _)⟩
    · cases e
  · rename_i ds
    cases e
    cases rx with
    | tup h a =>
      rename_i p us
      refine .inr (.inl ⟨p, us, rfl, same_t w.sub h, fun hw => ?_, fun _ p' hp => q.newT w hp (a.cut lo hi)⟩)
      have e1 : cutD ds lo hi = ds := by
        unfold cutD
        rw [← a.length, hw.1, hw.2]
        rw [List.drop_zero, Nat.sub_zero, a.length, List.take_length]
      rw [e1] at q
      exact q.dt w (.tup h a)
  · rename_i ns
    cases e
    cases rx with
    | scr h => exact .inr (.inr ⟨_, _, rfl, same_l w.sub h, fun p hp => q.newL w hp ((RpA.ints ns).cut lo hi)⟩)
  · split at e
    · rename_i ds hd
      cases e
      obtain ⟨a, us, rfl, ha, ra⟩ := listD_ok w rx hd
      exact .inr (.inr ⟨a, us, rfl, SqL.of ha, fun p hp => q.newL w hp (ra.cut lo hi)⟩)
    · cases e
theorem pm_slice {lo hi : Option Expr} {ml mh : EM (Option Int)} {p2 : Pos} (h : PM X e m) (hl : POm X lo ml) (hh : POm X hi mh) : PM X (.Subscript e (.Slice lo hi none p2) pos) (eSlice m ml mh) := PE.imp (pe_slice sl_any (PM.v h) hl hh) fun σ H Q ⟨Hk, ls, ρ, M, r, M', w, en, hm, q⟩ => by
  obtain ⟨s, M1, h1, h2⟩ := seq_some hm
  obtain ⟨l, M2, h3, h4⟩ := seq_some h2
  obtain ⟨u, M3, h5, h6⟩ := seq_some h4
  refine ⟨Hk, ls, ρ, M, s, M1, w, en, h1, fun v Hk1 H1 w1 x1 r1 => ?_⟩
  refine ⟨Hk1, ls, ρ, M1, l, M2, w1, en.mono x1.kk, h3, fun Hk2 H2 w2 x2 => ?_⟩
  refine ⟨Hk2, ls, ρ, M2, u, M3, w2, en.mono (x1.trans x2).kk, h5, fun Hk3 H3 w3 x3 => ?_⟩
  cases hg : gSl M3 s l u with
  | none => rw [hg] at h6; cases h6
  | some z =>
    rw [hg] at h6
    cases h6
    exact gsl_ok w3 (r1.mono fun b o z => x3.kk b o (x2.kk b o z)) hg (q.back ((x1.trans x2).trans x3))
end
end Dy

set_option Elab.async false
set_option linter.all false
set_option maxRecDepth 100000
set_option maxHeartbeats 4000000
namespace Dy
open PySem L2

/-! ### what statements may change -/
structure ExtS (ls ls' : List Addr) (Hk H Hk' H' : Hp) : Prop where
  pre : ∃ t, ls' = ls ++ t
  kk : Same Hk Hk'
  fr : ∀ a o, H a = some o → a ∉ ls → H' a = some o
  gr : ∀ a, Hk' a ≠ none → Hk a ≠ none ∨ H a = none
  nw : ∀ a ∈ ls', a ∈ ls ∨ H a = none
  st : ∀ a, H a ≠ none → H' a ≠ none
section
variable {K : PySem.W.Frag} {Hk H Hk' H' Hk2 H2 : Hp} {M M' : MS} {ls ls' ls2 : List Addr}
theorem Ext.s (x : Ext ls Hk H Hk' H') : ExtS ls ls Hk H Hk' H' := ⟨⟨[], by simp⟩, x.kk, x.fr, x.gr, fun _ h => .inl h, x.st⟩
theorem ExtS.refl (ls : List Addr) (Hk H : Hp) : ExtS ls ls Hk H Hk H := (Ext.refl ls Hk H).s
theorem ExtS.trans (a : ExtS ls ls' Hk H Hk' H') (b : ExtS ls' ls2 Hk' H' Hk2 H2) : ExtS ls ls2 Hk H Hk2 H2 where
  pre := by
    obtain ⟨t, rfl⟩ := a.pre
    obtain ⟨u, rfl⟩ := b.pre
    exact ⟨t ++ u, by rw [List.append_assoc]⟩
  kk := fun x o h => b.kk x o (a.kk x o h)
  fr := fun x o h hn => b.fr x o (a.fr x o h hn) fun z => by
    rcases a.nw x z with z | z
    · exact hn z
    · rw [h] at z; cases z
  gr := fun x h => by
    rcases b.gr x h with h | h
    · exact a.gr x h
    · right
      cases e : H x with
      | none => rfl
      | some o => exact absurd h (a.st x (by rw [e]; simp))
  nw := fun x h => by
    rcases b.nw x h with h | h
    · exact a.nw x h
    · right
      cases e : H x with
      | none => rfl
      | some o => exact absurd h (a.st x (by rw [e]; simp))
  st := fun x h => b.st x (a.st x h)
theorem ExtS.back (x : ExtS ls ls' Hk H Hk' H') {l : Addr} (h : H' l = none) : H l = none := by
  cases e : H l with
  | none => rfl
  | some o => exact absurd h (x.st l (by rw [e]; simp))
theorem Rr.backS {v : V} {r : R} (x : ExtS ls ls' Hk H Hk' H') (h : Rr K H' Hk2 H2 ls2 v r) : Rr K H Hk2 H2 ls2 v r := by
  cases r with
  | sv s => exact h
  | fr ds => obtain ⟨l, vs, a, b, c⟩ := h; exact ⟨l, vs, a, x.back b, c⟩
  | fd ks ds => obtain ⟨l, vs, a, b, c⟩ := h; exact ⟨l, vs, a, x.back b, c⟩
theorem SVr.more {n : Nat} {v : V} {s : SV} {t : List Addr} (h : SVr K Hk ls n v s) : SVr K Hk (ls ++ t) n v s := by
  cases s with
  | dt d => exact h
  | mu k =>
    obtain ⟨a, l, b, c⟩ := h
    refine ⟨a, l, ?_, c⟩
    rw [List.getElem?_append_left (List.getElem?_eq_some_iff.mp b).1]
    exact b
theorem SVs.more {n : Nat} {t : List Addr} : ∀ {vs : List V} {ss : List SV}, SVs K Hk ls n vs ss → SVs K Hk (ls ++ t) n vs ss
  | _, _, .nil => .nil
  | _, _, .cons r u => .cons r.more (SVs.more u)
theorem SVr.extS {v : V} {s : SV} (x : ExtS ls ls' Hk H Hk' H') (h : SVr K Hk ls ls.length v s) : SVr K Hk' ls' ls'.length v s := by
  obtain ⟨t, rfl⟩ := x.pre
  exact ((h.mono x.kk).more).up (by simp)
theorem EnvR.extS {σ : St} {ρ : Env} (x : ExtS ls ls' Hk H Hk' H') (h : EnvR K Hk ls σ ρ) : EnvR K Hk' ls' σ ρ :=
  ⟨h.1, fun i s q => let ⟨v, a, b⟩ := h.2 i s q; ⟨v, a, b.extS x⟩⟩
theorem EnvR.set {σ : St} {ρ : Env} {i : Nat} {v : V} {s : SV} (h : EnvR K Hk ls σ ρ) (r : SVr K Hk ls ls.length v s) : EnvR K Hk ls (σ.set i (some v)) (ρ.set i (some s)) := by
  refine ⟨by rw [List.length_set, List.length_set]; exact h.1, fun j t e => ?_⟩
  by_cases hj : i = j
  · subst hj
    by_cases hl : i < ρ.length
    · rw [List.getElem?_set_self hl] at e
      cases e
      exact ⟨v, List.getElem?_set_self (by rw [← h.1]; exact hl), r⟩
    · rw [List.getElem?_eq_none (by rw [List.length_set]; omega)] at e
      cases e
  · rw [List.getElem?_set_ne hj] at e ⊢
    exact h.2 j t e
/-- a fresh thing gets a handle -/
theorem World.push {l : Addr} {o : MO} (w : World K Hk H M ls) (hl : l ∉ ls) (hn : Hk l = none) (ho : MOr K Hk H ls M.length l o) : World K Hk H (M ++ [o]) (ls ++ [l]) where
  sub := w.sub
  len := by rw [List.length_append, List.length_append, w.len]; rfl
  nd := by
    rw [List.nodup_append]
    refine ⟨w.nd, by simp, fun a ha b hb => ?_⟩
    have : b = l := by simpa using hb
    subst this
    exact fun e => hl (e ▸ ha)
  dj := fun a ha => by
    rcases List.mem_append.mp ha with h | h
    · exact w.dj a h
    · have : a = l := by simpa using h
      subst this; exact hn
  ms := fun k x e => by
    by_cases hk : k < M.length
    · rw [List.getElem?_append_left hk] at e
      obtain ⟨l', a, b⟩ := w.ms k x e
      refine ⟨l', by rw [List.getElem?_append_left (List.getElem?_eq_some_iff.mp a).1]; exact a, ?_⟩
      cases x with
      | l xs => obtain ⟨vs, p, q⟩ := b; exact ⟨vs, p, q.more⟩
      | d ks xs => obtain ⟨vs, p, q, r⟩ := b; exact ⟨vs, p, q, r.more⟩
      | i C ns xs => exact b
    · have hk2 : k = M.length := by
        have := (List.getElem?_eq_some_iff.mp e).1
        rw [List.length_append] at this
        simp at this
        omega
      subst hk2
      rw [List.getElem?_append_right (Nat.le_refl _)] at e
      simp at e
      subst e
      refine ⟨l, by rw [w.len, List.getElem?_append_right (Nat.le_refl _)]; simp, ?_⟩
      cases o with
      | l xs => obtain ⟨vs, p, q⟩ := ho; exact ⟨vs, p, q.more⟩
      | d ks xs => obtain ⟨vs, p, q, r⟩ := ho; exact ⟨vs, p, q, r.more⟩
      | i C ns xs => exact ho
end

/-! ### statements -/
inductive Out where
  | nx (ρ : Env) (M : MS) | rt (r : R) (M : MS) | bk (ρ : Env) (M : MS) | ct (ρ : Env) (M : MS)
abbrev SM := Env → MS → Option Out
def OutR (K : PySem.W.Frag) (ls : List Addr) (Hk H : Hp) (E : Ends) : Out → Prop
  | .nx ρ' M' => ∀ σ' Hk' H' ls', World K Hk' H' M' ls' → ExtS ls ls' Hk H Hk' H' → EnvR K Hk' ls' σ' ρ' → E.nx σ' H'
  | .rt r M' => ∀ v Hk' H' ls', World K Hk' H' M' ls' → ExtS ls ls' Hk H Hk' H' → Rr K H Hk' H' ls' v r → E.rt v H'
  | .bk ρ' M' => ∀ σ' Hk' H' ls', World K Hk' H' M' ls' → ExtS ls ls' Hk H Hk' H' → EnvR K Hk' ls' σ' ρ' → E.bk σ' H'
  | .ct ρ' M' => ∀ σ' Hk' H' ls', World K Hk' H' M' ls' → ExtS ls ls' Hk H Hk' H' → EnvR K Hk' ls' σ' ρ' → E.ct σ' H'
def tS (K : PySem.W.Frag) (m : SM) : TS := fun E σ H => ∃ Hk ls ρ M o, World K Hk H M ls ∧ EnvR K Hk ls σ ρ ∧ m ρ M = some o ∧ OutR K ls Hk H E o
abbrev PSm (X : Cx) (st : Stmt) (m : SM) : Prop := PS X st (tS X.K m)
abbrev PSsm (X : Cx) (st : List Stmt) (m : SM) : Prop := PSs X st (tS X.K m)
theorem OutR.back {K : PySem.W.Frag} {ls ls1 : List Addr} {Hk H Hk1 H1 : Hp} {E : Ends} {o : Out} (x : ExtS ls ls1 Hk H Hk1 H1) (h : OutR K ls Hk H E o) : OutR K ls1 Hk1 H1 E o := by
  cases o with
  | nx ρ M => exact fun σ' Hk' H' ls' w' x' e' => h σ' Hk' H' ls' w' (x.trans x') e'
  | rt r M => exact fun v Hk' H' ls' w' x' e' => h v Hk' H' ls' w' (x.trans x') (e'.backS x)
  | bk ρ M => exact fun σ' Hk' H' ls' w' x' e' => h σ' Hk' H' ls' w' (x.trans x') e'
  | ct ρ M => exact fun σ' Hk' H' ls' w' x' e' => h σ' Hk' H' ls' w' (x.trans x') e'
section
variable {X : Cx} {st : Stmt} {rest : List Stmt} {e c : Expr} {m m1 m2 : SM} {me : EM R} {mc : EM Bool} {pos : Pos}
def sNext : SM := fun ρ M => some (.nx ρ M)
def sSeq (m1 m2 : SM) : SM := fun ρ M => match m1 ρ M with
  | some (.nx ρ' M') => m2 ρ' M'
  | o => o
theorem psm_nil : PSsm X [] sNext := PSs.imp pss_nil fun E σ H ⟨Hk, ls, ρ, M, o, w, en, hm, q⟩ => by
  cases hm
  exact q σ Hk H ls w (ExtS.refl _ _ _) en
theorem psm_cons (h1 : PSm X st m1) (h2 : PSsm X rest m2) : PSsm X (st :: rest) (sSeq m1 m2) := PSs.imp (pss_cons h1 h2) fun E σ H ⟨Hk, ls, ρ, M, o, w, en, hm, q⟩ => by
  unfold sSeq at hm
  cases h : m1 ρ M with
  | none => rw [h] at hm; cases hm
  | some o1 =>
    rw [h] at hm
    refine ⟨Hk, ls, ρ, M, o1, w, en, h, ?_⟩
    cases o1 with
    | nx ρ' M' => exact fun σ' Hk' H' ls' w' x' en' => ⟨Hk', ls', ρ', M', o, w', en', hm, q.back x'⟩
    | rt r M' => cases hm; exact q
    | bk ρ' M' => cases hm; exact q
    | ct ρ' M' => cases hm; exact q
theorem psm_one (h1 : PSm X st m1) : PSsm X [st] m1 := pss_one h1
def sPass : SM := sNext
theorem psm_pass : PSm X (.Pass pos) sNext := PS.imp ps_pass fun E σ H ⟨Hk, ls, ρ, M, o, w, en, hm, q⟩ => by
  cases hm
  exact q σ Hk H ls w (ExtS.refl _ _ _) en
def sBreak : SM := fun ρ M => some (.bk ρ M)
def sCont : SM := fun ρ M => some (.ct ρ M)
theorem psm_break : PSm X (.Break pos) sBreak := PS.imp ps_break fun E σ H ⟨Hk, ls, ρ, M, o, w, en, hm, q⟩ => by
  cases hm
  exact q σ Hk H ls w (ExtS.refl _ _ _) en
theorem psm_cont : PSm X (.Continue pos) sCont := PS.imp ps_continue fun E σ H ⟨Hk, ls, ρ, M, o, w, en, hm, q⟩ => by
  cases hm
  exact q σ Hk H ls w (ExtS.refl _ _ _) en
/-- return e -/
def sRet (me : EM R) : SM := fun ρ M => match me ρ M with
  | some (r, M') => some (.rt r M')
  | none => none
theorem psm_ret (h : PM X e me) : PSm X (.Return (some e) pos) (sRet me) := PS.imp (ps_ret h) fun E σ H ⟨Hk, ls, ρ, M, o, w, en, hm, q⟩ => by
  unfold sRet at hm
  cases hr : me ρ M with
  | none => rw [hr] at hm; cases hm
  | some p =>
    obtain ⟨r, M'⟩ := p
    rw [hr] at hm
    cases hm
    exact ⟨Hk, ls, ρ, M, r, M', w, en, hr, fun v Hk' H' w' x' r' => q v Hk' H' ls w' x'.s r'⟩
def sRetN : SM := fun ρ M => some (.rt (.sv (.dt .non)) M)
theorem psm_retN : PSm X (.Return none pos) sRetN := PS.imp ps_retN fun E σ H ⟨Hk, ls, ρ, M, o, w, en, hm, q⟩ => by
  cases hm
  exact q .non Hk H ls w (ExtS.refl _ _ _) Rp.non
/-- an expression's value dropped -/
def sExpr (me : EM R) : SM := fun ρ M => match me ρ M with
  | some (_, M') => some (.nx ρ M')
  | none => none
theorem psm_expr (h : PM X e me) (hs : swapsWith e none pos.line X.env = pure false := by rfl) : PSm X (.Expr e pos) (sExpr me) := PS.imp (ps_expr h hs) fun E σ H ⟨Hk, ls, ρ, M, o, w, en, hm, q⟩ => by
  unfold sExpr at hm
  cases hr : me ρ M with
  | none => rw [hr] at hm; cases hm
  | some p =>
    obtain ⟨r, M'⟩ := p
    rw [hr] at hm
    cases hm
    exact ⟨Hk, ls, ρ, M, r, M', w, en, hr, fun v Hk' H' w' x' r' => q σ Hk' H' ls w' x'.s (en.mono x'.kk)⟩
theorem psm_doc {x j pos'} : PSm X (.Expr (.Constant (.str x) j pos) pos') sNext := PS.imp ps_doc fun E σ H ⟨Hk, ls, ρ, M, o, w, en, hm, q⟩ => by
  cases hm
  exact q σ Hk H ls w (ExtS.refl _ _ _) en
/-- if -/
def sIf (c : EM Bool) (m1 m2 : SM) : SM := fun ρ M => match c ρ M with
  | some (true, M') => m1 ρ M'
  | some (false, M') => m2 ρ M'
  | none => none
theorem psm_if {a b : List Stmt} (hc : PTm X c mc) (ha : PSsm X a m1) (hb : PSsm X b m2) : PSm X (.If c a b pos) (sIf mc m1 m2) := PS.imp (ps_if hc ha hb) fun E σ H ⟨Hk, ls, ρ, M, o, w, en, hm, q⟩ => by
  unfold sIf at hm
  cases hr : mc ρ M with
  | none => rw [hr] at hm; cases hm
  | some p =>
    obtain ⟨k, M'⟩ := p
    rw [hr] at hm
    refine ⟨Hk, ls, ρ, M, k, M', w, en, hr, fun Hk' H' w' x' => ?_⟩
    cases k with
    | true => rw [if_pos rfl]; exact ⟨Hk', ls, ρ, M', o, w', en.mono x'.kk, hm, q.back x'.s⟩
    | false => rw [if_neg Bool.false_ne_true]; exact ⟨Hk', ls, ρ, M', o, w', en.mono x'.kk, hm, q.back x'.s⟩

/-! ### name = e -/
/-- the value is a datum from here on -/
def sSet (i : Nat) (me : EM R) : SM := fun ρ M => match me ρ M with
  | some (r, M') => some (.nx (ρ.set i (some r.toSV)) M')
  | none => none
/-- a fresh list (dict) gets a handle -/
def sNew (i : Nat) (me : EM R) : SM := fun ρ M => match me ρ M with
  | some (.sv s, M') => some (.nx (ρ.set i (some s)) M')
  | some (.fr ds, M') => some (.nx (ρ.set i (some (.mu M'.length))) (M' ++ [.l (ds.map .dt)]))
  | some (.fd ks ds, M') => some (.nx (ρ.set i (some (.mu M'.length))) (M' ++ [.d ks (ds.map .dt)]))
  | none => none
theorem sset_go {i : Nat} : ∀ (E : Ends) (σ : St) (H : Hp), tS X.K (sSet i me) E σ H → tAsg (tM X.K me) (gName i) E σ H := fun E σ H ⟨Hk, ls, ρ, M, o, w, en, hm, q⟩ => by
  unfold sSet at hm
  cases hr : me ρ M with
  | none => rw [hr] at hm; cases hm
  | some p =>
    obtain ⟨r, M'⟩ := p
    rw [hr] at hm
    cases hm
    refine ⟨Hk, ls, ρ, M, r, M', w, en, hr, fun v Hk' H' w' x' r' => ?_⟩
    obtain ⟨Hk2, w2, x2, s2⟩ := r'.freeze w' x'
    exact q _ Hk2 H' ls w2 x2.s ((en.mono x2.kk).set s2)
theorem snew_go {i : Nat} : ∀ (E : Ends) (σ : St) (H : Hp), tS X.K (sNew i me) E σ H → tAsg (tM X.K me) (gName i) E σ H := fun E σ H ⟨Hk, ls, ρ, M, o, w, en, hm, q⟩ => by
  unfold sNew at hm
  cases hr : me ρ M with
  | none => rw [hr] at hm; cases hm
  | some p =>
    obtain ⟨r, M'⟩ := p
    rw [hr] at hm
    refine ⟨Hk, ls, ρ, M, r, M', w, en, hr, fun v Hk' H' w' x' r' => ?_⟩
    cases r with
    | sv s =>
      cases hm
      exact q _ Hk' H' ls w' x'.s ((en.mono x'.kk).set r')
    | fr ds =>
      cases hm
      obtain ⟨l, vs, rfl, h0, hn, hl, hh, ha⟩ := r'
      have w2 := w'.push (o := .l (ds.map .dt)) hl hn ⟨vs, hh, SVs.ofA ha⟩
      have x2 : ExtS ls (ls ++ [l]) Hk H Hk' H' := ⟨⟨[l], rfl⟩, x'.kk, x'.fr, x'.gr, fun a ha => by
        rcases List.mem_append.mp ha with h | h
        · exact .inl h
        · have : a = l := by simpa using h
          subst this; exact .inr h0, x'.st⟩
      refine q _ Hk' H' _ w2 x2 ((en.extS x2).set ⟨by rw [w'.len]; simp, l, ?_, rfl⟩)
      rw [w'.len, List.getElem?_append_right (Nat.le_refl _)]
      simp
    | fd ks ds =>
      cases hm
      obtain ⟨l, kvs, rfl, h0, hn, hl, hh, hk, ha⟩ := r'
      have w2 := w'.push (o := .d ks (ds.map .dt)) hl hn ⟨kvs, hh, hk, SVs.ofA ha⟩
      have x2 : ExtS ls (ls ++ [l]) Hk H Hk' H' := ⟨⟨[l], rfl⟩, x'.kk, x'.fr, x'.gr, fun a ha => by
        rcases List.mem_append.mp ha with h | h
        · exact .inl h
        · have : a = l := by simpa using h
          subst this; exact .inr h0, x'.st⟩
      refine q _ Hk' H' _ w2 x2 ((en.extS x2).set ⟨by rw [w'.len]; simp, l, ?_, rfl⟩)
      rw [w'.len, List.getElem?_append_right (Nat.le_refl _)]
      simp
theorem psm_set {i : Nat} (h : PS X st (tAsg (tM X.K me) (gName i))) : PSm X st (sSet i me) := PS.imp h sset_go
theorem psm_new {i : Nat} (h : PS X st (tAsg (tM X.K me) (gName i))) : PSm X st (sNew i me) := PS.imp h snew_go
end

/-! ### defs -/
abbrev Fn := List SV → MS → Option (R × MS)
def spM (K : PySem.W.Frag) (n : Nat) (f : Fn) : Sp := fun vs H Q _ => ∃ Hk ls M ss z M', World K Hk H M ls ∧ SVs K Hk ls ls.length vs ss ∧ ss.length = n ∧ f ss M = some (z, M') ∧ Res K ls Hk H z M' Q
def eFn (f : Fn) (ms : EM (List SV)) : EM R := ms.seq fun ss => fun _ M => f ss M
theorem efn_go {X : Cx} {f : Fn} {n : Nat} {ms : EM (List SV)} {E : XK} (hn : ∀ ρ M ss M', ms ρ M = some (ss, M') → ss.length = n) : ∀ σ H Q, tM X.K (eFn f ms) σ H Q → tCall (spM X.K n f) [] E (tA X.K ms) σ H Q := fun σ H Q ⟨Hk, ls, ρ, M, z, M', w, en, hm, q⟩ => by
  obtain ⟨ss, M1, h1, h2⟩ := seq_some hm
  refine ⟨Hk, ls, ρ, M, ss, M1, w, en, h1, fun vs Hk1 H1 w1 x1 r1 => ?_⟩
  show spM X.K n f (vs ++ []) H1 Q E
  rw [List.append_nil]
  exact ⟨Hk1, ls, M1, ss, z, M', w1, r1, hn ρ M ss M1 h1, h2, q.back x1⟩
/-- how many there are -/
theorem len_nil : ∀ (ρ : Env) (M : MS) (ss : List SV) (M' : MS), eNil ρ M = some (ss, M') → ss.length = 0 := fun ρ M ss M' h => by cases h; rfl
theorem len_cons {m : EM R} {ms : EM (List SV)} {n : Nat} (h : ∀ (ρ : Env) (M : MS) (ss : List SV) (M' : MS), ms ρ M = some (ss, M') → ss.length = n) : ∀ (ρ : Env) (M : MS) (ss : List SV) (M' : MS), eCons m ms ρ M = some (ss, M') → ss.length = n + 1 := fun ρ M ss M' e => by
  obtain ⟨s, M1, h1, h2⟩ := seq_some e
  obtain ⟨r, M2, h3, h4⟩ := seq_some h2
  cases h4
  exact congrArg (· + 1) (h ρ M1 r _ h3)
def close (r : R) (M' : MS) (n : Nat) : Option (R × MS) := match r with
  | .sv (.dt d) => some (.sv (.dt d), M'.take n)
  | .sv (.mu k) => if k < n then some (.sv (.mu k), M'.take n) else match M'[k]? with
    | some (.l xs) => match allD xs with
      | some ds => some (.fr ds, M'.take n)
      | none => none
    | some (.d ks xs) => match allD xs with
      | some ds => some (.fd ks ds, M'.take n)
      | none => none
    | _ => none
  | .fr ds => some (.fr ds, M'.take n)
  | .fd ks ds => some (.fd ks ds, M'.take n)
def runBody (b : SM) (n : Nat) : Fn := fun ss M => match b (ss.map some ++ List.replicate (n - ss.length) none) M with
  | some (.rt r M') => close r M' M.length
  | some (.nx _ M') => some (.sv (.dt .non), M'.take M.length)
  | _ => none
section
variable {K : PySem.W.Frag} {Hk H Hk' H' : Hp} {M M' : MS} {ls ls' : List Addr}
theorem SVr.less {n : Nat} {v : V} {s : SV} {t : List Addr} (hn : n ≤ ls.length) (h : SVr K Hk (ls ++ t) n v s) : SVr K Hk ls n v s := by
  cases s with
  | dt d => exact h
  | mu k =>
    obtain ⟨a, l, b, c⟩ := h
    refine ⟨a, l, ?_, c⟩
    rw [List.getElem?_append_left (Nat.lt_of_lt_of_le a hn)] at b
    exact b
theorem SVs.less {n : Nat} {t : List Addr} (hn : n ≤ ls.length) : ∀ {vs : List V} {ss : List SV}, SVs K Hk (ls ++ t) n vs ss → SVs K Hk ls n vs ss
  | _, _, .nil => .nil
  | _, _, .cons r u => .cons (r.less hn) (SVs.less hn u)
theorem World.cut {t : List Addr} (w : World K Hk H M (ls ++ t)) : World K Hk H (M.take ls.length) ls where
  sub := w.sub
  len := by
    have := w.len
    rw [List.length_append] at this
    rw [List.length_take]
    omega
  nd := (List.nodup_append.mp w.nd).1
  dj := fun l h => w.dj l (List.mem_append_left _ h)
  ms := fun k o e => by
    have hk : k < ls.length := by
      have := (List.getElem?_eq_some_iff.mp e).1
      rw [List.length_take] at this
      omega
    rw [List.getElem?_take_of_lt hk] at e
    obtain ⟨l, a, b⟩ := w.ms k o e
    rw [List.getElem?_append_left hk] at a
    refine ⟨l, a, ?_⟩
    cases o with
    | l xs => obtain ⟨vs, p, q⟩ := b; exact ⟨vs, p, q.less (Nat.le_of_lt hk)⟩
    | d ks xs => obtain ⟨vs, p, q, r⟩ := b; exact ⟨vs, p, q, r.less (Nat.le_of_lt hk)⟩
    | i C ns xs => exact b
theorem ExtS.e (x : ExtS ls ls' Hk H Hk' H') : Ext ls Hk H Hk' H' := ⟨x.kk, x.fr, x.gr, x.st⟩
theorem start_env {N : List Str} {vs : List V} {ss : List SV} (h : SVs K Hk ls ls.length vs ss) : EnvR K Hk ls (L2.start N vs) (ss.map some ++ List.replicate (N.length - ss.length) none) := by
  unfold L2.start
  rw [← h.length]
  refine ⟨by simp [h.length], fun i s e => ?_⟩
  by_cases hi : i < ss.length
  · rw [List.getElem?_append_left (by simpa using hi), List.getElem?_map] at e
    cases hs : ss[i]? with
    | none => rw [hs] at e; cases e
    | some s' =>
      rw [hs] at e
      cases e
      obtain ⟨v, hv, rv⟩ := h.get hs
      refine ⟨v, ?_, rv⟩
      rw [List.getElem?_append_left (by simpa [h.length] using hi), List.getElem?_map, hv]
      rfl
  · rw [List.getElem?_append_right (by simpa using hi)] at e
    rw [List.getElem?_replicate] at e
    split at e <;> cases e
/-- a def's body keeps the def's word -/
theorem body_go {E : XK} {N : List Str} {b : SM} {n : Nat} {vs : List V} {Q : VK} (h : spM K n (runBody b N.length) vs H Q E) : tS K b { nx := fun _ H' => Q .non H', rt := Q } (L2.start N vs) H := by
  obtain ⟨Hk, ls, M, ss, z, M', w, r, hn, hf, q⟩ := h
  unfold runBody at hf
  cases hb : b (ss.map some ++ List.replicate (N.length - ss.length) none) M with
  | none => rw [hb] at hf; cases hf
  | some o =>
    rw [hb] at hf
    refine ⟨Hk, ls, _, M, o, w, start_env r, hb, ?_⟩
    cases o with
    | bk ρ M1 => cases hf
    | ct ρ M1 => cases hf
    | nx ρ M1 =>
      cases hf
      intro σ' Hk' H' ls' w' x' en'
      obtain ⟨t, rfl⟩ := x'.pre
      rw [w.len] at q
      exact q .non Hk' H' w'.cut x'.e Rp.non
    | rt r1 M1 =>
      intro v Hk' H' ls' w' x' r'
      obtain ⟨t, rfl⟩ := id x'.pre
      simp only at hf
      unfold close at hf
      rw [w.len] at hf
      have lsin : ∀ l, l ∉ ls ++ t → l ∉ ls := fun l h z => h (List.mem_append_left _ z)
      split at hf
      · cases hf
        exact q v Hk' H' w'.cut x'.e r'
      · rename_i k
        split at hf
        · rename_i hk
          cases hf
          obtain ⟨_, l, a, rfl⟩ := r'
          rw [List.getElem?_append_left hk] at a
          exact q _ Hk' H' w'.cut x'.e ⟨hk, l, a, rfl⟩
        · rename_i hk
          obtain ⟨hk2, l, a, rfl⟩ := r'
          have hl : l ∉ ls := fun z => by
            obtain ⟨j, hj, ej⟩ := List.getElem_of_mem z
            have ej2 : (ls ++ t)[j]? = some l := by rw [List.getElem?_append_left hj, List.getElem?_eq_getElem hj, ej]
            have := (List.getElem?_eq_some_iff.mp a)
            have this2 := (List.getElem?_eq_some_iff.mp ej2)
            have e := (List.getElem_inj w'.nd).mp (this.2.trans this2.2.symm)
            omega
          have hmem : l ∈ ls ++ t := List.mem_of_getElem? a
          have h0 : H l = none := by
            rcases x'.nw l hmem with z | z
            · exact absurd z hl
            · exact z
          split at hf
          · rename_i xs hM
            split at hf
            · rename_i ds hd
              cases hf
              obtain ⟨l', a', vs', p, qq⟩ := w'.ms k _ hM
              rw [a] at a'
              cases a'
              exact q _ Hk' H' w'.cut x'.e ⟨l, vs', rfl, h0, w'.dj l hmem, hl, p, qq.toA hd⟩
            · cases hf
          · rename_i ks xs hM
            split at hf
            · rename_i ds hd
              cases hf
              obtain ⟨l', a', kvs, p, pk, qq⟩ := w'.ms k _ hM
              rw [a] at a'
              cases a'
              exact q _ Hk' H' w'.cut x'.e ⟨l, kvs, rfl, h0, w'.dj l hmem, hl, p, pk, qq.toA hd⟩
            · cases hf
          · cases hf
      · cases hf
        obtain ⟨l, vs', rfl, a, b1, c, d, e⟩ := r'
        exact q _ Hk' H' w'.cut x'.e ⟨l, vs', rfl, a, b1, lsin l c, d, e⟩
      · cases hf
        obtain ⟨l, vs', rfl, a, b1, c, d, e⟩ := r'
        exact q _ Hk' H' w'.cut x'.e ⟨l, vs', rfl, a, b1, lsin l c, d, e⟩
end
theorem spM_len {K : PySem.W.Frag} {n : Nat} {f : Fn} {ps : List Str} (h : ps.length = n) : ∀ vs H Q E, spM K n f vs H Q E → vs.length = ps.length := fun vs H Q E ⟨Hk, ls, M, ss, z, M', w, r, hn, _⟩ => by
  rw [r.length, hn, h]
end Dy

set_option Elab.async false
set_option linter.all false
set_option maxRecDepth 100000
set_option maxHeartbeats 4000000
/-! Layer Dy, part A: enumerate over a tuple. -/
namespace Dy
open PySem PySem.Spec PyProof.Rows L2
set_option maxHeartbeats 8000000 in
theorem meets_enum_one {v : Value} {o : Obj} {H : Heap → Prop} (B : Begins v o H) :
    Meets (Builtin.«enumerate.__new__» ⟨[.type "enumerate", v], []⟩) (fun _ R s => H s.heap ∧
      R (.ok (.ret (.ref (s.heap.push o).objs.size))) { s with heap := (s.heap.push o).push { cls := .type "enumerate", data := .fields #[.none, .bool false, .ref s.heap.objs.size, rawInt 0, .none, .none] } }) :=
  .of_wp fun prog w A R s h => by
    obtain ⟨hp, g, d, tk, os⟩ := s; obtain ⟨h1, h⟩ := h
    have hsub := sub_enumerate
    have q1 : ∀ {A' : Around} {E : Value → Shared → Prop} {Q : Value → Shared → Prop}, Q (.ref hp.objs.size) ⟨hp.push o, g, d, tk, os⟩ → wpAny (model prog w) A' (pyIter v) Q E ⟨hp, g, d, tk, os⟩ :=
      fun q => B.iter prog w _ _ ⟨hp, g, d, tk, os⟩ _ h1 q
    wp_walk using q1
    refine wpAny_stack_any fun st => wpAny_pure ?_
    split
    · rename_i c _ _ _ _ _
      cases (c == Value.type "enumerate")
      · wp_walk using q1
        exact ⟨_, rfl, h⟩
      · wp_walk using q1
        exact ⟨_, rfl, h⟩
    · wp_walk using q1
      exact ⟨_, rfl, h⟩
theorem enum_one {prog : Program} {w : PySem.World} {A : Around} {E : Value → Shared → Prop} {s : Shared} {v : Value} {o : Obj} {H : Heap → Prop} {Q : Value → Shared → Prop} (B : Begins v o H) (h1 : H s.heap)
    (h : ∀ h', IsEnum h' (s.heap.objs.size + 1) s.heap.objs.size 0 .none → h'.get? s.heap.objs.size = some o → h'.objs.size = s.heap.objs.size + 2 →
      (∀ b o, s.heap.get? b = some o → h'.get? b = some o) → Q (.ref (s.heap.objs.size + 1)) { s with heap := h' }) :
    wpAny (model prog w) A (call (.type "enumerate") [v]) Q E s := by
  refine callType_new F.called_enumerate (by decide) (F.typeCall_enumerate_1 _) (F.newCall_enumerate_1 _) (fun obj => F.args_object_init_2 obj _) F.entry_enumerate_new
    (meets_enum_one B) ⟨h1, ?_⟩
  have hz : (s.heap.push o).objs.size = s.heap.objs.size + 1 := Heap.size_push ..
  show _ ∧ _
  rw [hz]
  have he : IsEnum ((s.heap.push o).push { cls := .type "enumerate", data := .fields #[.none, .bool false, .ref s.heap.objs.size, rawInt 0, .none, .none] }) (s.heap.objs.size + 1) s.heap.objs.size 0 .none := by
    have := Heap.get?_push_size (s.heap.push o) (o := { cls := .type "enumerate", data := .fields #[.none, .bool false, .ref s.heap.objs.size, rawInt 0, .none, .none] }) rfl
    rw [hz] at this; exact this
  refine ⟨⟨_, he, rfl⟩, h _ he (Heap.get?_push_of_some _ (Heap.get?_push_size _ B.free)) (by rw [Heap.size_push, hz]) fun b o x => Heap.get?_push_of_some _ (Heap.get?_push_of_some _ x)⟩
theorem enum_endT {prog : Program} {w : PySem.World} {A : Around} {E : Value → Shared → Prop} {s : Shared} {e it a : Addr} {i : Nat} {k : Int} {items : Array Value} {old : Value} {Q : Option Value → Shared → Prop}
    (hh : A.handled = none) (he : IsEnum s.heap e it k old) (hit : s.heap.IsTupleIter it a i) (ht : s.heap.IsTuple a items) (hx : items[i]? = none)
    (hQ : ∀ h', Heap.ExtBut it s.heap h' → Q none { s with heap := h' }) : wpAny (model prog w) A (pyNext (.ref e)) Q E s := by
  have hT : s.TypeIs (.ref e) "enumerate" := ⟨_, he, rfl⟩
  unfold pyNext
  refine wpAny_bind (wpAny_attempt (wpAny_callSpecial?_slot (name := Str.ofString "__next__") hT F.slot_enumerate_next
    (wpAny_call_entry F.slot_enumerate_next hT F.entry_enumerate_next ?_ (F.args_enumerate_next_1 _))))
  show wpAny _ _ (field (.ref e) 2 >>= _) _ _ _
  refine wpAny_bind (wpAny_field he rfl (x := .ref it) rfl ?_)
  refine wpAny_bind (wpAny_nextOf_tuple_end (A := A.in1) hh hit ht hx fun h' x he' hx' => ?_)
  obtain ⟨o, ho, hc⟩ := hx'
  refine wpAny_bind (wpAny_isInstance (T := "StopIteration") (b := true) ⟨o, ho, hc⟩ isSubtype_stop ?_)
  exact wpAny_pure (hQ _ he')
/-- the tuple at a, each item in a new pair -/
def IteT (K : PySem.W.Frag) (a : Addr) : It :=
  ⟨fun i H => ∃ (xs : List V) (x : V), SqT K H a xs ∧ xs[i]? = some x, fun i H v H' => ∃ T x, v = .ref T ∧ H T = none ∧ H' = upd H T (.tup [.int (i : Nat), x]) ∧ ∀ xs, SqT K H a xs → xs[i]? = some x, fun i H => ∃ xs : List V, SqT K H a xs ∧ xs.length ≤ i⟩
theorem turn_enumT {P : Program} {w : PySem.World} {K : PySem.W.Frag} {elts : List Expr} {kk : Nat} {tpos : Pos} (a e it : Addr) :
    Turn P w K (.Tuple elts kk tpos) (IteT K a) [e, it] e (fun i h => (∃ old, IsEnum h e it ((i : Nat) : Int) old) ∧ h.IsTupleIter it a i ∧ e ≠ it) where
  mem := by simp
  obj := fun i h st b hb => by
    obtain ⟨⟨old, he⟩, ⟨o, ho, hc, hd⟩, _⟩ := st
    have e' : b = e ∨ b = it := by simpa using hb
    rcases e' with z | z
    · rw [z]; exact ⟨_, he, fun v q => nomatch q⟩
    · rw [z]; exact ⟨o, ho, fun v q => by rw [hd] at q; cases q⟩
  keep := fun i h h' st k => let ⟨⟨old, he⟩, hi, hne⟩ := st; ⟨⟨old, k e (by simp) _ he⟩, hi.at fun o q => k it (by simp) o q, hne⟩
  item := by
    intro X hP hw hK hc i pins s σ H E I hf st hg
    subst hP hw hK
    obtain ⟨⟨old, he⟩, hit, hne⟩ := st
    obtain ⟨xs, x, hq, hx⟩ := hg
    obtain ⟨its, rv, p, hz⟩ := I.tuple hq
    obtain ⟨u, hu, ru⟩ := rv.get hx
    have hel : e < s.heap.objs.size := Heap.lt_size he
    have hil : it < s.heap.objs.size := by obtain ⟨_, q, _⟩ := hit; exact Heap.lt_size q
    have hta : s.heap.IsTuple a its.toArray := p
    obtain ⟨ot, hot, hct, nt, hdt⟩ := hta
    have hai : a ≠ it := fun z => by
      obtain ⟨oi, q, c, _⟩ := hit
      rw [z, q] at hot
      cases hot
      rw [c] at hct
      exact absurd (Value.type.inj hct) (by decide)
    have hae : a ≠ e := fun z => by
      have q : s.heap.get? e = some _ := he
      rw [z, q] at hot
      cases hot
      exact absurd (Value.type.inj hct) (by decide)
    have D := Draws.tuple (prog := X.prog) (w := X.w) (A := X.A.in1) (I.ok.hd hc) it a hai its.toArray
    have hlt : i < its.toArray.size := by
      have := (List.getElem?_eq_some_iff.mp hu).1
      simpa using this
    refine wpAny_pyNext_enum_itemC D he ⟨hit, p⟩ hlt hne (by simp [hne, Ne.symm hae]) fun x' h' tk hP ho hst hT hsz hk => ?_
    have hx' : x' = u := by
      have h1 : its[i]? = some x' := by simpa using hP
      rw [hu] at h1
      exact (Option.some.inj h1).symm
    subst hx'
    refine ⟨_, rfl, wpAny_letOwnedTupleGo_enum (s := { s with heap := h', toks := tk + 1 }) ho fun h'' he' sb => ?_⟩
    have hT2 : h''.get? s.heap.objs.size = some { cls := .type "tuple", data := .seq #[.int i tk, x'] } := (sb.2 _ (Nat.ne_of_gt hel)).trans hT
    have new : ObjOk X.prog X.w (upd H s.heap.objs.size (.tup [.int (i : Nat), x])) h'' s.heap.objs.size (.tup [.int (i : Nat), x]) :=
      ⟨by show 2 ≤ sizeLine; decide, [.int i tk, x'], .cons ⟨_, rfl⟩ (.cons ru .nil), ⟨_, hT2, rfl, _, rfl⟩⟩
    have I1 : Inv X pins σ (upd H s.heap.objs.size (.tup [.int (i : Nat), x])) { s with heap := h'', toks := tk + 1 } :=
      I.turnedNew (ch := [e, it]) (fun b ob hb q => (sb.2 b (fun z => hb (by simp [z]))).trans (hk b ob (fun z => hb (by simp [z])) (fun z => hb (by simp [z])) q)) hf (Nat.le_refl _) new
    refine ⟨.ref s.heap.objs.size, _, I1, rfl, ⟨_, x, rfl, I.hok.fresh (Nat.le_refl _), rfl, fun ys hy => by rw [I.tuple_inj hy hq]; exact hx⟩, ⟨⟨x', ?_⟩, hst.1.at fun o q => (sb.2 it (Ne.symm hne)).trans q, hne⟩, fun b hb => ?_⟩
    · have e1 : ((i + 1 : Nat) : Int) = (i : Int) + 1 := by omega
      rw [e1]; exact he'
    · have hb' : b < s.heap.objs.size := by
        have e' : b = e ∨ b = it := by simpa using hb
        rcases e' with z | z
        · rw [z]; exact hel
        · rw [z]; exact hil
      rw [upd_ne (Nat.ne_of_lt hb')]
      exact (hf b hb).1
  done := by
    intro X hP hw hK hc i pins s σ H E I hf st hg
    subst hP hw hK
    obtain ⟨⟨old, he⟩, hit, hne⟩ := st
    obtain ⟨xs, hq, hx⟩ := hg
    obtain ⟨its, rv, p, hz⟩ := I.tuple hq
    obtain ⟨f0, f1, f2, f3, f4, f5⟩ := hf it (by simp)
    have hl := rv.length
    exact enum_endT (I.ok.hd hc) he hit (show s.heap.IsTuple a its.toArray from p) (by simp; omega) fun h' eb => ⟨rfl, I.turned (t' := s.toks) (fun b o hb q => eb b o hb q) f0 f1 f3 f4 f5⟩
  self := fun A i s Q E st h => let ⟨⟨_, he⟩, _⟩ := st; wpAny_pyIter_enum he h
def iEnumT (K : PySem.W.Frag) (ta : TA) : TI := fun σ H R => ta σ H fun vs H1 => ∃ a xs, vs = [.ref a] ∧ SqT K H1 a xs ∧ R (IteT K a) H1
theorem pi_enumT {X : Cx} {e : Expr} {ta : TA} {p pos tpos : Pos} {elts : List Expr} {kk : Nat} (hg : Gl X "enumerate") (hm : X.mg "enumerate" = none) (ha : PA X [e] ta) (hs : starEach [e] X.env = [(false, eval e X.env)] := by rfl) :
    PI X (.Tuple elts kk tpos) (.Call (.Name "enumerate" p) [e] [] pos) (iEnumT X.K ta) := by
  refine ⟨fun pins s σ H R I h => ?_⟩
  refine Call_ (ld_blt I hg hm boot_enumerate (PyProof.Rows.callWith_type1 (thn (ha.run pos pins s σ H _ I h) fun us s1 ⟨vs, H1, I1, r1, q1⟩ => ?_) hs rfl))
  obtain ⟨a, xs, ex, hq, q⟩ := q1
  subst ex
  cases r1 with
  | cons r rr =>
    cases rr
    cases r
    obtain ⟨its, rv, p', hz⟩ := I1.tuple hq
    refine enum_one (begins_tuple a its.toArray) p' fun h' he hit hsz hk => wpAny_pyIter_enum he ?_
    have I2 : Inv X pins σ H1 { s1 with heap := h' } := I1.kept (t' := s1.toks) hk
    refine ⟨s1.heap.objs.size + 1, [s1.heap.objs.size + 1, s1.heap.objs.size], _, _, H1, rfl, I2, turn_enumT a (s1.heap.objs.size + 1) s1.heap.objs.size, ⟨⟨.none, he⟩, ⟨_, hit, rfl, rfl⟩, Nat.succ_ne_self _⟩, fun b hb => ?_, q⟩
    have e' : b = s1.heap.objs.size + 1 ∨ b = s1.heap.objs.size := by simpa using hb
    have hle : s1.heap.objs.size ≤ b := by
      rcases e' with z | z
      · rw [z]; exact Nat.le_add_right _ _
      · rw [z]; exact Nat.le_refl _
    exact I1.fpOk hle (I1.hok.fresh hle)
end Dy

set_option Elab.async false
set_option linter.all false
set_option maxRecDepth 100000
set_option maxHeartbeats 4000000
namespace Dy
open PySem L2

/-! ### sources of loops -/
structure Src where
  n : Nat
  get : MS → Nat → Option SV
  stop : MS → Nat → Bool
def SrcR (K : PySem.W.Frag) (ls : List Addr) (Hk : Hp) (J : It) (src : Src) : Prop := ∀ (Hk2 H2 : Hp) (M2 : MS) (ls2 : List Addr), World K Hk2 H2 M2 ls2 → Same Hk Hk2 → (∃ t, ls2 = ls ++ t) →
  (∀ (i : Nat) (x : SV), src.get M2 i = some x → J.go i H2 ∧ ∀ v H3, J.yld i H2 v H3 → ∃ Hk3, World K Hk3 H3 M2 ls2 ∧ Ext ls2 Hk2 H2 Hk3 H3 ∧ SVr K Hk3 ls2 ls2.length v x) ∧ ∀ i, src.stop M2 i = true → J.stop i H2
def tI (K : PySem.W.Frag) (m : EM Src) : TI := fun σ H Rq => ∃ Hk ls ρ M src M', World K Hk H M ls ∧ EnvR K Hk ls σ ρ ∧ m ρ M = some (src, M') ∧ ∀ J Hk' H', World K Hk' H' M' ls → Ext ls Hk H Hk' H' → SrcR K ls Hk' J src → Rq J H'
abbrev PIm (X : Cx) (tg e : Expr) (m : EM Src) : Prop := PI X tg e (tI X.K m)
theorem PI.imp {X : Cx} {tg e : Expr} {t u : TI} (h : PI X tg e t) (i : ∀ σ H Q, u σ H Q → t σ H Q) : PI X tg e u := ⟨fun pins s σ H Q I q => h.run pins s σ H Q I (i σ H Q q)⟩
theorem PI.or {X : Cx} {tg e : Expr} {t u : TI} (h : PI X tg e t) (h' : PI X tg e u) : PI X tg e (fun σ H Q => t σ H Q ∨ u σ H Q) := ⟨fun pins s σ H Q I q => q.elim (h.run pins s σ H Q I) (h'.run pins s σ H Q I)⟩
section
variable {X : Cx} {tg e e2 : Expr} {me me2 : EM R} {pos : Pos}
/-- over a list, a tuple, a text -/
def seqSrc (M : MS) (s : SV) : Option Src := match s with
  | .dt (.str z) => some ⟨z.cps.size, fun _ i => match z.cps[i]? with
    | some c => some (.dt (.str ⟨#[c]⟩))
    | none => none, fun _ i => decide (z.cps.size ≤ i)⟩
  | s => match itemsOf M s with
    | some xs => some ⟨xs.length, fun M' i => match itemsOf M' s with
      | some ys => ys[i]?
      | none => none, fun M' i => match itemsOf M' s with
      | some ys => decide (ys.length ≤ i)
      | none => false⟩
    | none => none
def eSeq (me : EM R) : EM Src := (fz me).seq fun s => fun _ M => match seqSrc M s with
  | some src => some (src, M)
  | none => none
theorem SVs.getV {K : PySem.W.Frag} {Hk : Hp} {ls : List Addr} {n : Nat} : ∀ {vs : List V} {ss : List SV} {i : Nat} {v : V}, SVs K Hk ls n vs ss → vs[i]? = some v → ∃ s, ss[i]? = some s ∧ SVr K Hk ls n v s
  | _, _, _, _, .nil, e => by simp at e
  | _, _, 0, _, .cons r _, e => by simp at e; subst e; exact ⟨_, rfl, r⟩
  | _, _, i + 1, d, .cons _ t, e => by
    obtain ⟨u, h1, h2⟩ := SVs.getV (i := i) (v := d) t (by simpa using e)
    exact ⟨u, by simpa using h1, h2⟩
theorem srcr_list {K : PySem.W.Frag} {ls : List Addr} {Hk H : Hp} {a : Addr} {s : SV} {n : Nat} (r : SVr K Hk ls ls.length (.ref a) s) (hl : ∀ (Hk2 H2 : Hp) (M2 : MS) (ls2 : List Addr), World K Hk2 H2 M2 ls2 → Same Hk Hk2 → (∃ t, ls2 = ls ++ t) → ∀ ys, itemsOf M2 s = some ys → ∃ vs, SqL K H2 a vs ∧ SVs K Hk2 ls2 ls2.length vs ys) :
    SrcR K ls Hk (Itl K a) ⟨n, fun M' i => match itemsOf M' s with
      | some ys => ys[i]?
      | none => none, fun M' i => match itemsOf M' s with
      | some ys => decide (ys.length ≤ i)
      | none => false⟩ := by
  intro Hk2 H2 M2 ls2 w2 k2 p2
  constructor
  · intro i x hx
    dsimp only at hx
    split at hx
    · rename_i ys hy
      obtain ⟨vs, hq, hs⟩ := hl Hk2 H2 M2 ls2 w2 k2 p2 ys hy
      obtain ⟨v, hv, rv⟩ := hs.get hx
      refine ⟨⟨vs, v, hq, hv⟩, fun v' H3 ⟨e3, h3⟩ => ?_⟩
      subst e3
      have := h3 vs hq
      rw [hv] at this
      cases this
      exact ⟨Hk2, w2, Ext.refl _ _ _, rv⟩
    · cases hx
  · intro i hx
    dsimp only at hx
    split at hx
    · rename_i ys hy
      obtain ⟨vs, hq, hs⟩ := hl Hk2 H2 M2 ls2 w2 k2 p2 ys hy
      exact ⟨vs, hq, by rw [hs.length]; exact of_decide_eq_true hx⟩
    · cases hx
theorem srcr_tup {K : PySem.W.Frag} {ls : List Addr} {Hk : Hp} {a : Addr} {ds : List D} {n : Nat} (r : Rp K Hk (.ref a) (.tup ds)) :
    SrcR K ls Hk (Itt K a) ⟨n, fun M' i => match itemsOf M' (.dt (.tup ds)) with
      | some ys => ys[i]?
      | none => none, fun M' i => match itemsOf M' (.dt (.tup ds)) with
      | some ys => decide (ys.length ≤ i)
      | none => false⟩ := by
  intro Hk2 H2 M2 ls2 w2 k2 p2
  cases r with
  | tup hq0 ra =>
    rename_i vs
    have hq : SqT K H2 a vs := same_t w2.sub (same_t k2 hq0)
    have hs : SVs K Hk2 ls2 ls2.length vs (ds.map .dt) := SVs.ofA (ra.mono k2)
    constructor
    · intro i x hx
      have hx : (ds.map SV.dt)[i]? = some x := hx
      obtain ⟨v, hv, rv⟩ := hs.get hx
      refine ⟨⟨vs, v, hq, hv⟩, fun v' H3 ⟨e3, h3⟩ => ?_⟩
      subst e3
      have := h3 vs hq
      rw [hv] at this
      cases this
      exact ⟨Hk2, w2, Ext.refl _ _ _, rv⟩
    · intro i hx
      have hx : decide ((ds.map SV.dt).length ≤ i) = true := hx
      exact ⟨vs, hq, by rw [hs.length]; exact of_decide_eq_true hx⟩
theorem srcr_str {K : PySem.W.Frag} {ls : List Addr} {Hk : Hp} {z : Str} {n : Nat} :
    SrcR K ls Hk (Its z) ⟨n, fun _ i => match z.cps[i]? with
    | some c => some (.dt (.str ⟨#[c]⟩))
    | none => none, fun _ i => decide (z.cps.size ≤ i)⟩ := by
  intro Hk2 H2 M2 ls2 w2 k2 p2
  constructor
  · intro i x hx
    dsimp only at hx
    split at hx
    · rename_i c hc
      cases hx
      have hi : i < z.cps.size := (Array.getElem?_eq_some_iff.mp hc).1
      refine ⟨hi, fun v H3 ⟨e3, c', h3, ev⟩ => ?_⟩
      subst e3
      rw [hc] at h3
      cases h3
      subst ev
      exact ⟨Hk2, w2, Ext.refl _ _ _, Rp.str _⟩
    · cases hx
  · intro i hx
    have hx : decide (z.cps.size ≤ i) = true := hx
    have h : z.cps.size ≤ i := of_decide_eq_true hx
    exact h
theorem SVr.moreS {K : PySem.W.Frag} {Hk Hk2 : Hp} {ls ls2 : List Addr} {v : V} {s : SV} (k : Same Hk Hk2) (p : ∃ t, ls2 = ls ++ t) (h : SVr K Hk ls ls.length v s) : SVr K Hk2 ls2 ls2.length v s := by
  obtain ⟨t, rfl⟩ := p
  exact ((h.mono k).more).up (by simp)
theorem pim_seq (h : PM X e me) : PIm X tg e (eSeq me) := PI.imp (PI.or (pi_list (PM.v h)) (PI.or (pi_tup (PM.v h)) (pi_str (PM.v h)))) fun σ H Rq ⟨Hk, ls, ρ, M, src, M', w, en, hm, q⟩ => by
  obtain ⟨s, M1, h1, h2⟩ := seq_some hm
  unfold seqSrc at h2
  by_cases hs : ∃ z, s = .dt (.str z)
  · obtain ⟨z, rfl⟩ := hs
    cases h2
    exact .inr (.inr ⟨Hk, ls, ρ, M, _, _, w, en, h1, fun v Hk1 H1 w1 x1 r1 => ⟨z, Rp.str_inv r1, q _ Hk1 H1 w1 x1 srcr_str⟩⟩)
  · by_cases ht : ∃ ds, s = .dt (.tup ds)
    · obtain ⟨ds, rfl⟩ := ht
      cases h2
      refine .inr (.inl ⟨Hk, ls, ρ, M, _, _, w, en, h1, fun v Hk1 H1 w1 x1 r1 => ?_⟩)
      cases r1 with
      | tup hq ra => exact ⟨_, rfl, ⟨_, same_t w1.sub hq⟩, q _ Hk1 H1 w1 x1 (srcr_tup (.tup hq ra))⟩
    · have h2' : (match (match itemsOf M1 s with
          | some xs => some (⟨xs.length, fun M' i => match itemsOf M' s with
            | some ys => ys[i]?
            | none => none, fun M' i => match itemsOf M' s with
            | some ys => decide (ys.length ≤ i)
            | none => false⟩ : Src)
          | none => none) with
        | some src => some (src, M1)
        | none => none) = some (src, M') := by
        split at h2
        · rename_i he
          split at he
          · exact absurd ⟨_, rfl⟩ hs
          · rw [he]
            exact h2
        · cases h2
      cases hi : itemsOf M1 s with
      | none => rw [hi] at h2'; cases h2'
      | some xs =>
        rw [hi] at h2'
        cases h2'
        have hlo : ∀ (Mx : MS) ys, itemsOf Mx s = some ys → listOf Mx s = some ys := fun Mx ys e => by
          unfold itemsOf at e
          split at e
          · exact absurd ⟨_, rfl⟩ ht
          · exact e
        refine .inl ⟨Hk, ls, ρ, M, s, _, w, en, h1, fun v Hk1 H1 w1 x1 r1 => ?_⟩
        obtain ⟨a, vs, rfl, hq, hss⟩ := listOf_ok w1 r1 (hlo _ _ hi)
        refine ⟨a, rfl, ⟨vs, SqL.of hq⟩, q _ Hk1 H1 w1 x1 (srcr_list (H := H1) r1 fun Hk2 H2 M2 ls2 w2 k2 p2 ys hy => ?_)⟩
        obtain ⟨a', vs', e1, hq', hs'⟩ := listOf_ok w2 (r1.moreS k2 p2) (hlo _ _ hy)
        cases e1
        exact ⟨vs', SqL.of hq', hs'⟩
/-- over a range -/
def rngSrc (lo : Int) (n : Nat) : Src := ⟨n, fun _ i => if i < n then some (.dt (.int (lo + i))) else none, fun _ i => decide (n ≤ i)⟩
theorem srcr_rng {K : PySem.W.Frag} {ls : List Addr} {Hk : Hp} {lo : Int} {n : Nat} : SrcR K ls Hk (Itr lo n) (rngSrc lo n) := by
  intro Hk2 H2 M2 ls2 w2 k2 p2
  constructor
  · intro i x hx
    unfold rngSrc at hx
    dsimp only at hx
    split at hx
    · rename_i hi
      cases hx
      refine ⟨hi, fun v H3 ⟨e3, ev⟩ => ?_⟩
      subst e3 ev
      exact ⟨Hk2, w2, Ext.refl _ _ _, Rp.int _⟩
    · cases hx
  · intro i hx
    have hx : decide (n ≤ i) = true := hx
    have h : n ≤ i := of_decide_eq_true hx
    exact h
def isRange (i : Int) : Bool := decide (-(2 ^ 62) ≤ i) && decide (i < 2 ^ 62)
theorem isRange_ok {i : Int} (h : isRange i = true) : -(2 ^ 62) ≤ i ∧ i < 2 ^ 62 := by
  unfold isRange at h
  rw [Bool.and_eq_true] at h
  exact ⟨of_decide_eq_true h.1, of_decide_eq_true h.2⟩
def eRng1 (ms : EM (List SV)) : EM Src := ms.seq fun ss => fun _ M => match ss with
  | [.dt (.int j)] => if isRange j then some (rngSrc 0 j.toNat, M) else none
  | _ => none
def eRng2 (ms : EM (List SV)) : EM Src := ms.seq fun ss => fun _ M => match ss with
  | [.dt (.int i), .dt (.int j)] => if isRange i && isRange j then some (rngSrc i (j - i).toNat, M) else none
  | _ => none
variable {ms : EM (List SV)} {p : Pos}
theorem pim_range1 (hg : Gl X "range") (hm : X.mg "range" = none) (ha : PAm X [e] ms) (hs : starEach [e] X.env = [(false, eval e X.env)] := by rfl) : PIm X tg (.Call (.Name "range" p) [e] [] pos) (eRng1 ms) := PI.imp (pi_range1 hg hm ha hs) fun σ H Rq ⟨Hk, ls, ρ, M, src, M', w, en, hm, q⟩ => by
  obtain ⟨ss, M1, h1, h2⟩ := seq_some hm
  refine ⟨Hk, ls, ρ, M, ss, M1, w, en, h1, fun vs Hk1 H1 w1 x1 r1 => ?_⟩
  split at h2
  · rename_i j
    split at h2
    · rename_i hr
      cases h2
      cases r1 with
      | cons r t =>
        cases t
        have := Rp.int_inv r
        subst this
        exact ⟨j, rfl, (isRange_ok hr).1, (isRange_ok hr).2, q _ Hk1 H1 w1 x1 srcr_rng⟩
    · cases h2
  · cases h2
theorem pim_range2 (hg : Gl X "range") (hm : X.mg "range" = none) (ha : PAm X [e, e2] ms) (hs : starEach [e, e2] X.env = [(false, eval e X.env), (false, eval e2 X.env)] := by rfl) (hs2 : starEach [e2] X.env = [(false, eval e2 X.env)] := by rfl) : PIm X tg (.Call (.Name "range" p) [e, e2] [] pos) (eRng2 ms) := PI.imp (pi_range2 hg hm ha hs hs2) fun σ H Rq ⟨Hk, ls, ρ, M, src, M', w, en, hm, q⟩ => by
  obtain ⟨ss, M1, h1, h2⟩ := seq_some hm
  refine ⟨Hk, ls, ρ, M, ss, M1, w, en, h1, fun vs Hk1 H1 w1 x1 r1 => ?_⟩
  split at h2
  · rename_i i j
    split at h2
    · rename_i hr
      cases h2
      rw [Bool.and_eq_true] at hr
      cases r1 with
      | cons r t =>
        cases t with
        | cons r' t' =>
          cases t'
          have := Rp.int_inv r
          subst this
          have := Rp.int_inv r'
          subst this
          exact ⟨i, j, rfl, ⟨(isRange_ok hr.1).1, (isRange_ok hr.1).2, (isRange_ok hr.2).1, (isRange_ok hr.2).2⟩, q _ Hk1 H1 w1 x1 srcr_rng⟩
    · cases h2
  · cases h2
/-- over enumerate(list), zip(list, list): pairs of data -/
theorem Res.pair {K : PySem.W.Frag} {Hk H : Hp} {M : MS} {ls : List Addr} {T : Addr} {x y : V} {d d' : D} (w : World K Hk H M ls) (hT : H T = none) (rx : Rp K Hk x d) (ry : Rp K Hk y d') : ∃ Hk3, World K Hk3 (upd H T (.tup [x, y])) M ls ∧ Ext ls Hk H Hk3 (upd H T (.tup [x, y])) ∧ SVr K Hk3 ls ls.length (.ref T) (.dt (.tup [d, d'])) :=
  ⟨upd Hk T (.tup [x, y]), (w.upd_new hT).freeze (w.fresh hT).2 upd_same (w.fresh hT).1, (Ext.upd_new hT).freeze hT (w.fresh hT).1,
    Rp.tup (SqT.of upd_same) (RpA.mono (same_upd (w.fresh hT).1) (.cons rx (.cons ry .nil)))⟩
def dOf : SV → Option D
  | .dt d => some d
  | .mu _ => none
def enumSrc (s : SV) (n : Nat) : Src := ⟨n, fun M' i => match listOf M' s with
  | some ys => match ys[i]? with
    | some (.dt d) => some (.dt (.tup [.int (i : Nat), d]))
    | _ => none
  | none => none, fun M' i => match listOf M' s with
  | some ys => decide (ys.length ≤ i)
  | none => false⟩
def enumT (ds : List D) : Src := ⟨ds.length, fun _ i => match ds[i]? with
  | some d => some (.dt (.tup [.int (i : Nat), d]))
  | none => none, fun _ i => decide (ds.length ≤ i)⟩
def eEnum (ms : EM (List SV)) : EM Src := ms.seq fun ss => fun _ M => match ss with
  | [.dt (.tup ds)] => some (enumT ds, M)
  | [s] => match listOf M s with
    | some xs => some (enumSrc s xs.length, M)
    | none => none
  | _ => none
theorem pim_enum {elts : List Expr} {kk : Nat} {tpos : Pos} (hg : Gl X "enumerate") (hm : X.mg "enumerate" = none) (ha : PAm X [e] ms) (hs : starEach [e] X.env = [(false, eval e X.env)] := by rfl) : PIm X (.Tuple elts kk tpos) (.Call (.Name "enumerate" p) [e] [] pos) (eEnum ms) := PI.imp (PI.or (pi_enum hg hm ha hs) (pi_enumT hg hm ha hs)) fun σ H Rq ⟨Hk, ls, ρ, M, src, M', w, en, hm, q⟩ => by
  obtain ⟨ss, M1, h1, h2⟩ := seq_some hm
  split at h2
  · rename_i ds
    refine .inr ⟨Hk, ls, ρ, M, _, M1, w, en, h1, fun vs Hk1 H1 w1 x1 r1 => ?_⟩
    cases h2
    cases r1 with
    | cons r t =>
      cases t
      cases r with
      | tup ht ha =>
        rename_i a us
        refine ⟨a, us, rfl, same_t w1.sub ht, q _ Hk1 H1 w1 x1 ?_⟩
        intro Hk2 H2 M2 ls2 w2 k2 p2
        have hq2 : SqT X.K H2 a us := same_t w2.sub (same_t k2 ht)
        have ra := RpA.mono k2 ha
        constructor
        · intro i x hx
          unfold enumT at hx
          dsimp only at hx
          split at hx
          · rename_i d hd
            cases hx
            obtain ⟨v, hv, rv⟩ := ra.get hd
            refine ⟨⟨us, v, hq2, hv⟩, fun v' H3 ⟨T, x', ev, hT, e3, h3⟩ => ?_⟩
            have := h3 us hq2
            rw [hv] at this
            cases this
            subst e3 ev
            exact Res.pair w2 hT (.int _) rv
          · cases hx
        · intro i hx
          exact ⟨us, hq2, by rw [ra.length]; exact of_decide_eq_true hx⟩
  all_goals refine .inl ⟨Hk, ls, ρ, M, _, M1, w, en, h1, fun vs Hk1 H1 w1 x1 r1 => ?_⟩
  · rename_i s
    split at h2
    · rename_i xs hx
      cases h2
      cases r1 with
      | cons r t =>
        cases t
        obtain ⟨a, us, rfl, hq, hss⟩ := listOf_ok w1 r hx
        refine ⟨a, us, rfl, SqL.of hq, q _ Hk1 H1 w1 x1 ?_⟩
        intro Hk2 H2 M2 ls2 w2 k2 p2
        constructor
        · intro i x hx
          unfold enumSrc at hx
          dsimp only at hx
          split at hx
          · rename_i ys hy
            split at hx
            · rename_i d hd
              cases hx
              obtain ⟨a', vs', e1, hq', hs'⟩ := listOf_ok w2 (r.moreS k2 p2) hy
              cases e1
              obtain ⟨v, hv, rv⟩ := hs'.get hd
              refine ⟨⟨vs', v, SqL.of hq', hv⟩, fun v' H3 ⟨T, x', ev, hT, e3, h3⟩ => ?_⟩
              have := h3 vs' (SqL.of hq')
              rw [hv] at this
              cases this
              subst e3 ev
              exact Res.pair w2 hT (.int _) rv
            · cases hx
          · cases hx
        · intro i hx
          unfold enumSrc at hx
          dsimp only at hx
          split at hx
          · rename_i ys hy
            obtain ⟨a', vs', e1, hq', hs'⟩ := listOf_ok w2 (r.moreS k2 p2) hy
            cases e1
            exact ⟨vs', SqL.of hq', by rw [hs'.length]; exact of_decide_eq_true hx⟩
          · cases hx
    · cases h2
  · cases h2
def zipSrc (s t : SV) (n : Nat) : Src := ⟨n, fun M' i => match listOf M' s, listOf M' t with
  | some ys, some zs => match ys[i]?, zs[i]? with
    | some (.dt d), some (.dt d') => some (.dt (.tup [d, d']))
    | _, _ => none
  | _, _ => none, fun M' i => match listOf M' s, listOf M' t with
  | some ys, some zs => decide (ys.length ≤ i) || decide (zs.length ≤ i)
  | _, _ => false⟩
def eZip (ms : EM (List SV)) : EM Src := ms.seq fun ss => fun _ M => match ss with
  | [s, t] => match listOf M s, listOf M t with
    | some xs, some ys => some (zipSrc s t (min xs.length ys.length), M)
    | _, _ => none
  | _ => none
theorem pim_zip {elts : List Expr} {kk : Nat} {tpos : Pos} (hg : Gl X "zip") (hm : X.mg "zip" = none) (ha : PAm X [e, e2] ms) (hs : starEach [e, e2] X.env = (false, eval e X.env) :: starEach [e2] X.env := by rfl) (hpl : (backTo pos (starEach [e2] X.env)).any (·.1) = false := by rfl) : PIm X (.Tuple elts kk tpos) (.Call (.Name "zip" p) [e, e2] [] pos) (eZip ms) := PI.imp (pi_zip hg hm ha hs hpl) fun σ H Rq ⟨Hk, ls, ρ, M, src, M', w, en, hm, q⟩ => by
  obtain ⟨ss, M1, h1, h2⟩ := seq_some hm
  refine ⟨Hk, ls, ρ, M, ss, M1, w, en, h1, fun vs Hk1 H1 w1 x1 r1 => ?_⟩
  split at h2
  · rename_i s t
    split at h2
    · rename_i xs ys hx hy
      cases h2
      cases r1 with
      | cons r t0 =>
        cases t0 with
        | cons r' t' =>
          cases t'
          obtain ⟨a, us, rfl, hq, hss⟩ := listOf_ok w1 r hx
          obtain ⟨b, ws, rfl, hqb, hssb⟩ := listOf_ok w1 r' hy
          refine ⟨a, b, us, ws, rfl, SqL.of hq, SqL.of hqb, q _ Hk1 H1 w1 x1 ?_⟩
          intro Hk2 H2 M2 ls2 w2 k2 p2
          constructor
          · intro i x hx
            unfold zipSrc at hx
            dsimp only at hx
            split at hx
            · rename_i ys zs hy hz
              split at hx
              · rename_i d d' hd hd'
                cases hx
                obtain ⟨a', vs', e1, hq', hs'⟩ := listOf_ok w2 (r.moreS k2 p2) hy
                cases e1
                obtain ⟨b', us', e2, hqb', hsb'⟩ := listOf_ok w2 (r'.moreS k2 p2) hz
                cases e2
                obtain ⟨v, hv, rv⟩ := hs'.get hd
                obtain ⟨u, hu, ru⟩ := hsb'.get hd'
                refine ⟨⟨vs', us', v, u, SqL.of hq', SqL.of hqb', hv, hu⟩, fun v' H3 ⟨T, x', y', ev, hT, e3, h3, h4⟩ => ?_⟩
                have := h3 vs' (SqL.of hq')
                rw [hv] at this
                cases this
                have := h4 us' (SqL.of hqb')
                rw [hu] at this
                cases this
                subst e3 ev
                exact Res.pair w2 hT rv ru
              · cases hx
            · cases hx
          · intro i hx
            unfold zipSrc at hx
            dsimp only at hx
            split at hx
            · rename_i ys zs hy hz
              obtain ⟨a', vs', e1, hq', hs'⟩ := listOf_ok w2 (r.moreS k2 p2) hy
              cases e1
              obtain ⟨b', us', e2, hqb', hsb'⟩ := listOf_ok w2 (r'.moreS k2 p2) hz
              cases e2
              refine ⟨vs', us', SqL.of hq', SqL.of hqb', ?_⟩
              rw [hs'.length, hsb'.length]
              rw [Bool.or_eq_true] at hx
              rcases hx with hx | hx
              · exact .inl (of_decide_eq_true hx)
              · exact .inr (of_decide_eq_true hx)
            · cases hx
    · cases h2
  · cases h2
end
end Dy

set_option Elab.async false
set_option linter.all false
set_option maxRecDepth 100000
set_option maxHeartbeats 4000000
namespace Dy
open PySem L2

/-! ### targets -/
abbrev Bnd := SV → Env → Option Env
def tG (K : PySem.W.Frag) (b : Bnd) (is : List Nat) : TG := fun v σ H Q => ∃ Hk ls ρ M s ρ', World K Hk H M ls ∧ EnvR K Hk ls σ ρ ∧ SVr K Hk ls ls.length v s ∧ b s ρ = some ρ' ∧
  ∀ σ', EnvR K Hk ls σ' ρ' → (∀ vs : List Nat, (∀ i ∈ is, i ∈ vs) → wipe σ' vs = wipe σ vs) → Q σ' H
abbrev PGm (X : Cx) (tg : Expr) (b : Bnd) (is : List Nat) : Prop := PG X tg (tG X.K b is)
def tGs (K : PySem.W.Frag) (b : List D → Env → Option Env) (is : List Nat) : TGs := fun vs σ H Q => ∃ Hk ls ρ M ds ρ', World K Hk H M ls ∧ EnvR K Hk ls σ ρ ∧ RpA K Hk vs ds ∧ b ds ρ = some ρ' ∧
  ∀ σ', EnvR K Hk ls σ' ρ' → (∀ ws : List Nat, (∀ i ∈ is, i ∈ ws) → wipe σ' ws = wipe σ ws) → Q σ' H
abbrev PGsm (X : Cx) (tg : List Expr) (b : List D → Env → Option Env) (is : List Nat) : Prop := PGs X tg (tGs X.K b is)
theorem PG.imp {X : Cx} {tg : Expr} {t u : TG} (h : PG X tg t) (i : ∀ v σ H Q, u v σ H Q → t v σ H Q) : PG X tg u := ⟨fun pins s σ H v uu Q I r q => h.run pins s σ H v uu Q I r (i v σ H Q q)⟩
theorem PGs.imp {X : Cx} {tg : List Expr} {t u : TGs} (h : PGs X tg t) (i : ∀ v σ H Q, u v σ H Q → t v σ H Q) : PGs X tg u := ⟨fun pins s σ H v uu Q I r q => h.run pins s σ H v uu Q I r (i v σ H Q q)⟩
theorem wipe_set {σ : L2.St} {i : Nat} {x : Option V} : ∀ {vs : List Nat}, i ∈ vs → wipe (σ.set i x) vs = wipe σ vs
  | [], h => by cases h
  | v :: vs, h => by
    unfold wipe
    by_cases hv : i ∈ vs
    · rw [wipe_set hv]
    · have e : i = v := by
        rcases List.mem_cons.mp h with h | h
        · exact h
        · exact absurd h hv
      subst e
      apply List.ext_getElem?
      intro j
      by_cases hj : i = j
      · subst hj
        by_cases hl : i < σ.length
        · rw [List.getElem?_set_self (by rw [wipe_length, List.length_set]; exact hl), List.getElem?_set_self (by rw [wipe_length]; exact hl)]
        · rw [List.getElem?_eq_none (by rw [List.length_set, wipe_length, List.length_set]; omega), List.getElem?_eq_none (by rw [List.length_set, wipe_length]; omega)]
      · rw [List.getElem?_set_ne hj, List.getElem?_set_ne hj]
        by_cases hjv : j ∈ vs
        · by_cases hl : j < σ.length
          · have a : ∀ (τ : L2.St), τ.length = σ.length → (wipe τ vs)[j]? = some none := fun τ ht => by
              cases q : (wipe τ vs)[j]? with
              | none =>
                rw [List.getElem?_eq_none_iff, wipe_length, ht] at q
                omega
              | some o =>
                cases o with
                | none => rfl
                | some y => exact absurd hjv (wipe_some q).2
            rw [a σ rfl, a (σ.set i x) (by rw [List.length_set])]
          · rw [List.getElem?_eq_none (by rw [wipe_length, List.length_set]; omega), List.getElem?_eq_none (by rw [wipe_length]; omega)]
        · rw [wipe_out hjv, wipe_out hjv, List.getElem?_set_ne hj]
def bName (i : Nat) : Bnd := fun s ρ => some (ρ.set i (some s))
def bTup (n : Nat) (bs : List D → Env → Option Env) : Bnd := fun s ρ => match s with
  | .dt (.tup ds) => if ds.length = n then bs ds ρ else none
  | _ => none
def bsNil : List D → Env → Option Env := fun ds ρ => match ds with
  | [] => some ρ
  | _ => none
def bsCons (b : Bnd) (bs : List D → Env → Option Env) : List D → Env → Option Env := fun ds ρ => match ds with
  | d :: r => match b (.dt d) ρ with
    | some ρ' => bs r ρ'
    | none => none
  | [] => none
section
variable {X : Cx} {tg : Expr} {es : List Expr} {pos : Pos}
theorem pgm_name {i : Nat} (h : PG X tg (gName i)) : PGm X tg (bName i) [i] := PG.imp h fun v σ H Q ⟨Hk, ls, ρ, M, s, ρ', w, en, r, hb, q⟩ => by
  cases hb
  exact q _ (en.set r) fun vs hv => wipe_set (hv i (by simp))
theorem pgm_nil : PGsm X [] bsNil [] := PGs.imp pgs_nil fun v σ H Q ⟨Hk, ls, ρ, M, ds, ρ', w, en, r, hb, q⟩ => by
  unfold bsNil at hb
  split at hb
  · cases hb
    cases r
    exact ⟨rfl, q σ en fun _ _ => rfl⟩
  · cases hb
theorem pgm_cons {b : Bnd} {bs : List D → Env → Option Env} {is js : List Nat} (h1 : PGm X tg b is) (h2 : PGsm X es bs js) (hs : (assignEach (tg :: es) X.env).map (·.2) = assign tg X.env :: (assignEach es X.env).map (·.2) := by rfl) : PGsm X (tg :: es) (bsCons b bs) (is ++ js) := PGs.imp (pgs_cons h1 h2 hs) fun v σ H Q ⟨Hk, ls, ρ, M, ds, ρ', w, en, r, hb, q⟩ => by
  unfold bsCons at hb
  split at hb
  · rename_i d rest
    split at hb
    · rename_i ρ1 h1
      cases r with
      | cons r1 r2 =>
        refine ⟨_, _, rfl, Hk, ls, ρ, M, _, ρ1, w, en, (show SVr X.K Hk ls ls.length _ (.dt d) from r1), h1, fun σ1 en1 w1 => ?_⟩
        refine ⟨Hk, ls, ρ1, M, rest, ρ', w, en1, r2, hb, fun σ2 en2 w2 => q σ2 en2 fun ws hw => ?_⟩
        rw [w2 ws fun i hi => hw i (List.mem_append_right _ hi), w1 ws fun i hi => hw i (List.mem_append_left _ hi)]
    · cases hb
  · cases hb
theorem pgm_tup {bs : List D → Env → Option Env} {is : List Nat} {k n : Nat} (hc : X.calm = true) (h : PGsm X es bs is) (hn : (assignEach es X.env).length = n := by rfl) (hst : (assignEach es X.env).findIdx? (·.1) = none := by rfl) : PGm X (.Tuple es k pos) (bTup n bs) is := PG.imp (pg_tup hc h hn hst) fun v σ H Q ⟨Hk, ls, ρ, M, s, ρ', w, en, r, hb, q⟩ => by
  unfold bTup at hb
  split at hb
  · rename_i ds
    split at hb
    · rename_i hl
      cases r with
      | tup hq ra => exact ⟨_, _, rfl, same_t w.sub hq, by rw [ra.length]; exact hl, Hk, ls, ρ, M, ds, ρ', w, en, ra, hb, q⟩
    · cases hb
  · cases hb

/-! ### for -/
def forGo (src : Src) (b : Bnd) (body : SM) : Nat → Nat → Env → MS → Option Out
  | 0, i, ρ, M => if src.stop M i = true then some (.nx ρ M) else none
  | k + 1, i, ρ, M => match src.get M i with
    | none => none
    | some x => match b x ρ with
      | none => none
      | some ρ1 => match body ρ1 M with
        | some (.nx ρ2 M2) => forGo src b body k (i + 1) ρ2 M2
        | some (.ct ρ2 M2) => forGo src b body k (i + 1) ρ2 M2
        | some (.bk ρ2 M2) => some (.nx ρ2 M2)
        | some (.rt r M2) => some (.rt r M2)
        | none => none
def sFor (ms : EM Src) (b : Bnd) (body : SM) : SM := fun ρ M => match ms ρ M with
  | some (src, M') => forGo src b body src.n 0 ρ M'
  | none => none
theorem psm_for {iter : Expr} {body : List Stmt} {ms : EM Src} {b : Bnd} {is : List Nat} {mb : SM} (hp : PassesOwn (model X.prog X.w) X.A X.env X.xe) (hc : X.calm = true) (hi : PIm X tg iter ms) (hg : PGm X tg b is) (hb : PSsm X body mb)
    (hs : ∀ x, foldedSetIterable iter X.env x = pure x := by intro _; rfl) : PSm X (.For tg iter body [] pos) (sFor ms b mb) := PS.imp (ps_for hp hc hi hg hb hs) fun E σ H ⟨Hk, ls, ρ, M, o, w, en, hm, q⟩ => by
  unfold sFor at hm
  cases hr : ms ρ M with
  | none => rw [hr] at hm; cases hm
  | some p =>
    obtain ⟨src, M'⟩ := p
    rw [hr] at hm
    refine ⟨Hk, ls, ρ, M, src, M', w, en, hr, fun J Hk1 H1 w1 x1 sr => ?_⟩
    refine ⟨fun i m σ' H' => ∃ Hk2 ls2 ρ2 M2 o2, World X.K Hk2 H' M2 ls2 ∧ Same Hk1 Hk2 ∧ (∃ t, ls2 = ls ++ t) ∧ EnvR X.K Hk2 ls2 σ' ρ2 ∧ forGo src b mb m i ρ2 M2 = some o2 ∧ OutR X.K ls2 Hk2 H' E o2, ?_, ?_⟩
    · exact ⟨src.n, Hk1, ls, ρ, M', o, w1, fun _ _ h => h, ⟨[], by simp⟩, en.mono x1.kk, hm, q.back x1.s⟩
    · rintro i m σ' H' ⟨Hk2, ls2, ρ2, M2, o2, w2, k2, p2, en2, hf, q2⟩
      obtain ⟨sg, ss⟩ := sr Hk2 H' M2 ls2 w2 k2 p2
      cases m with
      | zero =>
        unfold forGo at hf
        split at hf
        · rename_i hst
          cases hf
          exact .inl ⟨ss i hst, q2 σ' Hk2 H' ls2 w2 (ExtS.refl _ _ _) en2⟩
        · cases hf
      | succ m =>
        unfold forGo at hf
        cases hx : src.get M2 i with
        | none => rw [hx] at hf; cases hf
        | some x =>
          rw [hx] at hf
          obtain ⟨go, yl⟩ := sg i x hx
          refine .inr ⟨go, fun σ3 H3 => ∃ Hk2 ls2 ρ2 M2 o2, World X.K Hk2 H3 M2 ls2 ∧ Same Hk1 Hk2 ∧ (∃ t, ls2 = ls ++ t) ∧ EnvR X.K Hk2 ls2 σ3 ρ2 ∧ forGo src b mb m (i + 1) ρ2 M2 = some o2 ∧ OutR X.K ls2 Hk2 H3 E o2, fun σ3 H3 h => ⟨m, Nat.lt_succ_self m, h⟩, fun v H3 hy => ?_⟩
          obtain ⟨Hk3, w3, x3, r3⟩ := yl v H3 hy
          simp only at hf
          cases hbx : b x ρ2 with
          | none => rw [hbx] at hf; cases hf
          | some ρ3 =>
            rw [hbx] at hf
            simp only at hf
            refine ⟨Hk3, ls2, ρ2, M2, x, ρ3, w3, en2.mono x3.kk, r3, hbx, fun σ4 en4 _ => ?_⟩
            cases hbody : mb ρ3 M2 with
            | none => rw [hbody] at hf; cases hf
            | some o3 =>
              rw [hbody] at hf
              refine ⟨Hk3, ls2, ρ3, M2, o3, w3, en4, hbody, ?_⟩
              cases o3 with
              | nx ρ5 M5 => exact fun σ5 Hk5 H5 ls5 w5 x5 en5 => ⟨Hk5, ls5, ρ5, M5, o2, w5, fun a o z => x5.kk a o (x3.kk a o (k2 a o z)), by
                  obtain ⟨t, rfl⟩ := p2
                  obtain ⟨u, rfl⟩ := x5.pre
                  exact ⟨t ++ u, by rw [List.append_assoc]⟩, en5, hf, q2.back (x3.s.trans x5)⟩
              | ct ρ5 M5 => exact fun σ5 Hk5 H5 ls5 w5 x5 en5 => ⟨Hk5, ls5, ρ5, M5, o2, w5, fun a o z => x5.kk a o (x3.kk a o (k2 a o z)), by
                  obtain ⟨t, rfl⟩ := p2
                  obtain ⟨u, rfl⟩ := x5.pre
                  exact ⟨t ++ u, by rw [List.append_assoc]⟩, en5, hf, q2.back (x3.s.trans x5)⟩
              | bk ρ5 M5 =>
                cases hf
                exact fun σ5 Hk5 H5 ls5 w5 x5 en5 => q2 σ5 Hk5 H5 ls5 w5 (x3.s.trans x5) en5
              | rt r5 M5 =>
                cases hf
                exact fun v5 Hk5 H5 ls5 w5 x5 r6 => q2 v5 Hk5 H5 ls5 w5 (x3.s.trans x5) (r6.backS x3.s)

/-! ### while -/
def whileGo (c : EM Bool) (body : SM) : Nat → Env → MS → Option Out
  | 0, _, _ => none
  | k + 1, ρ, M => match c ρ M with
    | none => none
    | some (false, M1) => some (.nx ρ M1)
    | some (true, M1) => match body ρ M1 with
      | some (.nx ρ2 M2) => whileGo c body k ρ2 M2
      | some (.ct ρ2 M2) => whileGo c body k ρ2 M2
      | some (.bk ρ2 M2) => some (.nx ρ2 M2)
      | some (.rt r M2) => some (.rt r M2)
      | none => none
theorem psm_while {c : Expr} {body : List Stmt} {mc : EM Bool} {mb : SM} (n : Nat) (hp : PassesOwn (model X.prog X.w) X.A X.env X.xe) (hc : PTm X c mc) (hb : PSsm X body mb) : PSm X (.While c body [] pos) (whileGo mc mb n) := PS.imp (ps_while hp hc hb) fun E σ H ⟨Hk, ls, ρ, M, o, w, en, hm, q⟩ => by
  refine ⟨fun m σ' H' => ∃ Hk2 ls2 ρ2 M2 o2, World X.K Hk2 H' M2 ls2 ∧ EnvR X.K Hk2 ls2 σ' ρ2 ∧ whileGo mc mb m ρ2 M2 = some o2 ∧ OutR X.K ls2 Hk2 H' E o2, ⟨n, Hk, ls, ρ, M, o, w, en, hm, q⟩, ?_⟩
  rintro m σ' H' ⟨Hk2, ls2, ρ2, M2, o2, w2, en2, hf, q2⟩
  cases m with
  | zero => cases hf
  | succ m =>
    unfold whileGo at hf
    cases hx : mc ρ2 M2 with
    | none => rw [hx] at hf; cases hf
    | some p =>
      obtain ⟨k, M3⟩ := p
      rw [hx] at hf
      refine ⟨Hk2, ls2, ρ2, M2, k, M3, w2, en2, hx, fun Hk3 H3 w3 x3 => ?_⟩
      cases k with
      | false =>
        rw [if_neg Bool.false_ne_true]
        cases hf
        exact q2 σ' Hk3 H3 ls2 w3 x3.s (en2.mono x3.kk)
      | true =>
        rw [if_pos rfl]
        refine ⟨fun σ3 H3 => ∃ Hk2 ls2 ρ2 M2 o2, World X.K Hk2 H3 M2 ls2 ∧ EnvR X.K Hk2 ls2 σ3 ρ2 ∧ whileGo mc mb m ρ2 M2 = some o2 ∧ OutR X.K ls2 Hk2 H3 E o2, fun σ3 H3 h => ⟨m, Nat.lt_succ_self m, h⟩, ?_⟩
        simp only at hf
        cases hbody : mb ρ2 M3 with
        | none => rw [hbody] at hf; cases hf
        | some o3 =>
          rw [hbody] at hf
          refine ⟨Hk3, ls2, ρ2, M3, o3, w3, en2.mono x3.kk, hbody, ?_⟩
          cases o3 with
          | nx ρ5 M5 => exact fun σ5 Hk5 H5 ls5 w5 x5 en5 => ⟨Hk5, ls5, ρ5, M5, o2, w5, en5, hf, q2.back (x3.s.trans x5)⟩
          | ct ρ5 M5 => exact fun σ5 Hk5 H5 ls5 w5 x5 en5 => ⟨Hk5, ls5, ρ5, M5, o2, w5, en5, hf, q2.back (x3.s.trans x5)⟩
          | bk ρ5 M5 =>
            cases hf
            exact fun σ5 Hk5 H5 ls5 w5 x5 en5 => q2 σ5 Hk5 H5 ls5 w5 (x3.s.trans x5) en5
          | rt r5 M5 =>
            cases hf
            exact fun v5 Hk5 H5 ls5 w5 x5 r6 => q2 v5 Hk5 H5 ls5 w5 (x3.s.trans x5) (r6.backS x3.s)

/-! ### list comprehensions -/
def wipeE (ρ : Env) : List Nat → Env
  | [] => ρ
  | v :: vs => (wipeE ρ vs).set v none
theorem EnvR.wipe {K : PySem.W.Frag} {Hk : Hp} {ls : List Addr} {σ : L2.St} {ρ : Env} (h : EnvR K Hk ls σ ρ) : ∀ vs : List Nat, EnvR K Hk ls (L2.wipe σ vs) (wipeE ρ vs)
  | [] => h
  | v :: vs => by
    have ih := EnvR.wipe h vs
    unfold L2.wipe wipeE
    refine ⟨by rw [List.length_set, List.length_set]; exact ih.1, fun j t e => ?_⟩
    by_cases hj : v = j
    · subst hj
      by_cases hl : v < (wipeE ρ vs).length
      · rw [List.getElem?_set_self hl] at e; cases e
      · rw [List.getElem?_eq_none (by rw [List.length_set]; omega)] at e; cases e
    · rw [List.getElem?_set_ne hj] at e ⊢
      exact ih.2 j t e
theorem wipe_wipe {σ : L2.St} (vs : List Nat) : L2.wipe (L2.wipe σ vs) vs = L2.wipe σ vs := by
  have gen : ∀ ws : List Nat, (∀ i ∈ ws, i ∈ vs) → L2.wipe (L2.wipe σ ws) vs = L2.wipe σ vs := by
    intro ws
    induction ws with
    | nil => intro _; rfl
    | cons w ws ih =>
      intro h
      show L2.wipe ((L2.wipe σ ws).set w none) vs = _
      rw [wipe_set (h w (by simp))]
      exact ih fun i hi => h i (List.mem_cons_of_mem _ hi)
  exact gen vs fun _ h => h
def compGo (src : Src) (b : Bnd) (c : EM Bool) (el : EM R) (ρ0 : Env) : Nat → Nat → List D → MS → Option (List D × MS)
  | 0, i, acc, M => if src.stop M i = true then some (acc, M) else none
  | k + 1, i, acc, M => match src.get M i with
    | none => none
    | some x => match b x ρ0 with
      | none => none
      | some ρ1 => match c ρ1 M with
        | none => none
        | some (false, M1) => compGo src b c el ρ0 k (i + 1) acc M1
        | some (true, M1) => match fz el ρ1 M1 with
          | some (.dt d, M2) => if acc.length < sizeLine then compGo src b c el ρ0 k (i + 1) (acc ++ [d]) M2 else none
          | _ => none
def eComp (ms : EM Src) (b : Bnd) (c : EM Bool) (el : EM R) (vs : List Nat) : EM R := fun ρ M => match ms ρ M with
  | some (src, M') => match compGo src b c el (wipeE ρ vs) src.n 0 [] M' with
    | some (ds, M2) => some (.fr ds, M2)
    | none => none
  | none => none
theorem World.upd_other {K : PySem.W.Frag} {Hk H : Hp} {M : MS} {ls : List Addr} {p : Addr} {o : HO} (w : World K Hk H M ls) (h1 : Hk p = none) (h2 : p ∉ ls) : World K Hk (upd H p o) M ls where
  sub := fun b u e => by rw [upd_ne (ne_of_none e h1)]; exact w.sub b u e
  len := w.len
  nd := w.nd
  dj := w.dj
  ms := fun k x e => by
    obtain ⟨l, hl, ho⟩ := w.ms k x e
    refine ⟨l, hl, ?_⟩
    have nl : l ≠ p := fun z => h2 (z ▸ List.mem_of_getElem? hl)
    cases x with
    | l xs => obtain ⟨vs, a, b⟩ := ho; exact ⟨vs, by rw [upd_ne nl]; exact a, b⟩
    | d ks xs => obtain ⟨vs, a, b, c⟩ := ho; exact ⟨vs, by rw [upd_ne nl]; exact a, b, c⟩
    | i C ns xs => obtain ⟨dx, vs, a, b, c⟩ := ho; exact ⟨dx, vs, by rw [upd_ne nl]; exact a, b, c⟩
theorem Ext.upd_other {ls : List Addr} {Hk0 H0 Hk H : Hp} {p : Addr} {o : HO} (x : Ext ls Hk0 H0 Hk H) (h : H0 p = none) : Ext ls Hk0 H0 Hk (upd H p o) where
  kk := x.kk
  fr := fun a u e hn => by rw [upd_ne (ne_of_none e h)]; exact x.fr a u e hn
  gr := x.gr
  st := fun a e => by
    by_cases z : a = p
    · subst z; exact absurd h e
    · rw [upd_ne z]; exact x.st a e
variable {elt iter : Expr} {ifs : List Expr} {scope : Scope} {own : List (Str × Nat)} {ms : EM Src} {b : Bnd} {is : List Nat} {mc : EM Bool} {me : EM R}
theorem ecomp_go {vs : List Nat} (hv : ∀ i ∈ is, i ∈ vs) : ∀ σ H Q, tM X.K (eComp ms b mc me vs) σ H Q → tLc (tI X.K ms) (tG X.K b is) (tT X.K mc) (tV X.K (fz me)) vs σ H Q := fun σ H Q ⟨Hk, ls, ρ, M, r, M', w, en, hm, q⟩ => by
  unfold eComp at hm
  cases hr : ms ρ M with
  | none => rw [hr] at hm; cases hm
  | some p =>
    obtain ⟨src, M1⟩ := p
    rw [hr] at hm
    simp only at hm
    cases hcg : compGo src b mc me (wipeE ρ vs) src.n 0 [] M1 with
    | none => rw [hcg] at hm; cases hm
    | some p2 =>
      obtain ⟨ds, M2⟩ := p2
      rw [hcg] at hm
      cases hm
      refine ⟨Hk, ls, ρ, M, src, M1, w, en, hr, fun J Hk1 H1 w1 x1 sr Dl hD => ?_⟩
      obtain ⟨hD1, hD2⟩ := w1.fresh hD
      refine ⟨fun i m H' => ∃ Hk2 M2 acc vs0, World X.K Hk2 H' M2 ls ∧ Ext ls Hk1 H1 Hk2 H' ∧ H' Dl = some (.lst vs0) ∧ Hk2 Dl = none ∧ RpA X.K Hk2 vs0 acc ∧ compGo src b mc me (wipeE ρ vs) m i acc M2 = some (ds, M'), ?_, ?_⟩
      · exact ⟨src.n, Hk1, M1, [], [], w1.upd_new hD, Ext.upd_new hD, upd_same, hD1, .nil, hcg⟩
      · rintro i m H' ⟨Hk2, M2, acc, vs0, w2, x2, hd2, hk2, ra2, hf⟩
        obtain ⟨sg, ss⟩ := sr Hk2 H' M2 ls w2 x2.kk ⟨[], by simp⟩
        cases m with
        | zero =>
          unfold compGo at hf
          split at hf
          · rename_i hst
            cases hf
            refine .inl ⟨ss i hst, q (.ref Dl) Hk2 H' w2 (x1.trans x2) ⟨Dl, vs0, rfl, ?_, hk2, hD2, hd2, ra2⟩⟩
            cases e : H Dl with
            | none => rfl
            | some o => exact absurd hD (x1.st Dl (by rw [e]; simp))
          · cases hf
        | succ m =>
          unfold compGo at hf
          cases hx : src.get M2 i with
          | none => rw [hx] at hf; cases hf
          | some x =>
            rw [hx] at hf
            simp only at hf
            obtain ⟨go, yl⟩ := sg i x hx
            refine .inr ⟨go, fun H3 => ∃ Hk2 M2 acc vs0, World X.K Hk2 H3 M2 ls ∧ Ext ls Hk1 H1 Hk2 H3 ∧ H3 Dl = some (.lst vs0) ∧ Hk2 Dl = none ∧ RpA X.K Hk2 vs0 acc ∧ compGo src b mc me (wipeE ρ vs) m (i + 1) acc M2 = some (ds, M'), fun H3 h => ⟨m, Nat.lt_succ_self m, h⟩, fun v H3 hy => ?_⟩
            obtain ⟨Hk3, w3, x3, r3⟩ := yl v H3 hy
            have hd3 : H3 Dl = some (.lst vs0) := x3.fr Dl _ hd2 hD2
            have free : ∀ {Hk5 H5 : Hp}, Ext ls Hk2 H' Hk5 H5 → Hk5 Dl = none := fun {Hk5 H5} x5 => by
              cases e : Hk5 Dl with
              | none => rfl
              | some o =>
                rcases x5.gr Dl (by rw [e]; simp) with z | z
                · exact absurd hk2 z
                · rw [hd2] at z; cases z
            cases hbx : b x (wipeE ρ vs) with
            | none => rw [hbx] at hf; cases hf
            | some ρ3 =>
              rw [hbx] at hf
              simp only at hf
              have enw : EnvR X.K Hk3 ls (L2.wipe σ vs) (wipeE ρ vs) := (en.mono fun a o z => x3.kk a o (x2.kk a o (x1.kk a o z))).wipe vs
              refine ⟨Hk3, ls, wipeE ρ vs, M2, x, ρ3, w3, enw, r3, hbx, fun σ4 en4 hw4 => ⟨by rw [hw4 vs hv, wipe_wipe], ?_⟩⟩
              cases hc : mc ρ3 M2 with
              | none => rw [hc] at hf; cases hf
              | some pc =>
                obtain ⟨k, M4⟩ := pc
                rw [hc] at hf
                refine ⟨Hk3, ls, ρ3, M2, k, M4, w3, en4, hc, fun Hk5 H5 w5 x5 => ?_⟩
                have x35 := x3.trans x5
                cases k with
                | false =>
                  refine iteF ?_
                  exact ⟨Hk5, M4, acc, vs0, w5, x2.trans x35, x5.fr Dl _ hd3 hD2, free x35, ra2.mono x35.kk, hf⟩
                | true =>
                  refine iteT ?_
                  simp only at hf
                  cases he : fz me ρ3 M4 with
                  | none => rw [he] at hf; cases hf
                  | some pe =>
                    obtain ⟨s6, M6⟩ := pe
                    rw [he] at hf
                    cases s6 with
                    | mu k => cases hf
                    | dt d =>
                      simp only at hf
                      split at hf
                      · rename_i hz
                        refine ⟨Hk5, ls, ρ3, M4, .dt d, M6, w5, en4.mono x5.kk, he, fun y Hk6 H6 w6 x6 r6 => ?_⟩
                        have x36 := x35.trans x6
                        have hd6 : H6 Dl = some (.lst vs0) := x6.fr Dl _ (x5.fr Dl _ hd3 hD2) hD2
                        refine ⟨vs0, hd6, by rw [ra2.length]; exact hz, Hk6, M6, acc ++ [d], vs0 ++ [y], w6.upd_other (free x36) hD2, (x2.trans x36).upd_other hD, upd_same, free x36, (ra2.mono x36.kk).append (.cons r6 .nil), hf⟩
                      · cases hf
def cYes : EM Bool := EM.ret true
abbrev PTsm (X : Cx) (ifs : List Expr) (m : EM Bool) : Prop := PTs X ifs (tT X.K m)
theorem ptsm_nil : PTsm X [] cYes := ⟨fun pins s σ H Q I ⟨Hk, ls, ρ, M, r, M', w, en, hm, q⟩ => by
  cases hm
  exact pts_nil.run pins s σ H Q I (q Hk H w (Ext.refl _ _ _))⟩
theorem ptsm_one {c : Expr} (h : PTm X c mc) : PTsm X [c] mc := pts_one h
theorem pm_comp (hc : X.calm = true) (hN : X.N.Nodup) (hi : PIm X tg iter ms) (ok : BlkOk X.N X.env.scope scope own) (hv : ∀ i ∈ is, i ∈ own.map (·.2))
    (hg : ∀ (s : Shared) (H : Hp) (C : Addr) (cl : List (Str × Addr)) (fp : List Addr), PGm (X.blk s H scope (compEnvC scope cl C X.env) fp) tg b is) (ht : ∀ (s : Shared) (H : Hp) (C : Addr) (cl : List (Str × Addr)) (fp : List Addr), PTsm (X.blk s H scope (compEnvC scope cl C X.env) fp) ifs mc)
    (he : ∀ (s : Shared) (H : Hp) (C : Addr) (cl : List (Str × Addr)) (fp : List Addr), PM (X.blk s H scope (compEnvC scope cl C X.env) fp) elt me) (hs : ∀ x, foldedSetIterable iter X.env x = pure x := by intro _; rfl) :
    PM X (.ListComp elt [⟨tg, iter, ifs, 0⟩] scope pos) (eComp ms b mc me (own.map (·.2))) :=
  PE.imp (pe_lc hc hN hi ok hg ht (fun s H C cl fp => PM.v (he s H C cl fp)) hs) (ecomp_go hv)
theorem ps_comp {i : Nat} {y : Str} {py spos : Pos} (hc : X.calm = true) (hN : X.N.Nodup) (hy : X.N[i]? = some y) (hyl : X.env.scope.names.lookup y = some .local)
    (hsw : swapsWith (.ListComp elt [⟨tg, iter, ifs, 0⟩] scope pos) (some (.Name y py)) spos.line X.env = pure true) (hi : PIm X tg iter ms) (ok : BlkOk X.N X.env.scope scope own) (hv : ∀ i ∈ is, i ∈ own.map (·.2))
    (hg : ∀ (s : Shared) (H : Hp) (C : Addr) (cl : List (Str × Addr)) (fp : List Addr), PGm (X.blk s H scope (compEnvC scope cl C X.env) fp) tg b is) (ht : ∀ (s : Shared) (H : Hp) (C : Addr) (cl : List (Str × Addr)) (fp : List Addr), PTsm (X.blk s H scope (compEnvC scope cl C X.env) fp) ifs mc)
    (he : ∀ (s : Shared) (H : Hp) (C : Addr) (cl : List (Str × Addr)) (fp : List Addr), PM (X.blk s H scope (compEnvC scope cl C X.env) fp) elt me) (hs : ∀ x, foldedSetIterable iter X.env x = pure x := by intro _; rfl) :
    PS X (.Assign [.Name y py] (.ListComp elt [⟨tg, iter, ifs, 0⟩] scope pos) spos) (tAsg (tM X.K (eComp ms b mc me (own.map (·.2)))) (gName i)) :=
  PS.imp (ps_setLc hc hN hy hyl hsw hi ok hg ht (fun s H C cl fp => PM.v (he s H C cl fp)) hs) fun E σ H h => ecomp_go hv σ H _ h
end
end Dy

set_option Elab.async false
set_option linter.all false
set_option maxRecDepth 100000
set_option maxHeartbeats 4000000
/-! Layer Dy, part 8: defs called where no repr runs around (guards are empty); the law's end. -/
namespace Dy
open PySem L2 PySem.Spec PyProof.Rows
/-- a def keeps a promise wherever no guard stands around -/
structure FnG (P : Program) (w : PySem.World) (K : PySem.W.Frag) (mg : Str → Option Value) (base : Heap) (CX : CXT) (k : Nat) (f : Addr) (fd : FuncData) (ps : List Str) (sp : Sp) : Prop where
  ln : ∀ vs H Q E, sp vs H Q E → vs.length = ps.length
  go : ∀ (A : Around) (outer : List PySem.Env) (s : Shared) (H : Hp) (args : Args) (us : List Value) (vs : List V) (Q : VK) (E : XK), A.guards = some [] → Room k A → Env0 P w K mg base A outer s H →
    BindsTo s fd args (ps.zip us) → Vals vs us → sp vs H Q E → codeAny (model P w) A (.call (.ref f) args) (CR CX outer P w H s Q E) s
section
variable {P : Program} {w : PySem.World} {K : PySem.W.Frag} {mg : Str → Option Value} {base : Heap} {CX : CXT} {k : Nat} {f : Addr} {fd : FuncData} {ps : List Str} {sp sp' : Sp}
theorem FnG.up {j : Nat} (F : FnG P w K mg base CX j f fd ps sp) (h : j ≤ k) : FnG P w K mg base CX k f fd ps sp := ⟨F.ln, fun A outer s H args us vs Q E hg hr => F.go A outer s H args us vs Q E hg (hr.mono h)⟩
theorem FnG.imp (F : FnG P w K mg base CX k f fd ps sp) (h : ∀ vs H Q E, sp' vs H Q E → sp vs H Q E) : FnG P w K mg base CX k f fd ps sp' :=
  ⟨fun vs H Q E q => F.ln vs H Q E (h _ _ _ _ q), fun A outer s H args us vs Q E hg hr e b v q => F.go A outer s H args us vs Q E hg hr e b v (h _ _ _ _ q)⟩
theorem FnOk.g (F : FnOk P w K mg base CX k f fd ps sp) : FnG P w K mg base CX k f fd ps sp := ⟨F.len, fun A outer s H args us vs Q E _ hr e b v q => F.run A outer s H args us vs Q E hr e b v q⟩
/-- nothing is promised -/
theorem FnG.no : FnG P w K mg base CX k f fd ps (fun _ _ _ _ => False) := ⟨fun _ _ _ _ h => h.elim, fun _ _ _ _ _ _ _ _ _ _ _ _ _ _ h => h.elim⟩

/-- from the body to the promise -/
theorem fng_of {name qual : Str} {params : Arguments} {body : List Stmt} {scope : Scope} {dV kV doc pm cdv ct oc : Value} {an od : Option Addr} {osl : Array (Option Value)} {N : List Str}
    (lk : K.lookup f = some ⟨oc, od, .func (PySem.W.fnOf name qual params body scope dV kV doc pm an cdv ct), osl⟩) (hcd : PySem.W.codeIn K cdv qual = true) (S : FnScope N ps scope) (ln : ∀ vs H Q E, sp vs H Q E → vs.length = ps.length)
    (hbody : ∀ (A : Around) (outer : List PySem.Env) (s : Shared) (H : Hp) (vs : List V) (Q : VK) (E : XK), A.guards = some [] → Room k (A.deeper (envOfC qual scope s.heap.objs.size f cdv)) → sp vs H Q E →
      ∃ t, PSs (cxOf CX P w K mg base N qual scope f cdv A outer s H E) body t ∧ t { nx := fun _ H' => Q .non H', rt := Q } (L2.start N vs) H) :
    FnG P w K mg base CX (k + 1) f (PySem.W.fnOf name qual params body scope dV kV doc pm an cdv ct) ps sp := by
  constructor
  · exact ln
  · intro A outer s H args us vs Q E hgd hr e0 hb r hsp
    have old : ∀ b o, base.get? b = some o → s.heap.get? b = some o := fun b o e => (e0.bs b o e).1
    have KX := e0.mod.kin.keeps old
    have lim := e0.mod.nolimit.keeps old
    refine codeAny_call_function hr.depth (KX _ _ lk) rfl S.co S.gen rfl (PySem.W.codeRec_of KX hcd) (hb _ _ _ _ ?_)
    refine wpAny_newFunctionEnv_cells S.kind ?_ fun env he s1 x => ?_
    · rintro ⟨n, v⟩ hy
      rcases S.par n (List.of_mem_zip hy).1 with q | q
      · left; exact q
      · right; exact ⟨q, PySem.W.cellsFrom_some _ _ _ (.inl q)⟩
    · cases he
      refine ⟨lim.keeps x.toInCall.keep, codeAny_func ?_⟩
      obtain ⟨t, ht, hq⟩ := hbody A outer s H vs Q E hgd (hr.deeper _) hsp
      have I := inv_start (CX := CX) (E := E) (qual := qual) (f := f) (cd := cdv) S hr.hd e0 (ln _ _ _ _ hsp) r x
      refine wpAny_mono (ht.run [] s1 (L2.start N vs) H _ I hq) (fun fl s' hs => ?_) fun _ _ hs => hs
      cases fl with
      | brk => obtain ⟨_, _, _, z⟩ := hs; exact z.elim
      | cont => obtain ⟨_, _, _, z⟩ := hs; exact z.elim
      | next => obtain ⟨σ', H', J, z⟩ := hs; exact ⟨.non, H', J.os, J.bare, J.base, J.hok, rfl, z⟩
      | ret u => obtain ⟨v, σ', H', J, rv, z⟩ := hs; exact ⟨v, H', J.os, J.bare, J.base, J.hok, rv, z⟩
theorem FunG.ok {x qual : Str} {st : Stmt} {N : List Str} (F : Fun K x qual st f fd) (S : FnScope N ps (defScope st)) (ln : ∀ vs H Q E, sp vs H Q E → vs.length = ps.length)
    (hbody : ∀ (cdv : Value) (A : Around) (outer : List PySem.Env) (s : Shared) (H : Hp) (vs : List V) (Q : VK) (E : XK), A.guards = some [] → Room k (A.deeper (envOfC qual (defScope st) s.heap.objs.size f cdv)) → sp vs H Q E →
      ∃ t, PSs (cxOf CX0 P w K mg base N qual (defScope st) f cdv A outer s H E).nox (defBody st) t ∧ t { nx := fun _ H' => Q .non H', rt := Q } (L2.start N vs) H) : FnG P w K mg base CX0 (k + 1) f fd ps sp := by
  obtain ⟨oc, od, kV, doc, pm, an, cdv, ct, osl, rfl, lk, hcd⟩ := F.ex
  refine fng_of lk hcd S ln fun A outer s H vs Q E hgd hr h => ?_
  obtain ⟨t, ht, q⟩ := hbody cdv A outer s H vs Q E hgd hr h
  exact ⟨t, ht.nox, q⟩
end
section
variable {X : Cx} {CX : CXT} {k : Nat} {f : Addr} {fd : FuncData} {ps : List Str} {sp : Sp} {dvs : List V} {ds : List Value} {E : XK} {x : Str} {p pos : Pos} {e : Expr} {es : List Expr} {t : TA}
theorem run_fng {pins : List (Addr × Obj)} {σ : L2.St} {H : Hp} {s : Shared} {Q : VK} {us : List Value} {vs : List V} (F : FnG X.prog X.w X.K X.mg X.base CX k f fd ps sp) (hgd : X.A.guards = some []) (hr : Room k X.A) (hb : Binds X.K fd ps ds) (hd : Vals dvs ds) (hx : Passes CX X E)
    (I : Inv X pins σ H s) (r : Vals vs us) (h : sp (vs ++ dvs) H Q E) : wpAny (model X.prog X.w) X.A (call (.ref f) us) (EP X pins σ Q) X.xe s := by
  have r2 := r.append hd
  have hl : (us ++ ds).length = ps.length := r2.length.symm.trans (F.ln _ _ _ _ h)
  refine wpAny_call (codeAny_mono (F.go X.A X.stack s H ⟨us, []⟩ (us ++ ds) (vs ++ dvs) Q E hgd hr I.env0 (hb s us I.kIn hl) r2 h) ?_)
  rintro (e | (_ | _ | _ | u)) s' hq
  · exact hx pins σ H s e s' I hq
  all_goals first | exact I.after hq | exact hq.elim
theorem pe_callG (F : FnG X.prog X.w X.K X.mg X.base CX k f fd ps sp) (hgd : X.A.guards = some []) (hr : Room k X.A) (hg : Gl X x) (hm : X.mg x = some (.ref f)) (hk : PySem.W.keepIn X.K (.ref f) = true) (hb : Binds X.K fd ps ds) (hd : Vals dvs ds) (hx : Passes CX X E)
    (ha : PA X (e :: es) t) (hdb : (x == ("__debug__" : Str)) = false := by decide) (he : starEach (e :: es) X.env = (false, eval e X.env) :: starEach es X.env := by rfl) (hpl : (backTo pos (starEach es X.env)).any (·.1) = false := by rfl) :
    PE X (.Call (.Name x p) (e :: es) [] pos) (tCall sp dvs E t) := by
  constructor
  intro pins s σ H Q I h
  refine wpAny_Call_Name_kw (ld_glob I hg hm (PySem.W.callWith_K (h₀ := X.base) I.ok.mod.kin hk ?_ he hpl) hdb)
  exact thn (ha.run pos pins s σ H _ I h) fun us s1 ⟨vs, H1, I1, r, q⟩ => ⟨I1.kIn, run_fng F hgd hr hb hd hx I1 r q⟩
theorem pe_callG0 (F : FnG X.prog X.w X.K X.mg X.base CX k f fd ps sp) (hgd : X.A.guards = some []) (hr : Room k X.A) (hg : Gl X x) (hm : X.mg x = some (.ref f)) (hk : PySem.W.keepIn X.K (.ref f) = true) (hb : Binds X.K fd ps ds) (hd : Vals dvs ds) (hx : Passes CX X E)
    (hdb : (x == ("__debug__" : Str)) = false := by decide) : PE X (.Call (.Name x p) [] [] pos) (tCall sp dvs E tNil) := by
  constructor
  intro pins s σ H Q I h
  exact wpAny_Call_Name_kw (ld_glob I hg hm (PySem.W.callWith_K0 I.kIn hk (run_fng (us := []) F hgd hr hb hd hx I .nil h)) hdb)
/-- a call of a def by its mirror -/
theorem pm_call {n : Nat} {g : Fn} {ms : EM (List SV)} (F : FnG X.prog X.w X.K X.mg X.base CX0 k f fd ps (spM X.K n g)) (hgd : X.A.guards = some []) (hr : Room k X.A) (hg : Gl X x) (hm : X.mg x = some (.ref f)) (hk : PySem.W.keepIn X.K (.ref f) = true) (hb : Binds X.K fd ps [])
    (ha : PAm X (e :: es) ms) (hn : ∀ ρ M ss M', ms ρ M = some (ss, M') → ss.length = n) (hdb : (x == ("__debug__" : Str)) = false := by decide) (he : starEach (e :: es) X.env = (false, eval e X.env) :: starEach es X.env := by rfl) (hpl : (backTo pos (starEach es X.env)).any (·.1) = false := by rfl) :
    PM X (.Call (.Name x p) (e :: es) [] pos) (eFn g ms) := PE.imp (pe_callG F hgd hr hg hm hk hb .nil pass0 ha hdb he hpl) (efn_go hn)
end

/-! ### the law's end -/
theorem law_end {P : Program} {w : PySem.World} {K : PySem.W.Frag} {mg mb : Str → Option Value} {CX : CXT} {k : Nat} {fa a : Addr} {fd : FuncData} {x : Str} {sp : Sp} {t : Shared} {vs : List Value} {ns : List Int} (KX : K.In t.heap) (hns : t.heap.Ns mainGlobals mg) (hb : t.heap.Ns builtinsNs mb)
    (hbb : ∀ x : Str, x ≠ "__name__" → mb x = bootBuiltins x) (hlim : t.heap.NoLimit) (hg : t.gens = #[]) (ha : t.heap.get? a = some { cls := .type "list", data := .seq vs.toArray }) (hi : IntsAre vs ns) (hl : ns.length ≤ sizeLine) (hr : Room k callerA)
    (F : ∀ base : Heap, K.In base → base.Ns mainGlobals mg → FnG P w K mg base CX k fa fd [x] sp) (hbind : ∀ (s : Shared) (u : Value), BindsTo s fd ⟨[u], []⟩ [(x, u)])
    (hsp : ∀ H : Hp, Only H → SqL K H a (ns.map V.int) → sp [.ref a] H (fun v _ => v = .bl true) fun _ _ _ => False) (hCX : ∀ H e s', CX [] H t (fun _ _ _ => False) e s' → False) :
    codeAny (model P w) callerA (.call (.ref fa) ⟨[.ref a], []⟩) (fun r s' => r = .ok (.ret (.bool true)) ∧ OldK t.heap s'.heap ∧ s'.os = t.os ∧ AllBare s'.gens) t := by
  have rv := vals_ints hi
  have lv := hi.length
  have main : ∀ H : Hp, Only H → SqL K H a (ns.map V.int) → HOk P w H t.heap → (∀ b u, H b = some u → b = a ∧ K.lookup a = none) →
      codeAny (model P w) callerA (.call (.ref fa) ⟨[.ref a], []⟩) (fun r s' => r = .ok (.ret (.bool true)) ∧ OldK t.heap s'.heap ∧ s'.os = t.os ∧ AllBare s'.gens) t := by
    intro H hO hS hok hA
    have dictFree : ∀ {b : Addr} {o : Obj} {es : Array DictEntry} {ep : Nat}, t.heap.get? b = some o → o.data = .dict es ep → H b = none := by
      intro b o es ep e d
      cases q : H b with
      | none => rfl
      | some u =>
        obtain ⟨rfl, _⟩ := hA b u q
        rw [ha] at e
        cases e
        cases (show Data.seq vs.toArray _ = Data.dict es ep from d)
    have nsB : ∀ {b : Addr} {m : Str → Option Value}, t.heap.Ns b m → (hidT t.heap H).Ns b m := fun ⟨o, es, ep, e, d, r⟩ => ⟨o, es, ep, hidT_get e (dictFree e d), d, r⟩
    have KB : K.In (hidT t.heap H) := by
      intro b o e
      refine hidT_get (KX b o e) ?_
      cases q : H b with
      | none => rfl
      | some u =>
        obtain ⟨rfl, z⟩ := hA b u q
        rw [z] at e
        cases e
    have env : Env0 P w K mg (hidT t.heap H) callerA [] t H :=
      { frames := rfl
        mod := ⟨KB, nsB hns, ⟨mb, nsB hb, hbb⟩, let ⟨mc, h1, h2⟩ := hlim; ⟨mc, nsB h1, h2⟩⟩
        bs := fun b o e => of_hidT e
        bsz := Nat.le_of_eq (hidT_size _ _)
        funs := trivial
        frf := fun b z => nomatch (show b ∈ ([] : List Addr) from z)
        hok := hok
        bare := .of_eq hg }
    refine codeAny_mono ((F _ KB (nsB hns)).go callerA [] t H ⟨[.ref a], []⟩ [.ref a] [.ref a] _ _ rfl hr env (hbind t (.ref a)) (.cons rfl .nil) (hsp H hO hS)) ?_
    rintro (e | (_ | _ | _ | u)) s' h
    · exact (hCX H e s' h).elim
    · exact h.elim
    · exact h.elim
    · exact h.elim
    · obtain ⟨v, H', os, bare, un, hok', r', q⟩ := h
      cases (show v = .bl true from q)
      cases (show u = Value.bool true from r')
      refine ⟨rfl, OldK.of_keep fun b o e => ?_, os, bare⟩
      cases q : H b with
      | none => exact un.keep b o e q (fun z => nomatch (show b ∈ ([] : List Addr) from z)) (by simp)
      | some u =>
        rcases hO b with z | ⟨ob, xs, z⟩
        · rw [q] at z
          cases z
        · obtain ⟨e1, _⟩ := hok b _ z
          obtain ⟨e2, _⟩ := hok' b _ (un.frzs b ob _ z)
          rw [e] at e1
          cases e1
          exact e2
  cases hk : K.lookup a with
  | some o =>
    have e := KX a o hk
    rw [ha] at e
    cases e
    refine main (fun _ => none) (fun _ => .inl rfl) ?_ (fun b u z => nomatch z) fun b u z => nomatch z
    exact .inr ⟨_, vs.toArray, _, hk, rfl, rfl, rfl, by rw [List.size_toArray, lv]; exact hl, by simpa using rv⟩
  | none =>
    have at1 : ∀ {b : Addr} {u : HO}, (if b = a then some (HO.frz { cls := .type "list", data := .seq vs.toArray } (.lst (ns.map V.int))) else none) = some u → b = a ∧ u = HO.frz { cls := .type "list", data := .seq vs.toArray } (.lst (ns.map V.int)) := by
      intro b u z
      split at z
      · rename_i hb
        cases z
        exact ⟨hb, rfl⟩
      · cases z
    refine main (fun b => if b = a then some (.frz { cls := .type "list", data := .seq vs.toArray } (.lst (ns.map V.int))) else none) (fun b => ?_) (.inl (.inr ⟨_, if_pos rfl⟩)) (fun b u z => ?_) fun b u z => ⟨(at1 z).1, hk⟩
    · by_cases hb : b = a
      · exact .inr ⟨_, _, if_pos hb⟩
      · exact .inl (if_neg hb)
    · obtain ⟨rfl, rfl⟩ := at1 z
      exact ⟨ha, by rw [List.length_map]; exact hl, vs, _, rv, ha⟩
theorem walk_end {l : PySem.W.OpenLaw} {n k : Nat} {q : Program} {loose : List Str} {XP : (Str → Option Value) → Heap → Prop} {YP : PySem.World → Heap → Prop} {d : DefRec} {CX : CXT} {x : Str}
    (hn : l.most = some n) (hn2 : n ≤ sizeLine) (hdf : d.params.defaults = []) (hr : Room k callerA)
    (F : ∀ (w : PySem.World) (mg : Str → Option Value) (fa : Addr) (h : Heap), YP w h → h.Ns mainGlobals mg → mg d.name = some (.ref fa) → ∃ (K : PySem.W.Frag) (fd : FuncData) (sp : Sp), K.In h ∧ (∀ (s : Shared) (u : Value), BindsTo s fd ⟨[u], []⟩ [(x, u)]) ∧
        (∀ (H : Hp) (a : Addr) (ns : List Int), ns.length ≤ n → Only H → SqL K H a (ns.map V.int) → sp [.ref a] H (fun v _ => v = .bl true) fun _ _ _ => False) ∧
        ∀ base : Heap, K.In base → base.Ns mainGlobals mg → FnG l.prog w K mg base CX k fa fd [x] sp)
    (hCX : ∀ (H : Hp) (s : Shared) (e : Value) (s' : Shared), CX [] H s (fun _ _ _ => False) e s' → False) :
    PySem.W.WalkO q loose XP YP l.row.toRowW d [] (fun f vs => PySem.call f vs) := by
  refine Att.attach_call hn hdf ?_
  intro w s0 t mg mb fa o pm cd doc a vs ns G Y ho hd hcd hmg hobj hints hlen hg
  obtain ⟨K, fd, sp, KX, hb, hsp, hF⟩ := F w mg fa _ Y G.T.g hmg
  exact law_end KX G.T.g G.T.b G.T.builtins G.T.nolimit hg hobj hints (Nat.le_trans hlen hn2) hr hF hb (fun H hO hS => hsp H a ns hlen hO hS) fun H e s' => hCX H t e s'
end Dy

set_option Elab.async false
set_option linter.all false
set_option maxRecDepth 100000
set_option maxHeartbeats 4000000
/-! Layer Dy, part 9: built-ins. -/
namespace Dy
open PySem L2

/-! ### calls of built-ins by values -/
def CallD (K : PySem.W.Frag) (r : List V → Hp → VK → Prop) (g : MS → List SV → Option R) : Prop := ∀ (Hk H : Hp) (M : MS) (ls : List Addr) (vs : List V) (ss : List SV) (z : R) (Q : VK), World K Hk H M ls → SVs K Hk ls ls.length vs ss → g M ss = some z → Res K ls Hk H z M Q → r vs H Q
def eCall (g : MS → List SV → Option R) (ms : EM (List SV)) : EM R := ms.seq fun ss => fun _ M => match g M ss with
  | some z => some (z, M)
  | none => none
theorem ecall_go {X : Cx} {r : List V → Hp → VK → Prop} {g : MS → List SV → Option R} {ms : EM (List SV)} (hd : CallD X.K r g) : ∀ σ H Q, tM X.K (eCall g ms) σ H Q → tCB r (tA X.K ms) σ H Q := fun σ H Q ⟨Hk, ls, ρ, M, z, M', w, en, hm, q⟩ => by
  obtain ⟨ss, M1, h1, h2⟩ := seq_some hm
  refine ⟨Hk, ls, ρ, M, ss, M1, w, en, h1, fun vs Hk1 H1 w1 x1 r1 => ?_⟩
  cases hg : g M1 ss with
  | none => rw [hg] at h2; cases h2
  | some z' =>
    rw [hg] at h2
    cases h2
    exact hd Hk1 H1 _ ls vs ss _ Q w1 r1 hg (q.back x1)
/-- one argument -/
def g1 (g : MS → SV → Option R) : MS → List SV → Option R := fun M ss => match ss with
  | [s] => g M s
  | _ => none
def g2 (g : MS → SV → SV → Option R) : MS → List SV → Option R := fun M ss => match ss with
  | [s, t] => g M s t
  | _ => none
theorem CallD.one {K : PySem.W.Frag} {r : List V → Hp → VK → Prop} {g : MS → SV → Option R} (h : ∀ (Hk H : Hp) (M : MS) (ls : List Addr) (v : V) (s : SV) (z : R) (Q : VK), World K Hk H M ls → SVr K Hk ls ls.length v s → g M s = some z → Res K ls Hk H z M Q → r [v] H Q) : CallD K r (g1 g) := by
  intro Hk H M ls vs ss z Q w rs e q
  unfold g1 at e
  split at e
  · cases rs with
    | cons r1 t => cases t; exact h Hk H M ls _ _ z Q w r1 e q
  · cases e
section
variable {X : Cx} {x : Str} {p pos : Pos} {e : Expr} {es : List Expr} {ms : EM (List SV)} {id T : String} {r : List V → Hp → VK → Prop} {g : MS → List SV → Option R}
theorem pm_callB (hc : CallR X (.builtin id) r) (hd : CallD X.K r g) (hg : Gl X x) (hm : X.mg x = none) (hv : bootBuiltins x = some (.builtin id)) (ha : PAm X (e :: es) ms) (hn : x ≠ "__name__" := by decide) (hdb : (x == ("__debug__" : Str)) = false := by decide)
    (he : starEach (e :: es) X.env = (false, eval e X.env) :: starEach es X.env := by rfl) (hpl : (backTo pos (starEach es X.env)).any (·.1) = false := by rfl) : PM X (.Call (.Name x p) (e :: es) [] pos) (eCall g ms) := PE.imp (pe_callB hc hg hm hv ha hn hdb he hpl) (ecall_go hd)
theorem pm_callTy (hc : CallR X (.type T) r) (hd : CallD X.K r g) (hg : Gl X x) (hm : X.mg x = none) (hv : bootBuiltins x = some (.type T)) (ha : PAm X (e :: es) ms) (hn : x ≠ "__name__" := by decide) (hdb : (x == ("__debug__" : Str)) = false := by decide)
    (he : starEach (e :: es) X.env = (false, eval e X.env) :: starEach es X.env := by rfl) (hpl : (backTo pos (starEach es X.env)).any (·.1) = false := by rfl) : PM X (.Call (.Name x p) (e :: es) [] pos) (eCall g ms) := PE.imp (pe_callTy hc hg hm hv ha hn hdb he hpl) (ecall_go hd)
end

/-! ### len -/
def lenS (M : MS) (s : SV) : Option R := match s with
  | .dt (.str z) => if z.length ≤ sizeLine then some (.sv (.dt (.int z.length))) else none
  | s => match itemsOf M s with
    | some xs => some (.sv (.dt (.int xs.length)))
    | none => none
theorem calld_len {K : PySem.W.Frag} : CallD K (rLen K) (g1 lenS) := CallD.one fun Hk H M ls v s z Q w r e q => by
  unfold lenS at e
  split at e
  · split at e
    · rename_i hz
      cases e
      have := Rp.str_inv r
      subst this
      exact ⟨_, _, rfl, ⟨hz, rfl⟩, q.dt w (.int _)⟩
    · cases e
  · split at e
    · rename_i xs hx
      cases e
      obtain ⟨a, vs, rfl, hq, hs⟩ := itemsOf_ok w r hx
      rcases hq with hq | hq
      · exact ⟨_, vs.length, rfl, .inl ⟨vs, hq, rfl⟩, q.dt w (by rw [hs.length]; exact .int _)⟩
      · exact ⟨_, vs.length, rfl, .inr ⟨vs, hq, rfl⟩, q.dt w (by rw [hs.length]; exact .int _)⟩
    · cases e
/-! ### abs, int -/
def absS (_ : MS) (s : SV) : Option R := match s with
  | .dt (.int i) => some (.sv (.dt (.int (if i < 0 then -i else i))))
  | _ => none
theorem calld_abs {K : PySem.W.Frag} : CallD K (fun xs H Q => ∃ i, xs = [.int i] ∧ Q (.int (if i < 0 then -i else i)) H) (g1 absS) := CallD.one fun Hk H M ls v s z Q w r e q => by
  unfold absS at e
  split at e
  · cases e
    have := Rp.int_inv r
    subst this
    exact ⟨_, rfl, q.dt w (.int _)⟩
  · cases e
def intS (_ : MS) (s : SV) : Option R := match s with
  | .dt (.int i) => some (.sv (.dt (.int i)))
  | .dt (.bl k) => some (.sv (.dt (.int (if k then 1 else 0))))
  | _ => none
theorem calld_int {K : PySem.W.Frag} : CallD K (fun xs H Q => (∃ i, xs = [.int i] ∧ Q (.int i) H) ∨ ∃ k, xs = [.bl k] ∧ Q (.int (if k then 1 else 0)) H) (g1 intS) := CallD.one fun Hk H M ls v s z Q w r e q => by
  unfold intS at e
  split at e
  · cases e
    have := Rp.int_inv r
    subst this
    exact .inl ⟨_, rfl, q.dt w (.int _)⟩
  · cases e
    have := Rp.bl_inv r
    subst this
    exact .inr ⟨_, rfl, q.dt w (.int _)⟩
  · cases e
/-! ### all, any, sum -/
def dBools : List D → Option (List Bool)
  | [] => some []
  | .bl b :: r => match dBools r with
    | some bs => some (b :: bs)
    | none => none
  | _ => none
theorem dBools_ok {K : PySem.W.Frag} {H : Hp} : ∀ {vs : List V} {ds : List D} {bs : List Bool}, RpA K H vs ds → dBools ds = some bs → vs = bs.map V.bl
  | _, _, _, .nil, e => by cases e; rfl
  | _, _, _, .cons (d := d) (ds := ds) r t, e => by
    cases d with
    | bl b =>
      unfold dBools at e
      cases h : dBools ds with
      | none => rw [h] at e; cases e
      | some bs =>
        rw [h] at e
        cases e
        rw [Rp.bl_inv r, dBools_ok t h]
        rfl
    | _ => cases e
def allS (M : MS) (s : SV) : Option R := match listD M s with
  | some ds => match dBools ds with
    | some bs => rB (bs.all id)
    | none => none
  | none => none
theorem calld_all {K : PySem.W.Frag} : CallD K (rAll K) (g1 allS) := CallD.one fun Hk H M ls v s z Q w r e q => by
  unfold allS at e
  split at e
  · rename_i ds hd
    split at e
    · rename_i bs hb
      cases e
      obtain ⟨a, vs, rfl, hq, ra⟩ := listD_ok w r hd
      have := dBools_ok ra hb
      subst this
      exact ⟨a, bs, rfl, SqL.of hq, q.dt w (.bl _)⟩
    · cases e
  · cases e
def dInts : List D → Option (List Int)
  | [] => some []
  | .int b :: r => match dInts r with
    | some bs => some (b :: bs)
    | none => none
  | _ => none
theorem dInts_ok {K : PySem.W.Frag} {H : Hp} : ∀ {vs : List V} {ds : List D} {bs : List Int}, RpA K H vs ds → dInts ds = some bs → vs = bs.map V.int
  | _, _, _, .nil, e => by cases e; rfl
  | _, _, _, .cons (d := d) (ds := ds) r t, e => by
    cases d with
    | int b =>
      unfold dInts at e
      cases h : dInts ds with
      | none => rw [h] at e; cases e
      | some bs =>
        rw [h] at e
        cases e
        rw [Rp.int_inv r, dInts_ok t h]
        rfl
    | _ => cases e
def sumS (M : MS) (s : SV) : Option R := match listD M s with
  | some ds => match dInts ds with
    | some bs => some (.sv (.dt (.int bs.sum)))
    | none => none
  | none => none
theorem calld_sum {K : PySem.W.Frag} : CallD K (rSum K) (g1 sumS) := CallD.one fun Hk H M ls v s z Q w r e q => by
  unfold sumS at e
  split at e
  · rename_i ds hd
    split at e
    · rename_i bs hb
      cases e
      obtain ⟨a, vs, rfl, hq, ra⟩ := listD_ok w r hd
      have := dInts_ok ra hb
      subst this
      exact ⟨a, bs, rfl, SqL.of hq, q.dt w (.int _)⟩
    · cases e
  · cases e
def dStrs : List D → Option (List Str)
  | [] => some []
  | .str b :: r => match dStrs r with
    | some bs => some (b :: bs)
    | none => none
  | _ => none
theorem dStrs_ok {K : PySem.W.Frag} {H : Hp} : ∀ {vs : List V} {ds : List D} {bs : List Str}, RpA K H vs ds → dStrs ds = some bs → vs = bs.map V.str
  | _, _, _, .nil, e => by cases e; rfl
  | _, _, _, .cons (d := d) (ds := ds) r t, e => by
    cases d with
    | str b =>
      unfold dStrs at e
      cases h : dStrs ds with
      | none => rw [h] at e; cases e
      | some bs =>
        rw [h] at e
        cases e
        rw [Rp.str_inv r, dStrs_ok t h]
        rfl
    | _ => cases e
/-! ### list, tuple -/
def listS (M : MS) (s : SV) : Option R := match itemsD M s with
  | some ds => some (.fr ds)
  | none => none
theorem calld_list {K : PySem.W.Frag} : CallD K (fun xs H Q => ∃ p ys, xs = [.ref p] ∧ (SqL K H p ys ∨ SqT K H p ys) ∧ ∀ l, H l = none → Q (.ref l) (upd H l (.lst ys))) (g1 listS) := CallD.one fun Hk H M ls v s z Q w r e q => by
  unfold listS at e
  split at e
  · rename_i ds hd
    cases e
    obtain ⟨a, vs, rfl, hq, ra⟩ := itemsD_ok w r hd
    exact ⟨a, vs, rfl, hq, fun l hl => q.newL w hl ra⟩
  · cases e
def tupleS (M : MS) (s : SV) : Option R := match s with
  | .dt (.tup ds) => some (.sv (.dt (.tup ds)))
  | s => match listD M s with
    | some ds => some (.sv (.dt (.tup ds)))
    | none => none
theorem calld_tuple {K : PySem.W.Frag} : CallD K (fun xs H Q => ∃ p ys, xs = [.ref p] ∧ ((SqL K H p ys ∧ ∀ l, H l = none → Q (.ref l) (upd H l (.tup ys))) ∨ (SqT K H p ys ∧ Q (.ref p) H))) (g1 tupleS) := CallD.one fun Hk H M ls v s z Q w r e q => by
  unfold tupleS at e
  split at e
  · cases e
    cases r with
    | tup h a => exact ⟨_, _, rfl, .inr ⟨same_t w.sub h, q.dt w (.tup h a)⟩⟩
  · split at e
    · rename_i ds hd
      cases e
      obtain ⟨a, vs, rfl, hq, ra⟩ := listD_ok w r hd
      exact ⟨a, vs, rfl, .inl ⟨SqL.of hq, fun l hl => q.newT w hl ra⟩⟩
    · cases e
/-! ### isinstance -/
def tyS (M : MS) : SV → Option String
  | .dt .non => some "NoneType"
  | .dt (.bl _) => some "bool"
  | .dt (.int _) => some "int"
  | .dt (.str _) => some "str"
  | .dt (.lst _) => some "list"
  | .dt (.tup _) => some "tuple"
  | .dt (.dct _ _) => some "dict"
  | .mu k => match M[k]? with
    | some (.l _) => some "list"
    | some (.d _ _) => some "dict"
    | _ => none
  | _ => none
theorem tyS_ok {K : PySem.W.Frag} {Hk H : Hp} {M : MS} {ls : List Addr} {v : V} {s : SV} {T : String} (w : World K Hk H M ls) (r : SVr K Hk ls ls.length v s) (e : tyS M s = some T) : TyX K H v (.type T) := by
  unfold tyS at e
  split at e
  · cases e; cases r; exact .base .non
  · cases e; cases r; exact .base (.bl _)
  · cases e; cases r; exact .base (.int _)
  · cases e; cases r; exact .base (.str _)
  · cases e
    cases r with
    | lst h a => exact .base (.lst (w.sub _ _ h))
  · cases e
    cases r with
    | tup h a =>
      rcases same_t w.sub h with (h | ⟨o, h⟩) | ⟨o, its, n, hk, hc, _⟩
      · exact .base (.tup h)
      · exact .fTuple h
      · exact .kTuple hk hc
  · cases e
    cases r with
    | dct h _ _ _ => exact .base (.dK (w.sub _ _ h))
  · rename_i k
    obtain ⟨_, l, hl, rfl⟩ := r
    split at e
    · rename_i xs hM
      cases e
      obtain ⟨l', hl', vs, h, _⟩ := w.ms k _ hM
      rw [hl] at hl'; cases hl'
      exact .base (.lst h)
    · rename_i ks xs hM
      cases e
      obtain ⟨l', hl', vs, h, _⟩ := w.ms k _ hM
      rw [hl] at hl'; cases hl'
      exact .base (.dK h)
    · cases e
  · cases e
def tysN : List String := "NoneType" :: tysB
def isi1 (a T : String) : Bool := a == T || (a == "bool" && T == "int")
theorem kit_all : ∀ a ∈ tysN, ∀ T ∈ tysB, kitB a T = some (isi1 a T) := by decide +kernel
theorem tyS_mem {M : MS} {s : SV} {T : String} (e : tyS M s = some T) : T ∈ tysN := by
  unfold tyS at e
  split at e <;> first | (cases e; decide) | cases e | skip
  split at e <;> first | (cases e; decide) | cases e
def isiS (T : String) (M : MS) (s : SV) : Option Bool := match s with
  | .dt (.obj _) => some false
  | s => match tyS M s with
    | some a => some (isi1 a T)
    | none => none
theorem isiS_ok {K : PySem.W.Frag} {Hk H : Hp} {M : MS} {ls : List Addr} {v : V} {s : SV} {T : String} {b : Bool} (hT : T ∈ tysB) (w : World K Hk H M ls) (r : SVr K Hk ls ls.length v s) (e : isiS T M s = some b) : ∃ t, TyX K H v t ∧ PySem.W.kitOne K t (.type T) = some b := by
  unfold isiS at e
  split at e
  · cases e
    cases r with
    | obj h c => exact ⟨_, .base (.ins (w.sub _ _ h) c.cl c.ha c.hn c.htk c.hm), c.no T hT⟩
  · split at e
    · rename_i a ha
      cases e
      exact ⟨_, tyS_ok w r ha, kit_ty (kit_all a (tyS_mem ha) T hT)⟩
    · cases e
theorem isiS_ok2 {K : PySem.W.Frag} {Hk H : Hp} {M : MS} {ls : List Addr} {v : V} {s : SV} {T U : String} {b c : Bool} (hT : T ∈ tysB) (hU : U ∈ tysB) (w : World K Hk H M ls) (r : SVr K Hk ls ls.length v s) (e : isiS T M s = some b) (e2 : isiS U M s = some c) :
    ∃ t, TyX K H v t ∧ PySem.W.kitOne K t (.type T) = some b ∧ PySem.W.kitOne K t (.type U) = some c := by
  unfold isiS at e e2
  split at e
  · cases e
    cases e2
    cases r with
    | obj h c => exact ⟨_, .base (.ins (w.sub _ _ h) c.cl c.ha c.hn c.htk c.hm), c.no T hT, c.no U hU⟩
  · split at e
    · rename_i a ha
      simp only [ha] at e2
      cases e
      cases e2
      exact ⟨_, tyS_ok w r ha, kit_ty (kit_all a (tyS_mem ha) T hT), kit_ty (kit_all a (tyS_mem ha) U hU)⟩
    · cases e
def eIsi (T : String) (m : EM R) : EM R := (fz m).seq fun s => fun _ M => match isiS T M s with
  | some b => some (.sv (.dt (.bl b)), M)
  | none => none
def eIsi2 (T U : String) (m : EM R) : EM R := (fz m).seq fun s => fun _ M => match isiS T M s, isiS U M s with
  | some b, some c => some (.sv (.dt (.bl (b || c))), M)
  | _, _ => none
section
variable {X : Cx} {e : Expr} {m : EM R} {p p1 p2 p3 pos : Pos} {T U : String} {t u : Str}
theorem pm_isi (hT : T ∈ tysB) (hg : Gl X "isinstance") (hm : X.mg "isinstance" = none) (hgt : Gl X t) (hmt : X.mg t = none) (hvt : bootBuiltins t = some (.type T)) (h : PM X e m) (hnt : t ≠ "__name__" := by decide) (hdt : (t == ("__debug__" : Str)) = false := by decide)
    (he : starEach (e :: [.Name t p1]) X.env = (false, eval e X.env) :: starEach [.Name t p1] X.env := by rfl) (hpl : (backTo pos (starEach [.Name t p1] X.env)).any (·.1) = false := by rfl) (hs1 : starEach (.Name t p1 :: []) X.env = (false, eval (.Name t p1) X.env) :: starEach [] X.env := by rfl) :
    PM X (.Call (.Name "isinstance" p) [e, .Name t p1] [] pos) (eIsi T m) := PE.imp (pe_callB call_isi hg hm PyProof.Rows.boot_isinstance (pa_cons (PM.v h) (pa_cons (pe_bltn (v := .ty T) hgt hmt hvt rfl hnt hdt) pa_nil hs1) he) (by decide) (by decide) he hpl) fun σ H Q ⟨Hk, ls, ρ, M, r, M', w, en, hm, q⟩ => by
  obtain ⟨s, M1, h1, h2⟩ := seq_some hm
  refine ⟨Hk, ls, ρ, M, s, M1, w, en, h1, fun v Hk1 H1 w1 x1 r1 => ?_⟩
  split at h2
  · rename_i b hb
    cases h2
    obtain ⟨ty, h3, h4⟩ := isiS_ok hT w1 r1 hb
    exact ⟨v, .ty T, ty, .type T, b, rfl, .ty T, h3, h4, q _ Hk1 H1 w1 x1 (Rp.bl _)⟩
  · cases h2
theorem pm_isi2 {kk : Nat} (hT : T ∈ tysB) (hU : U ∈ tysB) (hg : Gl X "isinstance") (hm : X.mg "isinstance" = none) (hgt : Gl X t) (hmt : X.mg t = none) (hvt : bootBuiltins t = some (.type T)) (hgu : Gl X u) (hmu : X.mg u = none) (hvu : bootBuiltins u = some (.type U)) (h : PM X e m)
    (hnt : t ≠ "__name__" := by decide) (hdt : (t == ("__debug__" : Str)) = false := by decide) (hnu : u ≠ "__name__" := by decide) (hdu : (u == ("__debug__" : Str)) = false := by decide)
    (he : starEach (e :: [.Tuple [.Name t p1, .Name u p2] kk p3]) X.env = (false, eval e X.env) :: starEach [.Tuple [.Name t p1, .Name u p2] kk p3] X.env := by rfl) (hpl : (backTo pos (starEach [.Tuple [.Name t p1, .Name u p2] kk p3] X.env)).any (·.1) = false := by rfl)
    (hs1 : starEach (.Tuple [.Name t p1, .Name u p2] kk p3 :: []) X.env = (false, eval (.Tuple [.Name t p1, .Name u p2] kk p3) X.env) :: starEach [] X.env := by rfl) (hs2 : starEach (.Name t p1 :: [.Name u p2]) X.env = (false, eval (.Name t p1) X.env) :: starEach [.Name u p2] X.env := by rfl) (hs3 : starEach (.Name u p2 :: []) X.env = (false, eval (.Name u p2) X.env) :: starEach [] X.env := by rfl) :
    PM X (.Call (.Name "isinstance" p) [e, .Tuple [.Name t p1, .Name u p2] kk p3] [] pos) (eIsi2 T U m) := PE.imp (pe_callB call_isiT hg hm PyProof.Rows.boot_isinstance (pa_cons (PM.v h) (pa_cons (pe_tup (pa_cons (pe_bltn (v := .ty T) hgt hmt hvt rfl hnt hdt) (pa_cons (pe_bltn (v := .ty U) hgu hmu hvu rfl hnu hdu) pa_nil hs3) hs2)) pa_nil hs1) he) (by decide) (by decide) he hpl) fun σ H Q ⟨Hk, ls, ρ, M, r, M', w, en, hm, q⟩ => by
  obtain ⟨s, M1, h1, h2⟩ := seq_some hm
  refine ⟨Hk, ls, ρ, M, s, M1, w, en, h1, fun v Hk1 H1 w1 x1 r1 => ⟨by show 2 ≤ sizeLine; decide, fun pp hp => ?_⟩⟩
  split at h2
  · rename_i b c hb hc
    cases h2
    have w2 := w1.upd_new (o := .tup [.ty T, .ty U]) hp
    obtain ⟨ty, h3, h4, h5⟩ := isiS_ok2 hT hU w2 r1 hb hc
    refine ⟨v, pp, [.ty T, .ty U], ty, [.type T, .type U], b || c, rfl, upd_same, .cons (.ty T) (.cons (.ty U) .nil), h3, ?_, q _ Hk1 _ w2 (x1.trans (Ext.upd_new hp)) (Rp.bl _)⟩
    refine kitAny_cons h4 (fun hb => ?_) fun hb => by rw [hb]; rfl
    refine kitAny_cons h5 (fun hc => ?_) fun hc => by rw [hc]; exact Bool.or_true _
    rw [hb, hc]
    rfl
  · cases h2
end
end Dy

set_option Elab.async false
set_option linter.all false
set_option maxRecDepth 100000
set_option maxHeartbeats 4000000
/-! Layer Dy, part 10: methods, stores, repr, dict displays. -/
namespace Dy
open PySem L2 PySem.Spec PyProof.Rows

/-! ### methods -/
def MtD (K : PySem.W.Frag) (r : V → List V → Hp → VK → Prop) (g : MS → SV → List SV → Option (R × MS)) : Prop := ∀ (Hk H : Hp) (M : MS) (ls : List Addr) (v : V) (s : SV) (vs : List V) (ss : List SV) (z : R) (M' : MS) (Q : VK), World K Hk H M ls → SVr K Hk ls ls.length v s → SVs K Hk ls ls.length vs ss → g M s ss = some (z, M') → Res K ls Hk H z M' Q → r v vs H Q
/-- the receiver's type -/
def isTyS (T : String) (M : MS) (s : SV) : Bool := match s with
  | .dt (.str _) => T == "str"
  | .dt (.lst _) => T == "list"
  | .dt (.dct _ _) => T == "dict"
  | .mu k => match M[k]? with
    | some (.l _) => T == "list"
    | some (.d _ _) => T == "dict"
    | _ => false
  | _ => false
theorem isTyS_ok {K : PySem.W.Frag} {Hk H : Hp} {M : MS} {ls : List Addr} {v : V} {s : SV} {T : String} (w : World K Hk H M ls) (r : SVr K Hk ls ls.length v s) (e : isTyS T M s = true) : tyV K T v H := by
  unfold isTyS at e
  split at e
  · rw [Rp.str_inv r]; exact beq_iff_eq.mp e
  · cases r with
    | lst h a => exact .inl ⟨beq_iff_eq.mp e, _, SqL.of (w.sub _ _ h)⟩
  · cases r with
    | dct h _ _ _ => exact .inr (.inr (.inl ⟨beq_iff_eq.mp e, .inl ⟨_, w.sub _ _ h⟩⟩))
  · rename_i k
    obtain ⟨_, l, hl, rfl⟩ := r
    split at e
    · rename_i xs hM
      obtain ⟨l', hl', vs, h, _⟩ := w.ms k _ hM
      rw [hl] at hl'; cases hl'
      exact .inl ⟨beq_iff_eq.mp e, _, SqL.of h⟩
    · rename_i ks xs hM
      obtain ⟨l', hl', vs, h, _⟩ := w.ms k _ hM
      rw [hl] at hl'; cases hl'
      exact .inr (.inr (.inl ⟨beq_iff_eq.mp e, .inl ⟨_, h⟩⟩))
    · cases e
  · cases e
def eMt (T : String) (g : MS → SV → List SV → Option (R × MS)) (m : EM R) (ms : EM (List SV)) : EM R := (fz m).seq fun s => fun ρ M => if isTyS T M s = true then ms.seq (fun ss => fun _ M' => g M' s ss) ρ M else none
section
variable {X : Cx} {o e : Expr} {es : List Expr} {m : EM R} {ms : EM (List SV)} {name : Str} {apos cpos pos : Pos} {T id : String} {r : V → List V → Hp → VK → Prop} {g : MS → SV → List SV → Option (R × MS)}
theorem emt_go (hd : MtD X.K r g) : ∀ σ H Q, tM X.K (eMt T g m ms) σ H Q → tBM X.K T r (tV X.K (fz m)) (tA X.K ms) σ H Q := fun σ H Q ⟨Hk, ls, ρ, M, z, M', w, en, hm, q⟩ => by
  obtain ⟨s, M1, h1, h2⟩ := seq_some hm
  refine ⟨Hk, ls, ρ, M, s, M1, w, en, h1, fun v Hk1 H1 w1 x1 r1 => ?_⟩
  split at h2
  · rename_i ht
    refine ⟨isTyS_ok w1 r1 ht, ?_⟩
    obtain ⟨ss, M2, h3, h4⟩ := seq_some h2
    refine ⟨Hk1, ls, ρ, M1, ss, M2, w1, en.mono x1.kk, h3, fun vs Hk2 H2 w2 x2 r2 => ?_⟩
    exact hd Hk2 H2 M2 ls v s vs ss z M' Q w2 (r1.mono x2.kk) r2 h4 (q.back (x1.trans x2))
  · cases h2
theorem emt0_go (hd : MtD X.K r g) : ∀ σ H Q, tM X.K (eMt T g m eNil) σ H Q → tBM0 X.K T r (tV X.K (fz m)) σ H Q := fun σ H Q ⟨Hk, ls, ρ, M, z, M', w, en, hm, q⟩ => by
  obtain ⟨s, M1, h1, h2⟩ := seq_some hm
  refine ⟨Hk, ls, ρ, M, s, M1, w, en, h1, fun v Hk1 H1 w1 x1 r1 => ?_⟩
  split at h2
  · rename_i ht
    refine ⟨isTyS_ok w1 r1 ht, ?_⟩
    obtain ⟨ss, M2, h3, h4⟩ := seq_some h2
    cases h3
    exact hd Hk1 H1 _ ls v s [] [] z M' Q w1 r1 .nil h4 (q.back x1)
  · cases h2
theorem pm_mt (pa : PlainAttrs T) (slot : Slot T name id) (hty : typeOf (.builtin id) = pure (.type "method_descriptor")) (hm : MtR X id r) (hd : MtD X.K r g) (ho : PM X o m) (ha : PAm X (e :: es) ms)
    (hbase : attributeBase o name X.env (eval o X.env) = eval o X.env := by rfl)
    (hfew : ((backTo cpos (starEach (e :: es) X.env)).all (fun x => !x.1) && (backToKw cpos (keywordEach [] X.env)).all (fun x => x.1.isSome) && decide ((e :: es).length + ([] : List Keyword).length + (if ([] : List Keyword).isEmpty then 0 else 1) < 30)) = true := by rfl)
    (hline : (apos.endLine == cpos.line) = true := by rfl) (hs : starEach (e :: es) X.env = (false, eval e X.env) :: starEach es X.env := by rfl) (hplain : (backTo cpos (starEach es X.env)).any (·.1) = false := by rfl) :
    PM X (.Call (.Attribute o name apos) (e :: es) [] cpos) (eMt T g m ms) := PE.imp (pe_bm pa slot hty hm (PM.v ho) ha hbase hfew hline hs hplain) (emt_go hd)
theorem pm_mt0 (pa : PlainAttrs T) (slot : Slot T name id) (hty : typeOf (.builtin id) = pure (.type "method_descriptor")) (hm : MtR X id r) (hd : MtD X.K r g) (ho : PM X o m)
    (hbase : attributeBase o name X.env (eval o X.env) = eval o X.env := by rfl) (hline : (apos.endLine == cpos.line) = true := by rfl) : PM X (.Call (.Attribute o name apos) [] [] cpos) (eMt T g m eNil) := PE.imp (pe_bm0 pa slot hty hm (PM.v ho) hbase hline) (emt0_go hd)
end

/-! ### a list that has a handle is changed -/
section
variable {K : PySem.W.Frag} {Hk H : Hp} {M : MS} {ls : List Addr}
theorem World.setM {k : Nat} {l : Addr} {o : HO} {x x' : MO} (w : World K Hk H M ls) (hl : ls[k]? = some l) (hM : M[k]? = some x) (hn : MOr K Hk (upd H l o) ls k l x') : World K Hk (upd H l o) (M.set k x') ls := by
  have hmem : l ∈ ls := List.mem_of_getElem? hl
  have hkl : k < M.length := (List.getElem?_eq_some_iff.mp hM).1
  refine ⟨fun b u e => ?_, by rw [List.length_set]; exact w.len, w.nd, w.dj, fun j y e => ?_⟩
  · have : b ≠ l := fun z => by rw [z, w.dj l hmem] at e; cases e
    rw [upd_ne this]
    exact w.sub b u e
  · by_cases hj : k = j
    · subst hj
      rw [List.getElem?_set_self hkl] at e
      cases e
      exact ⟨l, hl, hn⟩
    · rw [List.getElem?_set_ne hj] at e
      obtain ⟨l', a, b⟩ := w.ms j y e
      have nl : l' ≠ l := fun z => by
        subst z
        have h1 := List.getElem?_eq_some_iff.mp hl
        have h2 := List.getElem?_eq_some_iff.mp a
        exact hj ((List.getElem_inj w.nd).mp (h1.2.trans h2.2.symm))
      refine ⟨l', a, ?_⟩
      cases y with
      | l xs => obtain ⟨vs, p, q⟩ := b; exact ⟨vs, by rw [upd_ne nl]; exact p, q⟩
      | d ks xs => obtain ⟨vs, p, q, r⟩ := b; exact ⟨vs, by rw [upd_ne nl]; exact p, q, r⟩
      | i C ns xs => obtain ⟨dx, vs, p, q, r⟩ := b; exact ⟨dx, vs, by rw [upd_ne nl]; exact p, q, r⟩
theorem Ext.setM {l : Addr} {o : HO} (hl : l ∈ ls) : Ext ls Hk H Hk (upd H l o) where
  kk := fun _ _ e => e
  fr := fun a u e hn => by
    have : a ≠ l := fun z => hn (z ▸ hl)
    rw [upd_ne this]
    exact e
  gr := fun a e => .inl e
  st := fun a e => by
    by_cases z : a = l
    · subst z; rw [upd_same]; simp
    · rw [upd_ne z]; exact e
/-- the list behind a handle -/
def muL (M : MS) : SV → Option (Nat × List SV)
  | .mu k => match M[k]? with
    | some (.l xs) => some (k, xs)
    | _ => none
  | _ => none
theorem muL_ok {v : V} {s : SV} {k : Nat} {xs : List SV} (w : World K Hk H M ls) (r : SVr K Hk ls ls.length v s) (e : muL M s = some (k, xs)) : ∃ l vs, v = .ref l ∧ ls[k]? = some l ∧ M[k]? = some (.l xs) ∧ H l = some (.lst vs) ∧ SVs K Hk ls k vs xs := by
  unfold muL at e
  split at e
  · rename_i j
    split at e
    · rename_i ys hM
      cases e
      obtain ⟨_, l, hl, rfl⟩ := r
      obtain ⟨l', hl', vs, h, hs⟩ := w.ms _ _ hM
      rw [hl] at hl'; cases hl'
      exact ⟨l, vs, rfl, hl, hM, h, hs⟩
    · cases e
  · cases e
end
def gAppend (M : MS) (s : SV) (ss : List SV) : Option (R × MS) := match muL M s, ss with
  | some (k, xs), [.dt d] => if xs.length < sizeLine then some (.sv (.dt .non), M.set k (.l (xs ++ [.dt d]))) else none
  | _, _ => none
theorem mtd_append {K : PySem.W.Frag} : MtD K rAppend gAppend := by
  intro Hk H M ls v s vs ss z M' Q w rv rs e q
  unfold gAppend at e
  split at e
  · rename_i k xs d hm
    split at e
    · rename_i hz
      cases e
      obtain ⟨l, us, rfl, hl, hM, hH, hs⟩ := muL_ok w rv hm
      cases rs with
      | cons r1 t =>
        cases t
        refine ⟨l, us, _, rfl, rfl, hH, by rw [hs.length]; exact hz, q .non Hk _ (w.setM hl hM ⟨_, upd_same, hs.append (.cons (show SVr K Hk ls k _ (.dt d) from r1) .nil)⟩) (Ext.setM (List.mem_of_getElem? hl)) Rp.non⟩
    · cases e
  · cases e
def gPop (M : MS) (s : SV) (ss : List SV) : Option (R × MS) := match muL M s, ss with
  | some (k, xs), [] => match xs[xs.length - 1]? with
    | some (.dt d) => some (.sv (.dt d), M.set k (.l xs.dropLast))
    | _ => none
  | _, _ => none
theorem mtd_pop {K : PySem.W.Frag} : MtD K rPop gPop := by
  intro Hk H M ls v s vs ss z M' Q w rv rs e q
  unfold gPop at e
  split at e
  · rename_i k xs hm
    split at e
    · rename_i d hd
      cases e
      obtain ⟨l, us, rfl, hl, hM, hH, hs⟩ := muL_ok w rv hm
      cases rs
      obtain ⟨u, hu, ru⟩ := hs.get hd
      refine ⟨l, us, u, rfl, rfl, hH, by rw [hs.length]; exact hu, q u Hk _ (w.setM hl hM ⟨_, upd_same, hs.dropLast⟩) (Ext.setM (List.mem_of_getElem? hl)) ru⟩
    · cases e
  · cases e
def gPopAt (M : MS) (s : SV) (ss : List SV) : Option (R × MS) := match muL M s, ss with
  | some (k, xs), [.dt (.int i)] => if -(2 ^ 63) ≤ i ∧ i < 2 ^ 63 then match seqIndex? i xs.length with
      | some j => match xs[j]? with
        | some (.dt d) => some (.sv (.dt d), M.set k (.l (xs.eraseIdx j)))
        | _ => none
      | none => none
    else none
  | _, _ => none
theorem mtd_popAt {K : PySem.W.Frag} : MtD K rPopAt gPopAt := by
  intro Hk H M ls v s vs ss z M' Q w rv rs e q
  unfold gPopAt at e
  split at e
  · rename_i k xs i hm
    split at e
    · rename_i hz
      split at e
      · rename_i j hj
        split at e
        · rename_i d hd
          cases e
          obtain ⟨l, us, rfl, hl, hM, hH, hs⟩ := muL_ok w rv hm
          cases rs with
          | cons r1 t =>
            cases t
            have := Rp.int_inv r1
            subst this
            obtain ⟨u, hu, ru⟩ := hs.get hd
            refine ⟨l, us, i, j, u, rfl, rfl, hH, hz.1, hz.2, by rw [hs.length]; exact hj, hu, q u Hk _ (w.setM hl hM ⟨_, upd_same, hs.eraseIdx j⟩) (Ext.setM (List.mem_of_getElem? hl)) ru⟩
        · cases e
      · cases e
    · cases e
  · cases e
def gClear (M : MS) (s : SV) (ss : List SV) : Option (R × MS) := match muL M s, ss with
  | some (k, _), [] => some (.sv (.dt .non), M.set k (.l []))
  | _, _ => none
theorem mtd_clear {K : PySem.W.Frag} : MtD K rClear gClear := by
  intro Hk H M ls v s vs ss z M' Q w rv rs e q
  unfold gClear at e
  split at e
  · rename_i k xs hm
    cases e
    obtain ⟨l, us, rfl, hl, hM, hH, hs⟩ := muL_ok w rv hm
    cases rs
    exact ⟨l, us, rfl, rfl, hH, q .non Hk _ (w.setM hl hM ⟨_, upd_same, .nil⟩) (Ext.setM (List.mem_of_getElem? hl)) Rp.non⟩
  · cases e
def gExtend (M : MS) (s : SV) (ss : List SV) : Option (R × MS) := match muL M s, ss with
  | some (k, xs), [t] => match listD M t with
    | some ds => if xs.length + ds.length ≤ sizeLine then some (.sv (.dt .non), M.set k (.l (xs ++ ds.map .dt))) else none
    | none => none
  | _, _ => none
theorem mtd_extend {K : PySem.W.Frag} : MtD K rExtend gExtend := by
  intro Hk H M ls v s vs ss z M' Q w rv rs e q
  unfold gExtend at e
  split at e
  · rename_i k xs t hm
    split at e
    · rename_i ds hd
      split at e
      · rename_i hz
        cases e
        obtain ⟨l, us, rfl, hl, hM, hH, hs⟩ := muL_ok w rv hm
        cases rs with
        | cons r1 t0 =>
          cases t0
          obtain ⟨b, ws, rfl, hb, ra⟩ := listD_ok w r1 hd
          refine ⟨l, b, us, ws, rfl, rfl, hH, hb, by rw [hs.length, ra.length]; exact hz, q .non Hk _ (w.setM hl hM ⟨_, upd_same, hs.append (SVs.ofA ra)⟩) (Ext.setM (List.mem_of_getElem? hl)) Rp.non⟩
      · cases e
    · cases e
  · cases e
theorem SVs.take {K : PySem.W.Frag} {Hk : Hp} {ls : List Addr} {n : Nat} : ∀ {vs : List V} {ds : List SV} (i : Nat), SVs K Hk ls n vs ds → SVs K Hk ls n (vs.take i) (ds.take i)
  | _, _, 0, _ => .nil
  | _, _, _ + 1, .nil => .nil
  | _, _, n + 1, .cons r t => .cons r (SVs.take n t)
theorem SVs.drop {K : PySem.W.Frag} {Hk : Hp} {ls : List Addr} {n : Nat} : ∀ {vs : List V} {ds : List SV} (i : Nat), SVs K Hk ls n vs ds → SVs K Hk ls n (vs.drop i) (ds.drop i)
  | _, _, 0, r => r
  | _, _, _ + 1, .nil => .nil
  | _, _, n + 1, .cons _ t => SVs.drop n t
def gInsert (M : MS) (s : SV) (ss : List SV) : Option (R × MS) := match muL M s, ss with
  | some (k, xs), [.dt (.int i), .dt d] => if xs.length < sizeLine ∧ 0 ≤ i ∧ i < 2 ^ 63 then some (.sv (.dt .non), M.set k (.l (xs.take i.toNat ++ [.dt d] ++ xs.drop i.toNat))) else none
  | _, _ => none
theorem mtd_insert {K : PySem.W.Frag} : MtD K (fun x vs H Q => ∃ (l : Addr) (xs : List V) (i : Int) (y : V), x = .ref l ∧ vs = [.int i, y] ∧ H l = some (.lst xs) ∧ xs.length < sizeLine ∧ 0 ≤ i ∧ i < 2 ^ 63 ∧ Q .non (upd H l (.lst (xs.take i.toNat ++ [y] ++ xs.drop i.toNat)))) gInsert := by
  intro Hk H M ls v s vs ss z M' Q w rv rs e q
  unfold gInsert at e
  split at e
  · rename_i k xs i d hm
    split at e
    · rename_i hz
      cases e
      obtain ⟨l, us, rfl, hl, hM, hH, hs⟩ := muL_ok w rv hm
      cases rs with
      | cons r1 t =>
        cases t with
        | cons r2 t2 =>
          cases t2
          have := Rp.int_inv r1
          subst this
          refine ⟨l, us, i, _, rfl, rfl, hH, by rw [hs.length]; exact hz.1, hz.2.1, hz.2.2, q .non Hk _ (w.setM hl hM ⟨_, upd_same, ((hs.take _).append (.cons (show SVr K Hk ls k _ (.dt d) from r2) .nil)).append (hs.drop _)⟩) (Ext.setM (List.mem_of_getElem? hl)) Rp.non⟩
    · cases e
  · cases e
/-! ### texts -/
def gUpper (M : MS) (s : SV) (ss : List SV) : Option (R × MS) := match s, ss with
  | .dt (.str a), [] => if a.length ≤ 5592405 then some (.sv (.dt (.str (Txt.upper a))), M) else none
  | _, _ => none
theorem mtd_upper {K : PySem.W.Frag} : MtD K (fun x xs H Q => ∃ a, x = .str a ∧ xs = [] ∧ a.length ≤ 5592405 ∧ Q (.str (Txt.upper a)) H) gUpper := by
  intro Hk H M ls v s vs ss z M' Q w rv rs e q
  unfold gUpper at e
  split at e
  · split at e
    · rename_i hz
      cases e
      cases rs
      exact ⟨_, Rp.str_inv rv, rfl, hz, q.dt w (.str _)⟩
    · cases e
  · cases e
def gJoin (M : MS) (s : SV) (ss : List SV) : Option (R × MS) := match s, ss with
  | .dt (.str a), [t] => match itemsD M t with
    | some ds => match dStrs ds with
      | some ys => if (ys.map (·.length)).sum + ys.length * a.length ≤ 16777216 then some (.sv (.dt (.str (Txt.join a ys))), M) else none
      | none => none
    | none => none
  | _, _ => none
theorem mtd_join {K : PySem.W.Frag} : MtD K (fun x xs H Q => ∃ a p, ∃ ys : List Str, x = .str a ∧ xs = [.ref p] ∧ (SqL K H p (ys.map V.str) ∨ SqT K H p (ys.map V.str)) ∧ (ys.map (·.length)).sum + ys.length * a.length ≤ 16777216 ∧ Q (.str (Txt.join a ys)) H) gJoin := by
  intro Hk H M ls v s vs ss z M' Q w rv rs e q
  unfold gJoin at e
  split at e
  · split at e
    · rename_i ds hd
      split at e
      · rename_i ys hy
        split at e
        · rename_i hz
          cases e
          cases rs with
          | cons r1 t =>
            cases t
            obtain ⟨b, ws, rfl, hb, ra⟩ := itemsD_ok w r1 hd
            have := dStrs_ok ra hy
            subst this
            exact ⟨_, b, ys, Rp.str_inv rv, rfl, hb, hz, q.dt w (.str _)⟩
        · cases e
      · cases e
    · cases e
  · cases e

/-! ### o[i] = e, o[i] += e on a list that has a handle -/
def setAt (M : MS) (s t : SV) (d : SV) : Option MS := match muL M s, t, d with
  | some (k, xs), .dt (.int i), .dt d => match ixN xs.length i with
    | some j => some (M.set k (.l (xs.set j (.dt d))))
    | none => none
  | _, _, _ => none
theorem setAt_ok {K : PySem.W.Frag} {Hk H : Hp} {M M' : MS} {ls : List Addr} {o i v : V} {s t d : SV} {Q : Hp → Prop} (w : World K Hk H M ls) (ro : SVr K Hk ls ls.length o s) (ri : SVr K Hk ls ls.length i t) (rv : SVr K Hk ls ls.length v d) (e : setAt M s t d = some M')
    (q : ∀ H', World K Hk H' M' ls → Ext ls Hk H Hk H' → Q H') : rSetL o i v H Q := by
  unfold setAt at e
  split at e
  · rename_i k xs i' d' hm
    split at e
    · rename_i j hj
      cases e
      obtain ⟨l, us, rfl, hl, hM, hH, hs⟩ := muL_ok w ro hm
      have := Rp.int_inv ri
      subst this
      exact ⟨l, us, i', j, rfl, rfl, hH, by rw [hs.length]; exact hj, q _ (w.setM hl hM ⟨_, upd_same, hs.set (show SVr K Hk ls k v (.dt d') from rv) j⟩) (Ext.setM (List.mem_of_getElem? hl))⟩
    · cases e
  · cases e
def sPut (mo mi : EM R) (me : EM R) : SM := fun ρ M => match fz me ρ M with
  | some (d, M1) => match fz mo ρ M1 with
    | some (s, M2) => match fz mi ρ M2 with
      | some (t, M3) => match setAt M3 s t d with
        | some M4 => some (.nx ρ M4)
        | none => none
      | none => none
    | none => none
  | none => none
section
variable {X : Cx} {o i e tg : Expr} {mo mi me : EM R} {pos tpos : Pos}
theorem sput_go : ∀ E σ H, tS X.K (sPut mo mi me) E σ H → tAsg (tV X.K (fz me)) (L2.gSub (tV X.K (fz mo)) (tV X.K (fz mi)) rSetL) E σ H := fun E σ H ⟨Hk, ls, ρ, M, r, w, en, hm, q⟩ => by
  unfold sPut at hm
  split at hm
  · rename_i d M1 h1
    split at hm
    · rename_i s M2 h2
      split at hm
      · rename_i t M3 h3
        split at hm
        · rename_i M4 h4
          cases hm
          refine ⟨Hk, ls, ρ, M, d, M1, w, en, h1, fun v Hk1 H1 w1 x1 r1 => ?_⟩
          refine ⟨Hk1, ls, ρ, M1, s, M2, w1, en.mono x1.kk, h2, fun ov Hk2 H2 w2 x2 r2 => ?_⟩
          refine ⟨Hk2, ls, ρ, M2, t, M3, w2, en.mono (x1.trans x2).kk, h3, fun iv Hk3 H3 w3 x3 r3 => ?_⟩
          exact setAt_ok w3 (r2.mono x3.kk) r3 (r1.mono (x2.trans x3).kk) h4 fun H' w' x' => q σ Hk3 H' ls w' ((((x1.trans x2).trans x3).trans x').s) (en.mono ((x1.trans x2).trans x3).kk)
        · cases hm
      · cases hm
    · cases hm
  · cases hm
theorem psm_put (he : PM X e me) (ho : PM X o mo) (hi : PM X i mi) (ha : ∀ v, assign (.Subscript o i tpos) X.env v = (do
      let ov ← holding [v] (eval o X.env)
      let iv ← holding [v, ov] (eval i X.env)
      standAt tpos
      holding [v, ov, iv] (setItem ov iv v)
      release [v, ov, iv] []) := by intro _; rfl) (hs : swapsWithSole [.Subscript o i tpos] e pos.line X.env = pure false := by rfl) (hw : swappedStores [.Subscript o i tpos] e X.env = pure none := by rfl)
    (h1 : (assignEach [.Subscript o i tpos] X.env).map (·.2) = [assign (.Subscript o i tpos) X.env] := by rfl) : PSm X (.Assign [.Subscript o i tpos] e pos) (sPut mo mi me) :=
  PS.imp (ps_asg (PM.v he) (pg_sub (PM.v ho) (PM.v hi) set_list ha) hs hw h1) sput_go
theorem get_list : PGet X (rIxL X.K) := by
  intro pins s σ H o i ov iv Q I ro ri h
  obtain ⟨p, xs, k, v, rfl, rfl, hq, hv, q⟩ := h
  cases ro
  obtain ⟨t, rfl⟩ := ri
  obtain ⟨its, r, pl, hz⟩ := I.list hq
  obtain ⟨j, h1, h2, h3, h4, h5⟩ := atI_get hv
  obtain ⟨u, eu, ru⟩ := r.get h2
  have hl := r.length
  have hn := line63
  by_cases h0 : 0 ≤ k
  · have hj : k.toNat = j := by
      rw [seqIndex_of h0 h5] at h1
      exact Option.some.inj h1
    exact wpAny_getItem_list pl.isList h0 (by omega) (by rw [hj]; simpa using eu) ⟨v, H, I, ru, q⟩
  · have hj : (k + (its.toArray.size : Int)).toNat = j := by
      rw [seqIndex_neg (by omega) h4] at h1
      rw [List.size_toArray, ← hl]
      exact Option.some.inj h1
    exact wpAny_getItem_list_neg pl.isList (by omega) (by rw [List.size_toArray] <;> omega) (by omega) (by rw [hj]; simpa using eu) ⟨v, H, I, ru, q⟩
/-- o[i] op= e, ints -/
def sAugPut (f : Int → Int → Int) (mo mi me : EM R) : SM := fun ρ M => match fz mo ρ M with
  | some (s, M1) => match fz mi ρ M1 with
    | some (.dt (.int j), M2) => match listOf M2 s with
      | some xs => match atI xs j with
        | some (.dt (.int a)) => match fz me ρ M2 with
          | some (.dt (.int b), M3) => match setAt M3 s (.dt (.int j)) (.dt (.int (f a b))) with
            | some M4 => some (.nx ρ M4)
            | none => none
          | _ => none
        | _ => none
      | none => none
    | _ => none
  | none => none
theorem psm_augPut {op : Operator} {f : Int → Int → Int} (hp : PIp X op (ipI f)) (ho : PM X o mo) (hi : PM X i mi) (he : PM X e me)
    (ha : ∀ ov iv new, augStore i ov iv new = (do holding [new, ov, iv] (setItem ov iv new); release [new, ov, iv] []; pure .next) := by intros; rfl) : PSm X (.AugAssign (.Subscript o i tpos) op e pos) (sAugPut f mo mi me) :=
  PS.imp (ps_augS (PM.v ho) (PM.v hi) get_list (PM.v he) hp set_list ha) fun E σ H ⟨Hk, ls, ρ, M, r, w, en, hm, q⟩ => by
  unfold sAugPut at hm
  split at hm
  · rename_i s M1 h1
    split at hm
    · rename_i j M2 h2
      split at hm
      · rename_i xs hx
        split at hm
        · rename_i a hat
          split at hm
          · rename_i b M3 h3
            split at hm
            · rename_i M4 h4
              cases hm
              refine ⟨Hk, ls, ρ, M, s, M1, w, en, h1, fun ov Hk1 H1 w1 x1 r1 => ?_⟩
              refine ⟨Hk1, ls, ρ, M1, _, M2, w1, en.mono x1.kk, h2, fun iv Hk2 H2 w2 x2 r2 => ?_⟩
              obtain ⟨p, vs, rfl, hq, hss⟩ := listOf_ok w2 (r1.mono x2.kk) hx
              obtain ⟨v, hv, rv⟩ := hss.atI hat
              have := Rp.int_inv r2
              subst this
              have := Rp.int_inv rv
              subst this
              refine ⟨p, vs, j, _, rfl, rfl, SqL.of hq, hv, ?_⟩
              refine ⟨Hk2, ls, ρ, M2, _, M3, w2, en.mono (x1.trans x2).kk, h3, fun ev Hk3 H3 w3 x3 r3 => ?_⟩
              have := Rp.int_inv r3
              subst this
              refine ⟨a, b, rfl, rfl, ?_⟩
              exact setAt_ok (s := s) (t := .dt (.int j)) (d := .dt (.int (f a b))) w3 (r1.mono (x2.trans x3).kk) (Rp.int _) (Rp.int _) h4 fun H' w' x' => q σ Hk3 H' ls w' ((((x1.trans x2).trans x3).trans x').s) (en.mono ((x1.trans x2).trans x3).kk)
            · cases hm
          · cases hm
        · cases hm
      · cases hm
    · cases hm
  · cases hm
/-- x op= e, ints -/
def sAug (f : Int → Int → Int) (j : Nat) (me : EM R) : SM := fun ρ M => match ρ[j]? with
  | some (some (.dt (.int a))) => match fz me ρ M with
    | some (.dt (.int b), M1) => some (.nx (ρ.set j (some (.dt (.int (f a b))))) M1)
    | _ => none
  | _ => none
theorem psm_aug {op : Operator} {f : Int → Int → Int} {j : Nat} {x : Str} {pos' : Pos} (hN : X.N.Nodup) (hj : X.N[j]? = some x) (hx : Loc X.env.scope x) (he : PM X e me) (ho : PIp X op (ipI f)) (hf : X.fn x = true ∨ X.env.scope.names.lookup x = some .local := by first | exact .inl rfl | exact .inr rfl | assumption) :
    PSm X (.AugAssign (.Name x pos') op e pos) (sAug f j me) := PS.imp (ps_aug hN hj hx (PM.v he) ho hf) fun E σ H ⟨Hk, ls, ρ, M, r, w, en, hm, q⟩ => by
  unfold sAug at hm
  split at hm
  · rename_i a ha
    split at hm
    · rename_i b M1 h1
      cases hm
      obtain ⟨v, hv, rv⟩ := en.2 j _ ha
      have := Rp.int_inv rv
      subst this
      refine ⟨_, hv, Hk, ls, ρ, M, _, M1, w, en, h1, fun ev Hk1 H1 w1 x1 r1 => ?_⟩
      have := Rp.int_inv r1
      subst this
      exact ⟨a, b, rfl, rfl, q _ Hk1 H1 ls w1 x1.s ((en.mono x1.kk).set (Rp.int _))⟩
    · cases hm
  · cases hm
end
end Dy

set_option Elab.async false
set_option linter.all false
set_option maxRecDepth 100000
set_option maxHeartbeats 4000000
/-! Layer Dy, part 11: repr, dict displays, own classes, pairs of targets. -/
namespace Dy
open PySem L2 PySem.Spec PyProof.Rows

/-! ### repr -/
def kP : Key → PyData
  | .inl i => .int i
  | .inr x => .str x
mutual
/-- a datum as the library's data, dicts too -/
def toQ : D → Option PyData
  | .non => some .none
  | .bl b => some (.bool b)
  | .int i => some (.int i)
  | .str s => some (.str s)
  | .lst xs => match toQl xs with
    | some ps => some (.list ps)
    | none => none
  | .tup xs => match toQl xs with
    | some ps => some (.tuple ps)
    | none => none
  | .dct ks xs => match toQl xs with
    | some ps => some (.dict ((ks.map kP).zip ps))
    | none => none
  | _ => none
def toQl : List D → Option (List PyData)
  | [] => some []
  | d :: r => match toQ d, toQl r with
    | some p, some ps => some (p :: ps)
    | _, _ => none
end
theorem Pairs.reads {P : Program} {w : PySem.World} {h : Heap} : ∀ {es : List DictEntry} {vs : List (Key × Value)}, Pairs (mixKind P w) es vs → ReadsAll h (es.map (·.key)) ((vs.map (·.1)).map kP) [] ∧ es.map (·.val) = vs.map (·.2)
  | _, _, .nil => ⟨.nil, rfl⟩
  | _, _, .cons (e := e) (kv := kv) hk hv t => by
    obtain ⟨a, b⟩ := Pairs.reads (h := h) t
    obtain ⟨k, v⟩ := kv
    refine ⟨?_, by simp only [List.map_cons, hv, b]⟩
    rcases keyIs_shape (show keyIs k e.key = true from hk) with ⟨i, tk, rfl, ek⟩ | ⟨x, tk, rfl, ek⟩
    · simp only [List.map_cons]
      rw [ek]
      exact ReadsAll.cons (as := []) (bs := []) (.int i tk) a
    · simp only [List.map_cons]
      rw [ek]
      exact ReadsAll.cons (as := []) (bs := []) (.str x tk) a
section
variable {X : Cx} {pins : List (Addr × Obj)} {σ : L2.St} {H : Hp} {s : Shared}
theorem KV.keys {kvs : List (Key × V)} {vs : List (Key × Value)} (h : KV kvs vs) : kvs.map (·.1) = vs.map (·.1) ∧ Vals (kvs.map (·.2)) (vs.map (·.2)) := by
  unfold KV at h
  induction h with
  | nil => exact ⟨rfl, .nil⟩
  | cons r t ih =>
    obtain ⟨r1, r2⟩ := r
    exact ⟨by simp only [List.map_cons, r1, ih.1], .cons r2 ih.2⟩
/-- sys.modules is no list -/
def NoSys (K : PySem.W.Frag) : Prop := ∃ o, K.lookup sysModules = some o ∧ o.cls ≠ .type "list"
mutual
theorem Rp.reads (N : NoSys X.K) (I : Inv X pins σ H s) : ∀ (d : D) (v : V) (u : Value) (p : PyData), Rp X.K H v d → RelV v u → toQ d = some p → ∃ as, Reads s.heap u p as ∧ sysModules ∉ as
  | .non, _, _, _, h, r, e => by simp only [toQ] at e; cases e; cases h; cases r; exact ⟨_, .none, by simp⟩
  | .bl b, _, _, _, h, r, e => by simp only [toQ] at e; cases e; cases h; cases r; exact ⟨_, .bool b, by simp⟩
  | .int i, _, _, _, h, r, e => by simp only [toQ] at e; cases e; cases h; obtain ⟨t, rfl⟩ := r; exact ⟨_, .int i t, by simp⟩
  | .str x, _, _, _, h, r, e => by simp only [toQ] at e; cases e; cases h; obtain ⟨t, rfl⟩ := r; exact ⟨_, .str x t, by simp⟩
  | .lst ds, _, _, _, h, r, e => by
    simp only [toQ] at e
    cases hp : toQl ds with
    | none => rw [hp] at e; cases e
    | some ps =>
      rw [hp] at e
      cases e
      cases h with
      | lst hs ha =>
        cases r
        obtain ⟨its, rv, ⟨o, n, ho, hc, _, hd⟩, _⟩ := I.list (SqL.of hs)
        obtain ⟨as, hr, hn⟩ := Rp.readsA N I ds _ its ps ha rv hp
        refine ⟨_, Reads.list ho hc hd hr, ?_⟩
        intro z
        rcases List.mem_cons.mp z with z | z
        · obtain ⟨o', h1, h2⟩ := N
          have := I.kIn _ _ h1
          rw [z, ho] at this
          cases this
          exact h2 hc
        · exact hn z
  | .tup ds, _, _, _, h, r, e => by
    simp only [toQ] at e
    cases hp : toQl ds with
    | none => rw [hp] at e; cases e
    | some ps =>
      rw [hp] at e
      cases e
      cases h with
      | tup hs ha =>
        cases r
        obtain ⟨its, rv, ⟨o, ho, hc, n, hd⟩, _⟩ := I.tuple hs
        obtain ⟨as, hr, hn⟩ := Rp.readsA N I ds _ its ps ha rv hp
        exact ⟨_, Reads.tuple ho hc hd hr, hn⟩
  | .dct ks ds, _, _, _, h, r, e => by
    simp only [toQ] at e
    cases hp : toQl ds with
    | none => rw [hp] at e; cases e
    | some ps =>
      rw [hp] at e
      cases e
      cases h with
      | dct hs hk hx ha =>
        rename_i a kvs xs
        cases r
        obtain ⟨_, hsys, vs, hkv, o, es, ep, ho, hex, hd, _, hpr, _⟩ := (show ObjOk X.prog X.w H s.heap a (.dK kvs) from I.hok a _ hs)
        obtain ⟨k1, k2⟩ := KV.keys hkv
        obtain ⟨p1, p2⟩ := Pairs.reads (h := s.heap) hpr
        rw [hx] at k2
        obtain ⟨as, hr, hn⟩ := Rp.readsA N I ds _ _ ps ha k2 hp
        have hlen : (ks.map kP).length = ps.length := by
          have l1 : ks.length = kvs.length := by rw [← hk, List.length_map]
          have l2 : xs.length = kvs.length := by rw [← hx, List.length_map]
          have l3 := ha.length
          have l4 : ds.length = ps.length := toQl_len hp
          rw [List.length_map]
          omega
        have e1 : ((ks.map kP).zip ps).map (·.1) = ks.map kP := by rw [List.map_fst_zip]; omega
        have e2 : ((ks.map kP).zip ps).map (·.2) = ps := by rw [List.map_snd_zip]; omega
        refine ⟨_, Reads.dict (as := []) (bs := as) ho hex.1 hd (by rw [e1, ← hk, k1]; exact p1) (by rw [e2, p2]; exact hr), ?_⟩
        intro z
        simp only [List.append_nil, List.cons_append, List.nil_append] at z
        rcases List.mem_cons.mp z with z | z
        · rw [← z] at hsys
          simp at hsys
        · exact hn z
  | .ins _ _ _, _, _, _, _, _, e => by simp only [toQ] at e; cases e
  | .scr _, _, _, _, _, _, e => by simp only [toQ] at e; cases e
  | .obj _, _, _, _, _, _, e => by simp only [toQ] at e; cases e
theorem Rp.readsA (N : NoSys X.K) (I : Inv X pins σ H s) : ∀ (ds : List D) (vs : List V) (us : List Value) (ps : List PyData), RpA X.K H vs ds → Vals vs us → toQl ds = some ps → ∃ as, ReadsAll s.heap us ps as ∧ sysModules ∉ as
  | [], _, _, _, h, r, e => by simp only [toQl] at e; cases e; cases h; cases r; exact ⟨_, .nil, by simp⟩
  | d :: ds, _, _, _, h, r, e => by
    simp only [toQl] at e
    cases h1 : toQ d with
    | none => rw [h1] at e; cases e
    | some p =>
      cases h2 : toQl ds with
      | none => rw [h1, h2] at e; cases e
      | some ps =>
        rw [h1, h2] at e
        cases e
        cases h with
        | cons ha hb =>
          cases r with
          | cons ra rb =>
            obtain ⟨as, q1, n1⟩ := Rp.reads N I d _ _ p ha ra h1
            obtain ⟨bs, q2, n2⟩ := Rp.readsA N I ds _ _ ps hb rb h2
            exact ⟨_, .cons q1 q2, fun z => (List.mem_append.mp z).elim n1 n2⟩
theorem toQl_len : ∀ {ds : List D} {ps : List PyData}, toQl ds = some ps → ds.length = ps.length
  | [], _, e => by simp only [toQl] at e; cases e; rfl
  | d :: ds, _, e => by
    simp only [toQl] at e
    cases h1 : toQ d with
    | none => rw [h1] at e; cases e
    | some p =>
      cases h2 : toQl ds with
      | none => rw [h1, h2] at e; cases e
      | some ps =>
        rw [h1, h2] at e
        cases e
        exact congrArg (· + 1) (toQl_len h2)
end
def rRepr (K : PySem.W.Frag) : List V → Hp → VK → Prop := fun xs H Q => ∃ x d p, xs = [x] ∧ Rp K H x d ∧ toQ d = some p ∧ p.showable = true ∧ p.shown.length ≤ sizeLine ∧ p.depth ≤ 63 ∧ Q (.str p.shown) H
theorem call_reprD (N : NoSys X.K) (hgd : X.A.guards = some []) (hu : X.A.units + 64 < cLine) : CallR X (.builtin "repr") (rRepr X.K) := by
  intro pins s σ H xs us Q I r h
  obtain ⟨x, d, p, rfl, hr, hp, h1, h2, h3, q⟩ := h
  obtain ⟨u, rfl, ru⟩ := vals1 r
  obtain ⟨as, hrd, hn⟩ := Rp.reads N I d x u p hr ru hp
  have fin : ∀ (h' : Heap) (t : Tok) (tk : Nat), (∀ b o, s.heap.get? b = some o → h'.get? b = some o) → EP X pins σ Q (.str p.shown t) { s with heap := h', toks := tk } := fun h' t tk hk => ⟨.str p.shown, H, I.kept hk, ⟨t, rfl⟩, q⟩
  cases hrd with
  | none => rw [PyData.shown_none] at fin; exact P.repr_of_none (fin s.heap _ _ fun _ _ e => e)
  | bool b => rw [PyData.shown_bool] at fin; exact P.repr_of_bool (fin s.heap _ _ fun _ _ e => e)
  | int i t =>
    rw [PyData.shown_int] at fin
    exact P.repr_of_int (of_decide_eq_true (by simpa only [PyData.showable] using h1)) (fin s.heap _ _ fun _ _ e => e)
  | str y t =>
    rw [PyData.shown_str] at fin h2
    exact P.repr_of_str (fin s.heap _ _ fun _ _ e => e) h2
  | list a b c e => exact repr_of_reads' (.list a b c e) h1 (fun _ => hn) hgd (by omega) (fun _ _ e => e) fin h2
  | tuple a b c e => exact repr_of_reads' (.tuple a b c e) h1 (fun _ => hn) hgd (by omega) (fun _ _ e => e) fin h2
  | dict a b c e f => exact repr_of_reads' (.dict a b c e f) h1 (fun _ => hn) hgd (by omega) (fun _ _ e => e) fin h2
end
def reprS (M : MS) (s : SV) : Option R := match peek M s with
  | some d => match toQ d with
    | some p => if p.showable = true ∧ p.shown.length ≤ sizeLine ∧ p.depth ≤ 63 then some (.sv (.dt (.str p.shown))) else none
    | none => none
  | none => none
theorem calld_repr {K : PySem.W.Frag} : CallD K (rRepr K) (g1 reprS) := CallD.one fun Hk H M ls v s z Q w r e q => by
  unfold reprS at e
  split at e
  · rename_i d hd
    split at e
    · rename_i p hp
      split at e
      · rename_i hz
        cases e
        exact ⟨v, d, p, rfl, peek_ok w _ _ _ _ _ r hd, hp, hz.1, hz.2.1, hz.2.2, q.dt w (.str _)⟩
      · cases e
    · cases e
  · cases e

/-! ### dict displays -/
section
variable {X : Cx} {ek ev e : Expr} {mk mv me : EM R} {pos : Pos}
def eDict0 : EM R := EM.ret (.fd [] [])
theorem pm_dict0 : PM X (.Dict [] [] pos) eDict0 := PE.imp pe_dnewK fun σ H Q ⟨Hk, ls, ρ, M, r, M', w, en, hm, q⟩ => by
  cases hm
  intro p hp
  exact q.newD w hp rfl .nil
def keyD : SV → Option Key
  | .dt (.int i) => some (.inl i)
  | .dt (.str x) => some (.inr x)
  | _ => none
theorem keyD_ok {K : PySem.W.Frag} {Hk : Hp} {ls : List Addr} {n : Nat} {v : V} {s : SV} {k : Key} (r : SVr K Hk ls n v s) (e : keyD s = some k) : v = kV k := by
  unfold keyD at e
  split at e
  · cases e; exact Rp.int_inv r
  · cases e; exact Rp.str_inv r
  · cases e
def eDict1 (mk mv : EM R) : EM R := (fz mk).seq fun s => (fz mv).seq fun t => fun _ M => match keyD s, t with
  | some k, .dt d => some (.fd [k] [d], M)
  | _, _ => none
theorem pm_dict1 (hk : PM X ek mk) (hv : PM X ev mv) : PM X (.Dict [some ek] [ev] pos) (eDict1 mk mv) := PE.imp (pe_disp (pps_cons (PM.v hk) (PM.v hv) pps_nil) (by rfl) (by rfl) (by simp) (by show 1 ≤ 15; decide)) fun σ H Q ⟨Hk, ls, ρ, M, r, M', w, en, hm, q⟩ => by
  obtain ⟨s, M1, h1, h2⟩ := seq_some hm
  obtain ⟨t, M2, h3, h4⟩ := seq_some h2
  intro p hp
  have w0 := w.upd_new (o := .dK []) hp
  refine ⟨Hk, ls, ρ, M, s, M1, w0, en, h1, fun v Hk1 H1 w1 x1 r1 => ?_⟩
  refine ⟨Hk1, ls, ρ, M1, t, M2, w1, en.mono x1.kk, h3, fun u Hk2 H2 w2 x2 r2 => ?_⟩
  have x12 := x1.trans x2
  have hpl := (w.fresh hp).2
  have hp2 : H2 p = some (.dK []) := x12.fr p _ upd_same hpl
  refine ⟨hp2, ?_⟩
  split at h4
  · rename_i k d hkd
    cases h4
    refine ⟨[(k, u)], by rw [keyD_ok r1 hkd]; rfl, by show 1 ≤ 15; decide, ?_⟩
    have hk2 : Hk2 p = none := by
      cases e : Hk2 p with
      | none => rfl
      | some o =>
        rcases x12.gr p (by rw [e]; simp) with z | z
        · exact absurd (w.fresh hp).1 z
        · rw [upd_same] at z; cases z
    have x02 : Ext ls Hk H Hk2 H2 := ⟨x12.kk, fun a o e hn => x12.fr a o (by rw [upd_ne (ne_of_none e hp)]; exact e) hn, fun a e => by
        rcases x12.gr a e with z | z
        · exact .inl z
        · by_cases hap : a = p
          · subst hap; exact .inr hp
          · rw [upd_ne hap] at z; exact .inr z, fun a e => x12.st a (by
        by_cases hap : a = p
        · subst hap; exact absurd hp e
        · rw [upd_ne hap]; exact e)⟩
    exact q (.ref p) Hk2 _ (w2.upd_other hk2 hpl) (x02.upd_other hp) ⟨p, [(k, u)], rfl, hp, hk2, hpl, upd_same, rfl, .cons r2 .nil⟩
  · cases h4
/-! ### isinstance of an own class -/
structure IsiC (K : PySem.W.Frag) (C : Addr) : Prop where
  no : ∀ T ∈ tysN, PySem.W.kitOne K (.type T) (.ref C) = some false
  ys : PySem.W.kitOne K (.ref C) (.ref C) = some true
def isiCS (C : Addr) (M : MS) (s : SV) : Option Bool := match s with
  | .dt (.obj C') => if C' = C then some true else none
  | s => match tyS M s with
    | some _ => some false
    | none => none
def eIsiC (C : Addr) (m : EM R) : EM R := (fz m).seq fun s => fun _ M => match isiCS C M s with
  | some b => some (.sv (.dt (.bl b)), M)
  | none => none
theorem pm_isiC {C : Addr} {t : Str} {p p1 : Pos} (hC : IsiC X.K C) (hg : Gl X "isinstance") (hm : X.mg "isinstance" = none) (hgt : Gl X t) (hmt : X.mg t = some (.ref C)) (h : PM X e me) (hdt : (t == ("__debug__" : Str)) = false := by decide)
    (he : starEach (e :: [.Name t p1]) X.env = (false, eval e X.env) :: starEach [.Name t p1] X.env := by rfl) (hpl : (backTo pos (starEach [.Name t p1] X.env)).any (·.1) = false := by rfl) (hs1 : starEach (.Name t p1 :: []) X.env = (false, eval (.Name t p1) X.env) :: starEach [] X.env := by rfl) :
    PM X (.Call (.Name "isinstance" p) [e, .Name t p1] [] pos) (eIsiC C me) := PE.imp (pe_callB call_isi hg hm PyProof.Rows.boot_isinstance (pa_cons (PM.v h) (pa_cons (pe_glob (v := .ref C) hgt hmt rfl hdt) pa_nil hs1) he) (by decide) (by decide) he hpl) fun σ H Q ⟨Hk, ls, ρ, M, r, M', w, en, hm, q⟩ => by
  obtain ⟨s, M1, h1, h2⟩ := seq_some hm
  refine ⟨Hk, ls, ρ, M, s, M1, w, en, h1, fun v Hk1 H1 w1 x1 r1 => ?_⟩
  split at h2
  · rename_i b hb
    cases h2
    unfold isiCS at hb
    split at hb
    · rename_i C'
      split at hb
      · rename_i hcc
        cases hb
        subst hcc
        cases r1 with
        | obj h c => exact ⟨_, .ref C', .ref C', .ref C', true, rfl, .own C', .base (.ins (w1.sub _ _ h) c.cl c.ha c.hn c.htk c.hm), hC.ys, q _ Hk1 H1 w1 x1 (Rp.bl _)⟩
      · cases hb
    · split at hb
      · rename_i T hT
        cases hb
        exact ⟨v, .ref C, .type T, .ref C, false, rfl, .own C, tyS_ok w1 r1 hT, hC.no T (tyS_mem hT), q _ Hk1 H1 w1 x1 (Rp.bl _)⟩
      · cases hb
  · cases h2
end

/-! ### two targets -/
section
variable {X : Cx} {e o ix a b : Expr} {me mo mi : EM R} {pos : Pos} {ms : EM (List SV)}
/-- x, o[i] = e -/
def sNamePut (j : Nat) (mo mi me : EM R) : SM := fun ρ M => match fz me ρ M with
  | some (.dt (.tup [d1, d2]), M1) => match fz mo (ρ.set j (some (.dt d1))) M1 with
    | some (s, M2) => match fz mi (ρ.set j (some (.dt d1))) M2 with
      | some (t, M3) => match setAt M3 s t (.dt d2) with
        | some M4 => some (.nx (ρ.set j (some (.dt d1))) M4)
        | none => none
      | none => none
    | none => none
  | _ => none
theorem psm_namePut {j : Nat} {tn : Expr} {tpos sp : Pos} {kk : Nat} (hc : X.calm = true) (he : PM X e me) (hg : PG X tn (gName j)) (ho : PM X o mo) (hi : PM X ix mi) (ha : ∀ v, assign (.Subscript o ix sp) X.env v = (do
      let ov ← holding [v] (eval o X.env)
      let iv ← holding [v, ov] (eval ix X.env)
      standAt sp
      holding [v, ov, iv] (setItem ov iv v)
      release [v, ov, iv] []) := by intro _; rfl) (hs : swapsWithSole [.Tuple [tn, .Subscript o ix sp] kk tpos] e pos.line X.env = pure false := by rfl) (hw : swappedStores [.Tuple [tn, .Subscript o ix sp] kk tpos] e X.env = pure none := by rfl)
    (h1 : (assignEach [.Tuple [tn, .Subscript o ix sp] kk tpos] X.env).map (·.2) = [assign (.Tuple [tn, .Subscript o ix sp] kk tpos) X.env] := by rfl)
    (h2 : (assignEach [tn, .Subscript o ix sp] X.env).map (·.2) = assign tn X.env :: (assignEach [.Subscript o ix sp] X.env).map (·.2) := by rfl) (h3 : (assignEach [.Subscript o ix sp] X.env).map (·.2) = assign (.Subscript o ix sp) X.env :: (assignEach [] X.env).map (·.2) := by rfl)
    (hn : (assignEach [tn, .Subscript o ix sp] X.env).length = 2 := by rfl) (hst : (assignEach [tn, .Subscript o ix sp] X.env).findIdx? (·.1) = none := by rfl) : PSm X (.Assign [.Tuple [tn, .Subscript o ix sp] kk tpos] e pos) (sNamePut j mo mi me) :=
  PS.imp (ps_asg (PM.v he) (pg_tup hc (pgs_cons hg (pgs_cons (pg_sub (PM.v ho) (PM.v hi) set_list ha) pgs_nil h3) h2) hn hst) hs hw h1) fun E σ H ⟨Hk, ls, ρ, M, r, w, en, hm, q⟩ => by
  unfold sNamePut at hm
  split at hm
  · rename_i d1 d2 M1 h1
    split at hm
    · rename_i s M2 h2
      split at hm
      · rename_i t M3 h3
        split at hm
        · rename_i M4 h4
          cases hm
          refine ⟨Hk, ls, ρ, M, _, M1, w, en, h1, fun v Hk1 H1 w1 x1 r1 => ?_⟩
          cases r1 with
          | tup hq ra =>
            cases ra with
            | cons ra1 ra2 =>
              cases ra2 with
              | cons ra2 ra3 =>
                cases ra3
                have en1 := (en.mono x1.kk).set (i := j) (s := .dt d1) ra1
                refine ⟨_, _, rfl, same_t w1.sub hq, rfl, _, _, rfl, _, _, rfl, ?_⟩
                refine ⟨Hk1, ls, _, M1, s, M2, w1, en1, h2, fun ov Hk2 H2 w2 x2 r2 => ?_⟩
                refine ⟨Hk2, ls, _, M2, t, M3, w2, en1.mono x2.kk, h3, fun iv Hk3 H3 w3 x3 r3 => ?_⟩
                exact setAt_ok (d := .dt d2) w3 (r2.mono x3.kk) r3 (Rp.mono (x2.trans x3).kk ra2) h4 fun H' w' x' => ⟨rfl, q _ Hk3 H' ls w' ((((x1.trans x2).trans x3).trans x').s) (en1.mono (x2.trans x3).kk)⟩
        · cases hm
      · cases hm
    · cases hm
  · cases hm
/-- x, y = a, b -/
def sPar (i j : Nat) (ms : EM (List SV)) : SM := fun ρ M => match ms ρ M with
  | some ([s, t], M1) => some (.nx ((ρ.set i (some s)).set j (some t)) M1)
  | _ => none
theorem psm_par {i j : Nat} {st : Stmt} (h : PS X st (tPar i j (tA X.K ms))) : PSm X st (sPar i j ms) := PS.imp h fun E σ H ⟨Hk, ls, ρ, M, r, w, en, hm, q⟩ => by
  unfold sPar at hm
  split at hm
  · rename_i s t M1 h1
    cases hm
    refine ⟨Hk, ls, ρ, M, _, M1, w, en, h1, fun vs Hk1 H1 w1 x1 r1 => ?_⟩
    cases r1 with
    | cons r1 r2 =>
      cases r2 with
      | cons r2 r3 =>
        cases r3
        exact ⟨_, _, rfl, q _ Hk1 H1 ls w1 x1.s (((en.mono x1.kk).set r1).set r2)⟩
  · cases hm
end
end Dy

set_option Elab.async false
set_option linter.all false
set_option maxRecDepth 100000
set_option maxHeartbeats 4000000
/-! Layer Dy, part 12: short words for printed derivations; the head. -/
namespace Dy
open PySem L2 PySem.Spec PyProof.Rows

/-- the built-in names are the built-ins -/
def bltNames : List Str := ["len", "abs", "int", "all", "any", "sum", "repr", "list", "tuple", "isinstance", "str", "bool", "dict", "range", "enumerate", "zip", "sorted", "max", "min", "set"]
def Blt (mg : Str → Option Value) : Prop := ∀ x ∈ bltNames, mg x = none
section
variable {X : Cx} {e e2 tg : Expr} {es : List Expr} {ms : EM (List SV)} {me : EM R} {p pos : Pos} {st : Stmt}
theorem pm_len (B : Blt X.mg) (ha : PAm X [e] ms) (hg : Gl X "len" := by rfl) (he : starEach (e :: []) X.env = (false, eval e X.env) :: starEach [] X.env := by rfl) : PM X (.Call (.Name "len" p) [e] [] pos) (eCall (g1 lenS) ms) := pm_callB call_len calld_len hg (B _ (by decide +kernel)) boot_len ha (by decide) (by decide) he rfl
theorem pm_abs (B : Blt X.mg) (ha : PAm X [e] ms) (hg : Gl X "abs" := by rfl) (he : starEach (e :: []) X.env = (false, eval e X.env) :: starEach [] X.env := by rfl) : PM X (.Call (.Name "abs" p) [e] [] pos) (eCall (g1 absS) ms) := pm_callB call_abs calld_abs hg (B _ (by decide +kernel)) boot_abs ha (by decide) (by decide) he rfl
theorem pm_toint (B : Blt X.mg) (ha : PAm X [e] ms) (hg : Gl X "int" := by rfl) (he : starEach (e :: []) X.env = (false, eval e X.env) :: starEach [] X.env := by rfl) : PM X (.Call (.Name "int" p) [e] [] pos) (eCall (g1 intS) ms) := pm_callTy call_int1 calld_int hg (B _ (by decide +kernel)) PyProof.Rows.boot_int ha (by decide) (by decide) he rfl
theorem pm_all (B : Blt X.mg) (hc : X.calm = true) (ha : PAm X [e] ms) (hg : Gl X "all" := by rfl) (he : starEach (e :: []) X.env = (false, eval e X.env) :: starEach [] X.env := by rfl) : PM X (.Call (.Name "all" p) [e] [] pos) (eCall (g1 allS) ms) := pm_callB (cr_all hc) calld_all hg (B _ (by decide +kernel)) boot_all ha (by decide) (by decide) he rfl
theorem pm_sum (B : Blt X.mg) (hc : X.calm = true) (ha : PAm X [e] ms) (hg : Gl X "sum" := by rfl) (he : starEach (e :: []) X.env = (false, eval e X.env) :: starEach [] X.env := by rfl) : PM X (.Call (.Name "sum" p) [e] [] pos) (eCall (g1 sumS) ms) := pm_callB (cr_sum hc) calld_sum hg (B _ (by decide +kernel)) boot_sum ha (by decide) (by decide) he rfl
theorem pm_repr (B : Blt X.mg) (N : NoSys X.K) (hgd : X.A.guards = some []) (hu : X.A.units + 64 < cLine) (ha : PAm X [e] ms) (hg : Gl X "repr" := by rfl) (he : starEach (e :: []) X.env = (false, eval e X.env) :: starEach [] X.env := by rfl) : PM X (.Call (.Name "repr" p) [e] [] pos) (eCall (g1 reprS) ms) := pm_callB (call_reprD N hgd hu) calld_repr hg (B _ (by decide +kernel)) boot_repr ha (by decide) (by decide) he rfl
theorem pm_tolist (B : Blt X.mg) (ha : PAm X [e] ms) (hg : Gl X "list" := by rfl) (he : starEach (e :: []) X.env = (false, eval e X.env) :: starEach [] X.env := by rfl) : PM X (.Call (.Name "list" p) [e] [] pos) (eCall (g1 listS) ms) := pm_callTy call_list_of calld_list hg (B _ (by decide +kernel)) PyProof.Rows.boot_list ha (by decide) (by decide) he rfl
theorem pm_totuple (B : Blt X.mg) (ha : PAm X [e] ms) (hg : Gl X "tuple" := by rfl) (he : starEach (e :: []) X.env = (false, eval e X.env) :: starEach [] X.env := by rfl) : PM X (.Call (.Name "tuple" p) [e] [] pos) (eCall (g1 tupleS) ms) := pm_callTy call_tuple_of calld_tuple hg (B _ (by decide +kernel)) PyProof.Rows.boot_tuple ha (by decide) (by decide) he rfl
theorem pm_append {o : Expr} {mo : EM R} {apos : Pos} (ho : PM X o mo) (ha : PAm X [e] ms) (hbase : attributeBase o "append" X.env (eval o X.env) = eval o X.env := by rfl) (hfew : ((backTo pos (starEach (e :: []) X.env)).all (fun x => !x.1) && (backToKw pos (keywordEach [] X.env)).all (fun x => x.1.isSome) && decide ((e :: ([] : List Expr)).length + ([] : List Keyword).length + (if ([] : List Keyword).isEmpty then 0 else 1) < 30)) = true := by rfl)
    (hline : (apos.endLine == pos.line) = true := by rfl) (he : starEach (e :: []) X.env = (false, eval e X.env) :: starEach [] X.env := by rfl) : PM X (.Call (.Attribute o "append" apos) [e] [] pos) (eMt "list" gAppend mo ms) := pm_mt PySem.F.plainAttrs_list PySem.F.slot_list_append PySem.F.type_list_append mt_append mtd_append ho ha hbase hfew hline he rfl
theorem pm_extend {o : Expr} {mo : EM R} {apos : Pos} (ho : PM X o mo) (ha : PAm X [e] ms) (hbase : attributeBase o "extend" X.env (eval o X.env) = eval o X.env := by rfl) (hfew : ((backTo pos (starEach (e :: []) X.env)).all (fun x => !x.1) && (backToKw pos (keywordEach [] X.env)).all (fun x => x.1.isSome) && decide ((e :: ([] : List Expr)).length + ([] : List Keyword).length + (if ([] : List Keyword).isEmpty then 0 else 1) < 30)) = true := by rfl)
    (hline : (apos.endLine == pos.line) = true := by rfl) (he : starEach (e :: []) X.env = (false, eval e X.env) :: starEach [] X.env := by rfl) : PM X (.Call (.Attribute o "extend" apos) [e] [] pos) (eMt "list" gExtend mo ms) := pm_mt PySem.F.plainAttrs_list PySem.F.slot_list_extend PySem.F.type_list_extend mt_extend mtd_extend ho ha hbase hfew hline he rfl
theorem pm_popAt {o : Expr} {mo : EM R} {apos : Pos} (ho : PM X o mo) (ha : PAm X [e] ms) (hbase : attributeBase o "pop" X.env (eval o X.env) = eval o X.env := by rfl) (hfew : ((backTo pos (starEach (e :: []) X.env)).all (fun x => !x.1) && (backToKw pos (keywordEach [] X.env)).all (fun x => x.1.isSome) && decide ((e :: ([] : List Expr)).length + ([] : List Keyword).length + (if ([] : List Keyword).isEmpty then 0 else 1) < 30)) = true := by rfl)
    (hline : (apos.endLine == pos.line) = true := by rfl) (he : starEach (e :: []) X.env = (false, eval e X.env) :: starEach [] X.env := by rfl) : PM X (.Call (.Attribute o "pop" apos) [e] [] pos) (eMt "list" gPopAt mo ms) := pm_mt PySem.F.plainAttrs_list PySem.F.slot_list_pop PySem.F.type_list_pop mt_popAt mtd_popAt ho ha hbase hfew hline he rfl
theorem pm_pop {o : Expr} {mo : EM R} {apos : Pos} (ho : PM X o mo) (hbase : attributeBase o "pop" X.env (eval o X.env) = eval o X.env := by rfl) (hline : (apos.endLine == pos.line) = true := by rfl) : PM X (.Call (.Attribute o "pop" apos) [] [] pos) (eMt "list" gPop mo eNil) := pm_mt0 PySem.F.plainAttrs_list PySem.F.slot_list_pop PySem.F.type_list_pop mt_pop mtd_pop ho hbase hline
theorem pm_clear {o : Expr} {mo : EM R} {apos : Pos} (ho : PM X o mo) (hbase : attributeBase o "clear" X.env (eval o X.env) = eval o X.env := by rfl) (hline : (apos.endLine == pos.line) = true := by rfl) : PM X (.Call (.Attribute o "clear" apos) [] [] pos) (eMt "list" gClear mo eNil) := pm_mt0 PySem.F.plainAttrs_list PySem.F.slot_list_clear PySem.F.type_list_clear mt_clear mtd_clear ho hbase hline
theorem pm_upper {o : Expr} {mo : EM R} {apos : Pos} (ho : PM X o mo) (hbase : attributeBase o "upper" X.env (eval o X.env) = eval o X.env := by rfl) (hline : (apos.endLine == pos.line) = true := by rfl) : PM X (.Call (.Attribute o "upper" apos) [] [] pos) (eMt "str" gUpper mo eNil) := pm_mt0 PySem.F.plainAttrs_str PySem.F.slot_str_upper PySem.F.type_str_upper mt_upper mtd_upper ho hbase hline
theorem pm_join {o : Expr} {mo : EM R} {apos : Pos} (ho : PM X o mo) (ha : PAm X [e] ms) (hbase : attributeBase o "join" X.env (eval o X.env) = eval o X.env := by rfl) (hfew : ((backTo pos (starEach (e :: []) X.env)).all (fun x => !x.1) && (backToKw pos (keywordEach [] X.env)).all (fun x => x.1.isSome) && decide ((e :: ([] : List Expr)).length + ([] : List Keyword).length + (if ([] : List Keyword).isEmpty then 0 else 1) < 30)) = true := by rfl)
    (hline : (apos.endLine == pos.line) = true := by rfl) (he : starEach (e :: []) X.env = (false, eval e X.env) :: starEach [] X.env := by rfl) : PM X (.Call (.Attribute o "join" apos) [e] [] pos) (eMt "str" gJoin mo ms) := pm_mt PySem.F.plainAttrs_str PySem.F.slot_str_join PySem.F.type_str_join mt_join mtd_join ho ha hbase hfew hline he rfl
theorem pm_insert {o : Expr} {mo : EM R} {apos : Pos} (ho : PM X o mo) (ha : PAm X [e, e2] ms) (hbase : attributeBase o "insert" X.env (eval o X.env) = eval o X.env := by rfl) (hfew : ((backTo pos (starEach (e :: [e2]) X.env)).all (fun x => !x.1) && (backToKw pos (keywordEach [] X.env)).all (fun x => x.1.isSome) && decide ((e :: [e2]).length + ([] : List Keyword).length + (if ([] : List Keyword).isEmpty then 0 else 1) < 30)) = true := by rfl)
    (hline : (apos.endLine == pos.line) = true := by rfl) (he : starEach (e :: [e2]) X.env = (false, eval e X.env) :: starEach [e2] X.env := by rfl) (hpl : (backTo pos (starEach [e2] X.env)).any (·.1) = false := by rfl) : PM X (.Call (.Attribute o "insert" apos) [e, e2] [] pos) (eMt "list" gInsert mo ms) := pm_mt PySem.F.plainAttrs_list PySem.F.slot_list_insert PySem.F.type_list_insert mt_insert mtd_insert ho ha hbase hfew hline he hpl
/-- isinstance(x, T) -/
theorem pm_isT {T : String} {p1 : Pos} (B : Blt X.mg) (t : Str) (hT : T ∈ tysB) (ht : t ∈ bltNames) (hvt : bootBuiltins t = some (.type T)) (h : PM X e me) (hg : Gl X "isinstance" := by rfl) (hgt : Gl X t := by rfl) (hnt : t ≠ "__name__" := by decide) (hdt : (t == ("__debug__" : Str)) = false := by decide)
    (he : starEach (e :: [.Name t p1]) X.env = (false, eval e X.env) :: starEach [.Name t p1] X.env := by rfl) : PM X (.Call (.Name "isinstance" p) [e, .Name t p1] [] pos) (eIsi T me) := pm_isi hT hg (B _ (by decide +kernel)) hgt (B t ht) hvt h hnt hdt he rfl rfl
theorem pm_isT2 {T U : String} {p1 p2 p3 : Pos} {kk : Nat} (B : Blt X.mg) (t u : Str) (hT : T ∈ tysB) (ht : t ∈ bltNames) (hvt : bootBuiltins t = some (.type T)) (hU : U ∈ tysB) (hu : u ∈ bltNames) (hvu : bootBuiltins u = some (.type U)) (h : PM X e me) (hg : Gl X "isinstance" := by rfl) (hgt : Gl X t := by rfl) (hgu : Gl X u := by rfl)
    (hnt : t ≠ "__name__" := by decide) (hdt : (t == ("__debug__" : Str)) = false := by decide) (hnu : u ≠ "__name__" := by decide) (hdu : (u == ("__debug__" : Str)) = false := by decide)
    (he : starEach (e :: [.Tuple [.Name t p1, .Name u p2] kk p3]) X.env = (false, eval e X.env) :: starEach [.Tuple [.Name t p1, .Name u p2] kk p3] X.env := by rfl) : PM X (.Call (.Name "isinstance" p) [e, .Tuple [.Name t p1, .Name u p2] kk p3] [] pos) (eIsi2 T U me) :=
  pm_isi2 hT hU hg (B _ (by decide +kernel)) hgt (B t ht) hvt hgu (B u hu) hvu h hnt hdt hnu hdu he rfl rfl rfl rfl
theorem pim_rng1 (B : Blt X.mg) (ha : PAm X [e] ms) (hg : Gl X "range" := by rfl) (hs : starEach [e] X.env = [(false, eval e X.env)] := by rfl) : PIm X tg (.Call (.Name "range" p) [e] [] pos) (eRng1 ms) := pim_range1 hg (B _ (by decide +kernel)) ha hs
theorem pim_rng2 (B : Blt X.mg) (ha : PAm X [e, e2] ms) (hg : Gl X "range" := by rfl) (hs : starEach [e, e2] X.env = [(false, eval e X.env), (false, eval e2 X.env)] := by rfl) (hs2 : starEach [e2] X.env = [(false, eval e2 X.env)] := by rfl) : PIm X tg (.Call (.Name "range" p) [e, e2] [] pos) (eRng2 ms) := pim_range2 hg (B _ (by decide +kernel)) ha hs hs2
theorem pim_enm {elts : List Expr} {kk : Nat} {tpos : Pos} (B : Blt X.mg) (ha : PAm X [e] ms) (hg : Gl X "enumerate" := by rfl) (hs : starEach [e] X.env = [(false, eval e X.env)] := by rfl) : PIm X (.Tuple elts kk tpos) (.Call (.Name "enumerate" p) [e] [] pos) (eEnum ms) := pim_enum hg (B _ (by decide +kernel)) ha hs
theorem pim_zp {elts : List Expr} {kk : Nat} {tpos : Pos} (B : Blt X.mg) (ha : PAm X [e, e2] ms) (hg : Gl X "zip" := by rfl) (hs : starEach [e, e2] X.env = (false, eval e X.env) :: starEach [e2] X.env := by rfl) (hpl : (backTo pos (starEach [e2] X.env)).any (·.1) = false := by rfl) : PIm X (.Tuple elts kk tpos) (.Call (.Name "zip" p) [e, e2] [] pos) (eZip ms) := pim_zip hg (B _ (by decide +kernel)) ha hs hpl
/-- constants of the module -/
theorem pm_gint {x : Str} {i : Int} (h : ∃ t, X.mg x = some (.int i t)) (hg : Gl X x := by rfl) (hd : (x == ("__debug__" : Str)) = false := by decide) : PM X (.Name x pos) (eC (.int i)) := by
  obtain ⟨t, ht⟩ := h
  exact pm_const (pe_glob (v := .int i) hg ht ⟨t, rfl⟩ hd) fun _ => .int i
theorem pm_gstr {x z : Str} (h : ∃ t, X.mg x = some (.str z t)) (hg : Gl X x := by rfl) (hd : (x == ("__debug__" : Str)) = false := by decide) : PM X (.Name x pos) (eC (.str z)) := by
  obtain ⟨t, ht⟩ := h
  exact pm_const (pe_glob (v := .str z) hg ht ⟨t, rfl⟩ hd) fun _ => .str z
theorem RpA.strs {K : PySem.W.Frag} {H : Hp} : ∀ zs : List Str, RpA K H (zs.map V.str) (zs.map D.str)
  | [] => .nil
  | z :: r => .cons (.str z) (RpA.strs r)
theorem pm_gtup {x : Str} {zs : List Str} (h : ∃ a, X.mg x = some (.ref a) ∧ ∀ H, SqT X.K H a (zs.map V.str)) (hg : Gl X x := by rfl) (hd : (x == ("__debug__" : Str)) = false := by decide) : PM X (.Name x pos) (eC (.tup (zs.map .str))) := by
  obtain ⟨a, ha, hs⟩ := h
  exact pm_const (pe_glob (v := .ref a) hg ha rfl hd) fun H => .tup (hs H) (RpA.strs zs)
/-- tg = e by the target's binding -/
def sBind (b : Bnd) (me : EM R) : SM := fun ρ M => match fz me ρ M with
  | some (s, M1) => match b s ρ with
    | some ρ' => some (.nx ρ' M1)
    | none => none
  | none => none
theorem psm_bind {b : Bnd} {is : List Nat} (he : PM X e me) (hg : PGm X tg b is) (hs : swapsWithSole [tg] e pos.line X.env = pure false := by rfl) (hw : swappedStores [tg] e X.env = pure none := by rfl) (h1 : (assignEach [tg] X.env).map (·.2) = [assign tg X.env] := by rfl) : PSm X (.Assign [tg] e pos) (sBind b me) :=
  PS.imp (ps_asg (PM.v he) hg hs hw h1) fun E σ H ⟨Hk, ls, ρ, M, r, w, en, hm, q⟩ => by
  unfold sBind at hm
  split at hm
  · rename_i s M1 h1
    split at hm
    · rename_i ρ' h2
      cases hm
      exact ⟨Hk, ls, ρ, M, s, M1, w, en, h1, fun v Hk1 H1 w1 x1 r1 => ⟨Hk1, ls, ρ, M1, s, ρ', w1, en.mono x1.kk, r1, h2, fun σ' en' _ => q σ' Hk1 H1 ls w1 x1.s en'⟩⟩
    · cases hm
  · cases hm
end
/-- a def by its mirror, where it stands -/
structure DefOk (P : Program) (w : PySem.World) (K : PySem.W.Frag) (mg : Str → Option Value) (base : Heap) (k : Nat) (x : Str) (f : Addr) (fd : FuncData) (ps : List Str) (g : Fn) : Prop where
  gl : mg x = some (.ref f)
  kp : PySem.W.keepIn K (.ref f) = true
  bd : Binds K fd ps []
  ok : FnG P w K mg base CX0 k f fd ps (spM K ps.length g)
theorem pm_def {X : Cx} {k : Nat} {x : Str} {f : Addr} {fd : FuncData} {ps : List Str} {g : Fn} {e : Expr} {es : List Expr} {ms : EM (List SV)} {p pos : Pos} (F : DefOk X.prog X.w X.K X.mg X.base k x f fd ps g) (hgd : X.A.guards = some []) (hr : Room k X.A) (ha : PAm X (e :: es) ms)
    (hn : ∀ ρ M ss M', ms ρ M = some (ss, M') → ss.length = ps.length) (hg : Gl X x := by rfl) (hdb : (x == ("__debug__" : Str)) = false := by decide) (he : starEach (e :: es) X.env = (false, eval e X.env) :: starEach es X.env := by rfl) (hpl : (backTo pos (starEach es X.env)).any (·.1) = false := by rfl) :
    PM X (.Call (.Name x p) (e :: es) [] pos) (eFn g ms) := pm_call F.ok hgd hr hg F.gl F.kp F.bd ha hn hdb he hpl
theorem FunDG.ok {P : Program} {w : PySem.World} {K : PySem.W.Frag} {mg : Str → Option Value} {base : Heap} {x qual : Str} {params : Arguments} {body : List Stmt} {scope : Scope} {dvs : List V} {kws : List (Str × V)} {f : Addr} {fd : FuncData} {N ps : List Str} {k : Nat} {b : SM} {n : Nat} (F : FunD K x qual params body scope dvs kws f fd) (S : FnScope N ps scope) (hl : ps.length = n)
    (hbody : ∀ (cdv : Value) (A : Around) (outer : List PySem.Env) (s : Shared) (H : Hp) (E : XK), A.guards = some [] → Room k (A.deeper (envOfC qual scope s.heap.objs.size f cdv)) → PSsm (cxOf CX0 P w K mg base N qual scope f cdv A outer s H E).nox body b) : FnG P w K mg base CX0 (k + 1) f fd ps (spM K n (runBody b N.length)) := by
  obtain ⟨oc, od, dV, kV, doc, pm, an, cdv, ct, osl, rfl, lk, hcd, _, _⟩ := F.ex
  exact fng_of lk hcd S (spM_len hl) fun A outer s H vs Q E hgd hr h => ⟨_, (hbody cdv A outer s H E hgd hr).nox, body_go h⟩

/-! ### the head -/
/-- a Hook of one's own: any look at the written part that says yes -/
def obsX (n : Nat) (chk : PySem.W.Frag → Bool) (fn : List He.DefD) (g : Addr → Option Obj) : He.AlD := (fun K => (chk K && fn.all fun d => d.ok K, fn.map fun d => He.fnW K d.at_)) (He.frG g (sysModules :: He.asD g n))
def SaysX (chk : PySem.W.Frag → Bool) (fn : List He.DefD) (K : PySem.W.Frag) : Prop := (chk K && fn.all fun d => d.ok K) = true ∧ (fn.map fun d => He.fnW K d.at_) = fn.map He.DefD.val
def hookX (n : Nat) (chk : PySem.W.Frag → Bool) (fn : List He.DefD) : PySem.W.Hook where
  α := He.AlD
  obs := fun s => obsX n chk fn s.heap.get?
  val := fun _ => He.valD fn
  says := fun _ h => ∃ K : PySem.W.Frag, K.In h ∧ SaysX chk fn K
  of := fun _ _ e => ⟨_, He.frG_in, congrArg (fun z : He.AlD => z.1) e, congrArg (fun z : He.AlD => z.2) e⟩
  keeps := fun _ _ _ ⟨K, hK, c⟩ k => ⟨K, PySem.W.Frag.In.keeps hK k, c⟩
theorem obsX_eq {n : Nat} {chk : PySem.W.Frag → Bool} {fn : List He.DefD} {g : Addr → Option Obj} {s : Shared} (h : ∀ a, g a = s.heap.get? a) : obsX n chk fn g = (hookX n chk fn).obs s := by
  have e : g = s.heap.get? := funext h
  rw [e] <;> rfl
theorem SaysX.yes {chk : PySem.W.Frag → Bool} {fn : List He.DefD} {K : PySem.W.Frag} (c : SaysX chk fn K) : chk K = true := (Bool.and_eq_true_iff.mp c.1).1
theorem SaysX.dfn {chk : PySem.W.Frag → Bool} {fn : List He.DefD} {K : PySem.W.Frag} (c : SaysX chk fn K) (i : Nat) {d : He.DefD} (h : fn[i]? = some d := by rfl) : ∃ fd, FunD K d.name d.qual d.params d.body d.scope (d.dvs K) (d.kws K) (He.fAd K d.at_) fd := by
  have c2 := (Bool.and_eq_true_iff.mp c.1).2
  have e2 := congrArg (fun l => l[i]?) c.2
  simp only [List.getElem?_map, h, Option.map_some] at e2
  exact He.DefD.funD (Option.some.inj e2) (List.all_eq_true.mp c2 d (List.mem_of_getElem? h))
/-- looks -/
def noSysB (K : PySem.W.Frag) : Bool := match K.lookup sysModules with
  | some o => (match o.cls with
    | .type "dict" => true
    | _ => false)
  | none => false
theorem noSysB_ok {K : PySem.W.Frag} (h : noSysB K = true) : NoSys K := by
  unfold noSysB at h
  split at h
  · rename_i o ho
    split at h
    · rename_i hc
      exact ⟨o, ho, by rw [hc]; decide⟩
    · cases h
  · cases h
def frees (xs : List Str) (K : PySem.W.Frag) : Bool := xs.all fun x => (He.Fa.free x).ok K
theorem frees_ok {K : PySem.W.Frag} {h : Heap} {mg : Str → Option Value} {xs : List Str} (X : K.In h) (G : h.Ns mainGlobals mg) (c : frees xs K = true) : ∀ x ∈ xs, mg x = none := fun x hx => He.free_ok X G (List.all_eq_true.mp c x hx)
end Dy

set_option Elab.async false
set_option linter.all false
set_option maxRecDepth 100000
set_option maxHeartbeats 4000000
/-! Layer Dy, part 13: instances that are being made: fields, methods, C(..). -/
namespace Dy
open PySem L2 PySem.Spec PyProof.Rows

/-! ### nothing is promised of what is never come to -/
def eNo : EM R := fun _ _ => none
def sNo : SM := fun _ _ => none
theorem pm_no {X : Cx} {e : Expr} : PM X e eNo := ⟨fun _ _ _ _ _ _ h => by obtain ⟨_, _, _, _, _, _, _, _, z, _⟩ := h; cases z⟩
theorem psm_no {X : Cx} {st : Stmt} : PSm X st sNo := ⟨fun _ _ _ _ _ _ h => by obtain ⟨_, _, _, _, _, _, _, z, _⟩ := h; cases z⟩
theorem pssm_no {X : Cx} {st : List Stmt} : PSsm X st sNo := ⟨fun _ _ _ _ _ _ h => by obtain ⟨_, _, _, _, _, _, _, z, _⟩ := h; cases z⟩

/-! ### fields by name -/
def lookF (f : Str) : List Str → List D → Option D
  | n :: ns, d :: ds => if f = n then some d else lookF f ns ds
  | _, _ => none
def putN (f : Str) (d : D) : List Str → List D → List Str × List D
  | n :: ns, x :: xs => if n = f then (n :: ns, d :: xs) else (n :: (putN f d ns xs).1, x :: (putN f d ns xs).2)
  | _, _ => ([f], [d])
section
variable {K : PySem.W.Frag} {Hk H : Hp} {M M' : MS} {ls : List Addr}
theorem lookF_ok {f : Str} {d : D} : ∀ {fs : List (Str × V)} {ds : List D}, RpA K Hk (fs.map (·.2)) ds → lookF f (fs.map (·.1)) ds = some d → ∃ v, fs.lookup f = some v ∧ Rp K Hk v d
  | [], _, r, e => by cases r; cases e
  | (n, v) :: fs, _, .cons (d := x) (ds := xs) r t, e => by
    have e2 : (if f = n then some x else lookF f (fs.map (·.1)) xs) = some d := e
    by_cases h : f = n
    · rw [if_pos h] at e2
      cases e2
      exact ⟨v, by rw [List.lookup_cons, beq_iff_eq.mpr h], r⟩
    · rw [if_neg h] at e2
      obtain ⟨u, h1, h2⟩ := lookF_ok t e2
      exact ⟨u, by rw [List.lookup_cons, beq_eq_false_iff_ne.mpr h]; exact h1, h2⟩
theorem lookup_nope {f : Str} : ∀ {fs : List (Str × V)}, (fs.map (·.1)).contains f = false → fs.lookup f = none
  | [], _ => rfl
  | (n, v) :: fs, h => by
    rw [List.map_cons, List.contains_cons, Bool.or_eq_false_iff] at h
    rw [List.lookup_cons, h.1]
    exact lookup_nope h.2
theorem putN_ok {f : Str} {v : V} {d : D} (rv : Rp K Hk v d) : ∀ {fs : List (Str × V)} {ds : List D}, RpA K Hk (fs.map (·.2)) ds →
    (putF f v fs).map (·.1) = (putN f d (fs.map (·.1)) ds).1 ∧ RpA K Hk ((putF f v fs).map (·.2)) (putN f d (fs.map (·.1)) ds).2
  | [], _, r => by cases r; exact ⟨rfl, .cons rv .nil⟩
  | (n, u) :: fs, _, .cons (d := x) (ds := xs) r t => by
    by_cases h : n = f
    · simp only [putF, List.map_cons, putN, if_pos h]
      exact ⟨trivial, .cons rv t⟩
    · obtain ⟨h1, h2⟩ := putN_ok rv (f := f) t
      simp only [putF, List.map_cons, putN, if_neg h]
      exact ⟨by rw [h1], .cons r h2⟩
/-- the handle of an instance -/
def muI (M : MS) : SV → Option (Nat × Addr × List Str × List D)
  | .mu k => match M[k]? with
    | some (.i C ns ds) => some (k, C, ns, ds)
    | _ => none
  | _ => none
theorem muI_ok {v : V} {s : SV} {k : Nat} {C : Addr} {ns : List Str} {ds : List D} (w : World K Hk H M ls) (r : SVr K Hk ls ls.length v s) (e : muI M s = some (k, C, ns, ds)) :
    ∃ (l dx : Addr) (fs : List (Str × V)), v = .ref l ∧ ls[k]? = some l ∧ M[k]? = some (.i C ns ds) ∧ H l = some (.ins C dx fs) ∧ fs.map (·.1) = ns ∧ RpA K Hk (fs.map (·.2)) ds := by
  unfold muI at e
  split at e
  · rename_i j
    split at e
    · rename_i C' ns' ds' hM
      cases e
      obtain ⟨_, l, hl, rfl⟩ := r
      obtain ⟨l', hl', dx, fs, h1, h2, h3⟩ := w.ms k _ hM
      rw [hl] at hl'
      cases hl'
      exact ⟨l, dx, fs, rfl, hl, hM, h1, h2, h3⟩
    · cases e
  · cases e
end

/-! ### o.f -/
def fldS (C : Addr) (f : Str) (M : MS) (s : SV) : Option D := match muI M s with
  | some (_, C', ns, ds) => if C' = C then lookF f ns ds else none
  | none => none
def eFld (C : Addr) (f : Str) (m : EM R) : EM R := (fz m).seq fun s => fun _ M => match fldS C f M s with
  | some d => some (.sv (.dt d), M)
  | none => none
section
variable {X : Cx} {e o : Expr} {me mo : EM R} {f : Str} {C : Addr} {pos pos' : Pos}
theorem pm_fld (c : Cls X.K C) (n : NoAttr X.K C f) (h : PM X e me) (hb : attributeBase e f X.env (eval e X.env) = eval e X.env := by rfl) : PM X (.Attribute e f pos) (eFld C f me) :=
  PE.imp (pe_fld (PM.v h) hb) fun σ H Q ⟨Hk, ls, ρ, M, r, M', w, en, hm, q⟩ => by
  obtain ⟨s, M1, h1, h2⟩ := seq_some hm
  refine ⟨Hk, ls, ρ, M, s, M1, w, en, h1, fun v Hk1 H1 w1 x1 r1 => ?_⟩
  split at h2
  · rename_i d hd
    cases h2
    unfold fldS at hd
    split at hd
    · rename_i k C' ns ds hi
      split at hd
      · rename_i hC
        subst hC
        obtain ⟨l, dx, fs, rfl, hl, hM, hH, hn, hr⟩ := muI_ok w1 r1 hi
        subst hn
        obtain ⟨u, hu, ru⟩ := lookF_ok hr hd
        exact ⟨l, C', dx, fs, u, rfl, hH, c, n, hu, q u Hk1 H1 w1 x1 ru⟩
      · cases hd
    · cases hd
  · cases h2
/-- o.f = d -/
def putFld (C : Addr) (f : Str) (M : MS) (s : SV) (d : D) : Option MS := match muI M s with
  | some (k, C', ns, ds) => if C' = C ∧ ns.length < 1000 then some (M.set k (.i C (putN f d ns ds).1 (putN f d ns ds).2)) else none
  | none => none
theorem putFld_ok {K : PySem.W.Frag} {Hk H : Hp} {M M' : MS} {ls : List Addr} {x v : V} {s : SV} {d : D} (w : World K Hk H M ls) (rx : SVr K Hk ls ls.length x s) (rv : Rp K Hk v d) (e : putFld C f M s d = some M') :
    ∃ (a dx : Addr) (fs : List (Str × V)), x = .ref a ∧ H a = some (.ins C dx fs) ∧ fs.length < 1000 ∧ World K Hk (upd H a (.ins C dx (putF f v fs))) M' ls ∧ Ext ls Hk H Hk (upd H a (.ins C dx (putF f v fs))) := by
  unfold putFld at e
  split at e
  · rename_i k C' ns ds hi
    split at e
    · rename_i hC
      cases e
      obtain ⟨hC, hz⟩ := hC
      subst hC
      obtain ⟨l, dx, fs, rfl, hl, hM, hH, hn, hr⟩ := muI_ok w rx hi
      subst hn
      obtain ⟨p1, p2⟩ := putN_ok (f := f) rv hr
      refine ⟨l, dx, fs, rfl, hH, by rw [List.length_map] at hz; exact hz, w.setM hl hM ⟨dx, _, upd_same, p1, p2⟩, Ext.setM (List.mem_of_getElem? hl)⟩
    · cases e
  · cases e
def sFldPut (C : Addr) (f : Str) (mo me : EM R) : SM := fun ρ M => match fz me ρ M with
  | some (.dt d, M1) => match fz mo ρ M1 with
    | some (s, M2) => match putFld C f M2 s d with
      | some M3 => some (.nx ρ M3)
      | none => none
    | none => none
  | _ => none
theorem psm_fldPut (c : Cls X.K C) (n : NoAttr X.K C f) (ho : PM X o mo) (he : PM X e me) (hs : swapsWith e (some (.Attribute o f pos')) pos.line X.env = pure false := by rfl) : PSm X (.Assign [.Attribute o f pos'] e pos) (sFldPut C f mo me) :=
  PS.imp (ps_fld (PM.v ho) (PM.v he) hs) fun E σ H ⟨Hk, ls, ρ, M, r, w, en, hm, q⟩ => by
  unfold sFldPut at hm
  split at hm
  · rename_i d M1 h1
    split at hm
    · rename_i s M2 h2
      split at hm
      · rename_i M3 h3
        cases hm
        refine ⟨Hk, ls, ρ, M, _, M1, w, en, h1, fun y Hk1 H1 w1 x1 r1 => ?_⟩
        refine ⟨Hk1, ls, ρ, M1, s, M2, w1, en.mono x1.kk, h2, fun x Hk2 H2 w2 x2 r2 => ?_⟩
        obtain ⟨a, dx, fs, rfl, hH, hz, w3, x3⟩ := putFld_ok w2 r2 (Rp.mono x2.kk r1) h3
        exact ⟨a, C, dx, fs, rfl, hH, c, n, hz, q _ Hk2 _ ls w3 ((x1.trans x2).trans x3).s (en.mono (x1.trans x2).kk)⟩
      · cases hm
    · cases hm
  · cases hm

/-! ### several targets o.f, o.g, .. = a tuple -/
def gFld (K : PySem.W.Frag) (to : TE) (f : Str) : TG := fun v σ H Q => to σ H fun x H1 => ∃ a C dx fs, x = .ref a ∧ H1 a = some (.ins C dx fs) ∧ Cls K C ∧ NoAttr K C f ∧ fs.length < 1000 ∧ Q σ (upd H1 a (.ins C dx (putF f v fs)))
theorem pg_fld {to : TE} (ho : PE X o to) (ha : ∀ v, assign (.Attribute o f pos) X.env v = (do
      let ov ← holding [v] (eval o X.env)
      standAt pos.atName
      holding [v, ov] (setAttr ov f v)
      release [v, ov] []) := by intro _; rfl) : PG X (.Attribute o f pos) (gFld X.K to f) := by
  refine ⟨fun pins s σ H v u Q I r h => ?_⟩
  rw [ha]
  refine wpAny_bind (wpAny_holding (thn (ho.run pins s σ H _ I h) fun ov s1 ⟨x, H1, I1, r1, a, C, dx, fs, ex, ea, c, n, l, q⟩ => ?_))
  subst ex
  obtain rfl : ov = Value.ref a := r1
  refine wpAny_bind (wpAny_standAt (wpAny_bind (wpAny_holding (setattr_ok I1 ea c n l r fun s3 I3 => ?_))))
  exact wpAny_release ⟨σ, _, I3, q⟩
def FsM := List D → Env → MS → Option MS
def tFs (K : PySem.W.Frag) (g : FsM) : TGs := fun vs σ H Q => ∃ Hk ls ρ M ds M', World K Hk H M ls ∧ EnvR K Hk ls σ ρ ∧ RpA K Hk vs ds ∧ g ds ρ M = some M' ∧ ∀ Hk' H', World K Hk' H' M' ls → Ext ls Hk H Hk' H' → Q σ H'
def fsNil : FsM := fun ds _ M => match ds with
  | [] => some M
  | _ => none
def fsCons (C : Addr) (f : Str) (mo : EM R) (g : FsM) : FsM := fun ds ρ M => match ds with
  | d :: ds => match fz mo ρ M with
    | some (s, M1) => match putFld C f M1 s d with
      | some M2 => g ds ρ M2
      | none => none
    | none => none
  | [] => none
theorem pfs_nil : PGs X [] (tFs X.K fsNil) := PGs.imp pgs_nil fun vs σ H Q ⟨Hk, ls, ρ, M, ds, M', w, en, ra, hm, q⟩ => by
  unfold fsNil at hm
  split at hm
  · cases hm
    cases ra
    exact ⟨rfl, q Hk H w (Ext.refl _ _ _)⟩
  · cases hm
theorem pfs_cons {es : List Expr} {g : FsM} (c : Cls X.K C) (n : NoAttr X.K C f) (ho : PM X o mo) (hs : PGs X es (tFs X.K g)) (ha : ∀ v, assign (.Attribute o f pos) X.env v = (do
      let ov ← holding [v] (eval o X.env)
      standAt pos.atName
      holding [v, ov] (setAttr ov f v)
      release [v, ov] []) := by intro _; rfl) (h2 : (assignEach (.Attribute o f pos :: es) X.env).map (·.2) = assign (.Attribute o f pos) X.env :: (assignEach es X.env).map (·.2) := by rfl) : PGs X (.Attribute o f pos :: es) (tFs X.K (fsCons C f mo g)) :=
  PGs.imp (pgs_cons (pg_fld (PM.v ho) ha) hs h2) fun vs σ H Q ⟨Hk, ls, ρ, M, ds, M', w, en, ra, hm, q⟩ => by
  unfold fsCons at hm
  split at hm
  · rename_i d ds
    split at hm
    · rename_i s M1 h1
      split at hm
      · rename_i M2 h3
        cases ra with
        | cons rv rt =>
          refine ⟨_, _, rfl, Hk, ls, ρ, M, s, M1, w, en, h1, fun x Hk1 H1 w1 x1 r1 => ?_⟩
          obtain ⟨a, dx, fs, rfl, hH, hz, w3, x3⟩ := putFld_ok w1 r1 (Rp.mono x1.kk rv) h3
          exact ⟨a, C, dx, fs, rfl, hH, c, n, hz, Hk1, ls, ρ, M2, ds, M', w3, en.mono x1.kk, RpA.mono x1.kk rt, hm, fun Hk' H' w' x' => q Hk' H' w' ((x1.trans x3).trans x')⟩
      · cases hm
    · cases hm
  · cases hm
def sFlds (g : FsM) (n : Nat) (me : EM R) : SM := fun ρ M => match fz me ρ M with
  | some (.dt (.tup ds), M1) => if ds.length = n then (match g ds ρ M1 with
    | some M2 => some (.nx ρ M2)
    | none => none) else none
  | _ => none
theorem psm_flds {es : List Expr} {g : FsM} {n kk : Nat} {tpos : Pos} (hc : X.calm = true) (he : PM X e me) (hg : PGs X es (tFs X.K g)) (hs : swapsWithSole [.Tuple es kk tpos] e pos.line X.env = pure false := by rfl) (hw : swappedStores [.Tuple es kk tpos] e X.env = pure none := by rfl)
    (h1 : (assignEach [.Tuple es kk tpos] X.env).map (·.2) = [assign (.Tuple es kk tpos) X.env] := by rfl) (hn : (assignEach es X.env).length = n := by rfl) (hst : (assignEach es X.env).findIdx? (·.1) = none := by rfl) : PSm X (.Assign [.Tuple es kk tpos] e pos) (sFlds g n me) :=
  PS.imp (ps_asg (PM.v he) (pg_tup hc hg hn hst) hs hw h1) fun E σ H ⟨Hk, ls, ρ, M, r, w, en, hm, q⟩ => by
  unfold sFlds at hm
  split at hm
  · rename_i ds M1 h1
    split at hm
    · rename_i hlen
      split at hm
      · rename_i M2 h2
        cases hm
        refine ⟨Hk, ls, ρ, M, _, M1, w, en, h1, fun v Hk1 H1 w1 x1 r1 => ?_⟩
        cases r1 with
        | tup hq ra =>
          exact ⟨_, _, rfl, same_t w1.sub hq, by rw [ra.length]; exact hlen, Hk1, ls, ρ, M1, ds, M2, w1, en.mono x1.kk, ra, h2, fun Hk' H' w' x' => q _ Hk' H' ls w' (x1.trans x').s (en.mono (x1.trans x').kk)⟩
      · cases hm
    · cases hm
  · cases hm
end

/-! ### o.m(..) -/
section
variable {X : Cx} {CX : CXT} {k : Nat} {f C : Addr} {fd : FuncData} {ps : List Str} {sp : Sp} {dvs : List V} {ds : List Value} {E : XK} {x m : Str} {p pos apos : Pos} {e o : Expr} {es : List Expr} {ta : TE} {t : TA}
theorem pe_methG {pl : Sem Bool} (he : PE X o ta) (c : Cls X.K C) (hm : Meth X.K C m f) (F : FnG X.prog X.w X.K X.mg X.base CX k f fd ps sp) (hgd : X.A.guards = some []) (hr : Room k X.A) (hb : Binds X.K fd ps ds) (hd : Vals dvs ds) (hx : Passes CX X E) (ha : PA X (e :: es) t)
    (hst : starEach (e :: es) X.env = (false, eval e X.env) :: starEach es X.env := by rfl) (hpl : (backTo pos (starEach es X.env)).any (·.1) = false := by rfl)
    (ht : eval (.Call (.Attribute o m apos) (e :: es) [] pos) X.env = (do
      let ov ← eval o X.env
      standAt apos.atName
      let (f, first) ← holding [ov] (getMethod ov m pl)
      callWith pos f first (backTo pos (starEach (e :: es) X.env)) (backToKw pos (keywordEach [] X.env))) := by rfl) :
    PE X (.Call (.Attribute o m apos) (e :: es) [] pos) (tMeth C m sp dvs E ta t) := by
  constructor
  intro pins s σ H Q I h
  refine PySem.W.methodCall_KW (pl := pl) (thn (he.run pins s σ H _ I h) fun u s1 ⟨x, H1, I1, rx, a, dx, fs, ex, ea, l, q⟩ => ?_) ht
  cases ex
  cases (show u = Value.ref a from rx)
  refine getmeth_ok I1 ea c hm l ?_
  refine PySem.W.callWith_K (first := [.ref a]) (h₀ := X.base) I.ok.mod.kin hm.kp (thn (ha.run pos pins s1 σ H1 _ I1 q) fun us s2 ⟨vs, H2, I2, r, q2⟩ => ⟨I2.kIn, ?_⟩) hst hpl
  exact run_fng (us := .ref a :: us) (vs := .ref a :: vs) F hgd hr hb hd hx I2 (.cons rfl r) q2
theorem pe_methG0 {pl : Sem Bool} (he : PE X o ta) (c : Cls X.K C) (hm : Meth X.K C m f) (F : FnG X.prog X.w X.K X.mg X.base CX k f fd ps sp) (hgd : X.A.guards = some []) (hr : Room k X.A) (hb : Binds X.K fd ps ds) (hd : Vals dvs ds) (hx : Passes CX X E)
    (ht : eval (.Call (.Attribute o m apos) [] [] pos) X.env = (do
      let ov ← eval o X.env
      standAt apos.atName
      let (f, first) ← holding [ov] (getMethod ov m pl)
      callWith pos f first (backTo pos (starEach [] X.env)) (backToKw pos (keywordEach [] X.env))) := by rfl) :
    PE X (.Call (.Attribute o m apos) [] [] pos) (tMeth C m sp dvs E ta tNil) := by
  constructor
  intro pins s σ H Q I h
  refine PySem.W.methodCall_KW (pl := pl) (thn (he.run pins s σ H _ I h) fun u s1 ⟨x, H1, I1, rx, a, dx, fs, ex, ea, l, q⟩ => ?_) ht
  cases ex
  cases (show u = Value.ref a from rx)
  refine getmeth_ok I1 ea c hm l ?_
  exact PySem.W.callWith_K0 (first := [.ref a]) I1.kIn hm.kp (run_fng (us := [.ref a]) (vs := [.ref a]) F hgd hr hb hd hx I1 (.cons rfl .nil) q)
def eMeth (C : Addr) (m : Str) (g : Fn) (mo : EM R) (ms : EM (List SV)) : EM R := (fz mo).seq fun s => fun ρ M => match muI M s with
  | some (_, C', ns, _) => if C' = C ∧ ns.contains m = false then ms.seq (fun ss => fun _ M' => g (s :: ss) M') ρ M else none
  | none => none
theorem emeth_go {n : Nat} {g : Fn} {mo : EM R} {ms : EM (List SV)} {E : XK} (hn : ∀ ρ M ss M', ms ρ M = some (ss, M') → ss.length + 1 = n) : ∀ σ H Q, tM X.K (eMeth C m g mo ms) σ H Q → tMeth C m (spM X.K n g) [] E (tV X.K (fz mo)) (tA X.K ms) σ H Q := fun σ H Q ⟨Hk, ls, ρ, M, z, M', w, en, hm, q⟩ => by
  obtain ⟨s, M1, h1, h2⟩ := seq_some hm
  refine ⟨Hk, ls, ρ, M, s, M1, w, en, h1, fun v Hk1 H1 w1 x1 r1 => ?_⟩
  split at h2
  · rename_i k C' ns ds hi
    split at h2
    · rename_i hC
      obtain ⟨hC, hno⟩ := hC
      subst hC
      obtain ⟨l, dx, fs, rfl, hl, hM, hH, hns, hr⟩ := muI_ok w1 r1 hi
      subst hns
      obtain ⟨ss, M2, h3, h4⟩ := seq_some h2
      refine ⟨l, dx, fs, rfl, hH, lookup_nope hno, Hk1, ls, ρ, M1, ss, M2, w1, en.mono x1.kk, h3, fun vs Hk2 H2 w2 x2 r2 => ?_⟩
      show spM X.K n g (V.ref l :: (vs ++ [])) H2 Q E
      rw [List.append_nil]
      exact ⟨Hk2, ls, M2, s :: ss, z, M', w2, .cons (r1.mono x2.kk) r2, hn ρ M1 ss M2 h3, h4, q.back (x1.trans x2)⟩
    · cases h2
  · cases h2
theorem emeth0_go {g : Fn} {mo : EM R} {E : XK} : ∀ σ H Q, tM X.K (eMeth C m g mo eNil) σ H Q → tMeth C m (spM X.K 1 g) [] E (tV X.K (fz mo)) tNil σ H Q := fun σ H Q ⟨Hk, ls, ρ, M, z, M', w, en, hm, q⟩ => by
  obtain ⟨s, M1, h1, h2⟩ := seq_some hm
  refine ⟨Hk, ls, ρ, M, s, M1, w, en, h1, fun v Hk1 H1 w1 x1 r1 => ?_⟩
  split at h2
  · rename_i k C' ns ds hi
    split at h2
    · rename_i hC
      obtain ⟨hC, hno⟩ := hC
      subst hC
      obtain ⟨l, dx, fs, rfl, hl, hM, hH, hns, hr⟩ := muI_ok w1 r1 hi
      subst hns
      obtain ⟨ss, M2, h3, h4⟩ := seq_some h2
      cases h3
      exact ⟨l, dx, fs, rfl, hH, lookup_nope hno, Hk1, ls, M1, [s], z, M', w1, .cons r1 .nil, rfl, h4, q.back x1⟩
    · cases h2
  · cases h2
/-- a method by its mirror, where it stands -/
structure MethOk (P : Program) (w : PySem.World) (K : PySem.W.Frag) (mg : Str → Option Value) (base : Heap) (k : Nat) (C : Addr) (m : Str) (f : Addr) (fd : FuncData) (ps : List Str) (g : Fn) : Prop where
  cl : Cls K C
  mt : Meth K C m f
  bd : Binds K fd ps []
  ok : FnG P w K mg base CX0 k f fd ps (spM K ps.length g)
theorem pm_meth {g : Fn} {mo : EM R} {ms : EM (List SV)} {pl : Sem Bool} (F : MethOk X.prog X.w X.K X.mg X.base k C m f fd ps g) (hgd : X.A.guards = some []) (hr : Room k X.A) (ho : PM X o mo) (ha : PAm X (e :: es) ms) (hn : ∀ ρ M ss M', ms ρ M = some (ss, M') → ss.length + 1 = ps.length)
    (hst : starEach (e :: es) X.env = (false, eval e X.env) :: starEach es X.env := by rfl) (hpl : (backTo pos (starEach es X.env)).any (·.1) = false := by rfl)
    (ht : eval (.Call (.Attribute o m apos) (e :: es) [] pos) X.env = (do
      let ov ← eval o X.env
      standAt apos.atName
      let (f, first) ← holding [ov] (getMethod ov m pl)
      callWith pos f first (backTo pos (starEach (e :: es) X.env)) (backToKw pos (keywordEach [] X.env))) := by rfl) :
    PM X (.Call (.Attribute o m apos) (e :: es) [] pos) (eMeth C m g mo ms) := PE.imp (pe_methG (pl := pl) (PM.v ho) F.cl F.mt F.ok hgd hr F.bd .nil pass0 ha hst hpl ht) (emeth_go hn)
theorem pm_meth0 {g : Fn} {mo : EM R} {pl : Sem Bool} (F : MethOk X.prog X.w X.K X.mg X.base k C m f fd ps g) (h1 : ps.length = 1) (hgd : X.A.guards = some []) (hr : Room k X.A) (ho : PM X o mo)
    (ht : eval (.Call (.Attribute o m apos) [] [] pos) X.env = (do
      let ov ← eval o X.env
      standAt apos.atName
      let (f, first) ← holding [ov] (getMethod ov m pl)
      callWith pos f first (backTo pos (starEach [] X.env)) (backToKw pos (keywordEach [] X.env))) := by rfl) :
    PM X (.Call (.Attribute o m apos) [] [] pos) (eMeth C m g mo eNil) := by
  have G := F.ok
  rw [h1] at G
  exact PE.imp (pe_methG0 (pl := pl) (PM.v ho) F.cl F.mt G hgd hr F.bd .nil pass0 ht) emeth0_go

/-! ### C(..) -/
theorem under_guards {A : Around} {C : Addr} {us : List Value} (h : A.guards = some []) : (A.under (.builtin "type.__call__" ⟨.ref C :: us, []⟩)).guards = some [] := by
  show pushGuards (Code.guards (.builtin "type.__call__" ⟨.ref C :: us, []⟩)) A.guards = some []
  have e : Code.guards (.builtin "type.__call__" ⟨.ref C :: us, []⟩) = [] := by
    unfold Code.guards
    rw [if_neg]
    show ¬ (Code.isGuard (.builtin "type.__call__" ⟨.ref C :: us, []⟩) = true)
    have : Code.isGuard (.builtin "type.__call__" ⟨.ref C :: us, []⟩) = false := by
      kernel_rfl
    rw [this]
    exact Bool.false_ne_true
  rw [e]
  exact h
theorem run_makeG {pins : List (Addr × Obj)} {σ : L2.St} {H : Hp} {s : Shared} {Q : VK} {us : List Value} {vs : List V} (M : Mk X.K C f) (F : FnG X.prog X.w X.K X.mg X.base CX k f fd ps sp) (hgd : X.A.guards = some []) (hr : Room (k + 1) X.A) (hb : Binds X.K fd ps ds) (hd : Vals dvs ds)
    (hx : Passes CX X E) (I : Inv X pins σ H s) (r : Vals vs us)
    (h : ∀ x dx, H x = none → H dx = none → dx ≠ x → sp (.ref x :: (vs ++ dvs)) (upd (upd H dx (.own x)) x (.ins C dx [])) (fun v H2 => v = .non ∧ Q (.ref x) H2) E) :
    wpAny (model X.prog X.w) X.A (call (.ref C) us) (EP X pins σ Q) X.xe s := by
  have hq := h (s.heap.objs.size + 1) s.heap.objs.size (I.hok.fresh (Nat.le_succ _)) (I.hok.fresh (Nat.le_refl _)) (Nat.ne_of_lt (Nat.lt_succ_self _))
  have I2 := Inv.made (C := C) I
  have r2 : Vals (V.ref (s.heap.objs.size + 1) :: (vs ++ dvs)) (Value.ref (s.heap.objs.size + 1) :: (us ++ ds)) := .cons rfl (r.append hd)
  have hl : (Value.ref (s.heap.objs.size + 1) :: us ++ ds).length = ps.length := r2.length.symm.trans (F.ln _ _ _ _ hq)
  refine wpAny_call (make_map (f := f) I.kIn M.makes M.init (beq_iff_eq.mp M.fn) (codeAny_mono (F.go _ X.stack _ _ ⟨Value.ref (s.heap.objs.size + 1) :: us, []⟩ (Value.ref (s.heap.objs.size + 1) :: (us ++ ds)) _ _ E (under_guards hgd) (hr.make C us [])
    (I2.env0.make C us []) (hb _ (Value.ref (s.heap.objs.size + 1) :: us) I2.kIn hl) r2 hq) ?_))
  rintro (e | (_ | _ | _ | u)) s' hq'
  · exact hx pins σ _ _ e s' I2 hq'
  · exact hq'.elim
  · exact hq'.elim
  · exact hq'.elim
  · obtain ⟨v, H', I3, rv, ev, q3⟩ := I2.after hq'
    cases ev
    exact ⟨rv, ⟨V.ref (s.heap.objs.size + 1), H', I3, rfl, q3⟩⟩
theorem pe_makeG (M : Mk X.K C f) (F : FnG X.prog X.w X.K X.mg X.base CX k f fd ps sp) (hgd : X.A.guards = some []) (hr : Room (k + 1) X.A) (hg : Gl X x) (hm : X.mg x = some (.ref C)) (hb : Binds X.K fd ps ds) (hd : Vals dvs ds) (hx : Passes CX X E)
    (ha : PA X (e :: es) t) (hdb : (x == ("__debug__" : Str)) = false := by decide) (he : starEach (e :: es) X.env = (false, eval e X.env) :: starEach es X.env := by rfl) (hpl : (backTo pos (starEach es X.env)).any (·.1) = false := by rfl) :
    PE X (.Call (.Name x p) (e :: es) [] pos) (tMake C sp dvs E t) := by
  constructor
  intro pins s σ H Q I h
  refine wpAny_Call_Name_kw (ld_glob I hg hm (PySem.W.callWith_K (h₀ := X.base) I.ok.mod.kin M.kp ?_ he hpl) hdb)
  exact thn (ha.run pos pins s σ H _ I h) fun us s1 ⟨vs, H1, I1, r, q⟩ => ⟨I1.kIn, run_makeG M F hgd hr hb hd hx I1 r q⟩
/-- C(..), its instance a closed thing -/
def eMake (C : Addr) (g : Fn) (ms : EM (List SV)) : EM R := ms.seq fun ss => fun _ M => match g (.mu M.length :: ss) (M ++ [.i C [] []]) with
  | some (.sv (.dt .non), M') => match M'[M.length]? with
    | some (.i C' _ _) => if C' = C then some (.sv (.dt (.obj C)), M'.take M.length) else none
    | _ => none
  | _ => none
theorem emake_go {n : Nat} {g : Fn} {ms : EM (List SV)} {E : XK} (O : ObjC X.K C) (hn : ∀ ρ M ss M', ms ρ M = some (ss, M') → ss.length + 1 = n) : ∀ σ H Q, tM X.K (eMake C g ms) σ H Q → tMake C (spM X.K n g) [] E (tA X.K ms) σ H Q := fun σ H Q ⟨Hk, ls, ρ, M, z, M', w, en, hm, q⟩ => by
  obtain ⟨ss, M1, h1, h2⟩ := seq_some hm
  refine ⟨Hk, ls, ρ, M, ss, M1, w, en, h1, fun vs Hk1 H1 w1 x1 r1 => ?_⟩
  intro x dx hx hdx hne
  rw [List.append_nil]
  split at h2
  · rename_i M2 hg
    split at h2
    · rename_i C' ns ds hM2
      split at h2
      · rename_i hC
        subst hC
        cases h2
        have fx := w1.fresh hx
        have wA : World X.K Hk1 (upd (upd H1 dx (.own x)) x (.ins C' dx [])) M1 ls := (w1.upd_new hdx).upd_new (by rw [upd_ne (Ne.symm hne)]; exact hx)
        have wB := wA.push (l := x) (o := .i C' [] []) fx.2 fx.1 ⟨dx, [], upd_same, rfl, .nil⟩
        have old : ∀ a, H1 a ≠ none → a ≠ x ∧ a ≠ dx := fun a h => ⟨fun z => h (z ▸ hx), fun z => h (z ▸ hdx)⟩
        refine ⟨Hk1, ls ++ [x], M1 ++ [.i C' [] []], .mu M1.length :: ss, _, M2, wB, .cons ⟨by rw [w1.len]; simp, x, by rw [w1.len, List.getElem?_append_right (Nat.le_refl _)]; simp, rfl⟩ ((SVs.more r1).up (by simp)), hn ρ M ss M1 h1, hg, ?_⟩
        intro v Hk2 H2 w2 x2 r2
        refine ⟨by cases (show Rp X.K Hk2 v .non from r2); rfl, ?_⟩
        have hlen : M1.length = ls.length := w1.len
        rw [hlen] at hM2
        obtain ⟨l, hl, dx', fs, hH, _, _⟩ := w2.ms _ _ hM2
        rw [List.getElem?_append_right (Nat.le_refl _)] at hl
        have el : x = l := by simpa using hl
        subst el
        have w3 := w2.cut
        have hk2 : Hk2 x = none := w2.dj x (List.mem_append_right _ (List.mem_singleton.mpr rfl))
        have x3 : Ext ls Hk1 H1 Hk2 H2 := by
          refine ⟨x2.kk, fun a o h hn => ?_, fun a h => ?_, fun a h => ?_⟩
          · obtain ⟨n1, n2⟩ := old a (by rw [h]; simp)
            refine x2.fr a o (by rw [upd_ne n1, upd_ne n2]; exact h) fun z => ?_
            rcases List.mem_append.mp z with z | z
            · exact hn z
            · exact n1 (List.mem_singleton.mp z)
          · rcases x2.gr a h with h | h
            · exact .inl h
            · right
              cases e : H1 a with
              | none => rfl
              | some o =>
                obtain ⟨n1, n2⟩ := old a (by rw [e]; simp)
                rw [upd_ne n1, upd_ne n2, e] at h
                cases h
          · obtain ⟨n1, n2⟩ := old a h
            exact x2.st a (by rw [upd_ne n1, upd_ne n2]; exact h)
        rw [hlen] at q
        refine q (.ref x) (upd Hk2 x (.ins C' dx' fs)) H2 (w3.freeze fx.2 hH hk2) (x1.trans (x3.freeze hx hk2)) ?_
        exact Rp.obj upd_same O
      · cases h2
    · cases h2
  · cases h2
/-- a class that is made by its __init__'s mirror -/
structure MakeOk (P : Program) (w : PySem.World) (K : PySem.W.Frag) (mg : Str → Option Value) (base : Heap) (k : Nat) (x : Str) (C f : Addr) (fd : FuncData) (ps : List Str) (g : Fn) : Prop where
  gl : mg x = some (.ref C)
  ob : ObjC K C
  mr : Mk K C f
  bd : Binds K fd ps []
  ok : FnG P w K mg base CX0 k f fd ps (spM K ps.length g)
theorem pm_make {g : Fn} {ms : EM (List SV)} (F : MakeOk X.prog X.w X.K X.mg X.base k x C f fd ps g) (hgd : X.A.guards = some []) (hr : Room (k + 1) X.A) (ha : PAm X (e :: es) ms) (hn : ∀ ρ M ss M', ms ρ M = some (ss, M') → ss.length + 1 = ps.length)
    (hg : Gl X x := by rfl) (hdb : (x == ("__debug__" : Str)) = false := by decide) (he : starEach (e :: es) X.env = (false, eval e X.env) :: starEach es X.env := by rfl) (hpl : (backTo pos (starEach es X.env)).any (·.1) = false := by rfl) :
    PM X (.Call (.Name x p) (e :: es) [] pos) (eMake C g ms) := PE.imp (pe_makeG F.mr F.ok hgd hr hg F.gl F.bd .nil pass0 ha hdb he hpl) (emake_go F.ob hn)
end
end Dy

set_option Elab.async false
set_option linter.all false
set_option maxRecDepth 100000
set_option maxHeartbeats 4000000
/-! Layer Dy, part 14: calls and loops over empty things, dict(pairs). -/
namespace Dy
open PySem L2 PySem.Spec PyProof.Rows

/-! ### max([], default = d) -/
theorem args_maxD (a d : Value) : argsOk "max" ⟨[a], [(Str.ofString "default", d)]⟩ := by unfold argsOk; kernel_rfl
theorem call_kw_tree {prog : Program} {w : PySem.World} {A : Around} {E : Value → Shared → Prop} {s : Shared} {id : String} {b : Builtin} {args : List Value} {kw : List (Str × Value)} {Q : Value → Shared → Prop} (hk : builtinKind id = none) (hp : plainId id = true)
    (hb : entryFor table id = some b) (ha : argsOk id ⟨args, kw⟩)
    (hc : wpAny (model prog w) A.in1 (b ⟨args, kw⟩) (fun fin s' => match fin with
      | .done f => (match (Except.ok f : Result) with | .ok (.ret v) => Q v s' | .ok _ => False | .error e => E e s')
      | .again c' => c'.quiet = true ∧ codeAny (model prog w) A c' (fun r s' => match r with | .ok (.ret v) => Q v s' | .ok _ => False | .error e => E e s') s') E s) :
    wpAny (model prog w) A (call (.builtin id) args kw) Q E s := by
  refine wpAny_call (codeAny_call_builtin hp hb ?_)
  simp only [checkBuiltinCall, hk]
  cases hsig : Manifest.signature? id with
  | none => exact wpAny_pure hc
  | some sig =>
    simp only [argsOk, hsig] at ha
    have h2 : Bind.checkArgs id sig ⟨args, kw⟩ = pure () := ha
    show wpAny _ A.in1 (Bind.checkArgs id sig ⟨args, kw⟩) _ _ s
    rw [h2]
    exact wpAny_pure hc
theorem max_default0 {prog : Program} {w : PySem.World} {A : Around} {E : Value → Shared → Prop} {s : Shared} {l : Addr} {d : Value} {Q : Value → Shared → Prop} (hh : A.handled = none) (hl : s.heap.IsList l #[])
    (h : ∀ h' tk, (∀ b o, s.heap.get? b = some o → h'.get? b = some o) → Q d { s with heap := h', toks := tk }) : wpAny (model prog w) A (call (.builtin "max") [.ref l] [(Str.ofString "default", d)]) Q E s := by
  have hname : (toString "max" ++ toString ".loop" : String) = "max.loop" := by decide
  have e0 : intItems #[] = #[] := by simp [intItems]
  have hl2 : s.heap.IsList l (intItems #[]) := by rw [e0]; exact hl
  refine call_kw_tree F.kind_max F.plain_max F.entry_max (args_maxD _ _) ?_
  show wpAny _ A.in1 (Builtin.Builtins.bindParams "max" ["key", "default"] 0 ⟨[], [(Str.ofString "default", d)]⟩ >>= _) _ _ s
  refine wpAny_bind (wpAny_of_eq (show Builtin.Builtins.bindParams "max" ["key", "default"] 0 ⟨[], [(Str.ofString "default", d)]⟩ = pure [none, some d] from rfl) ?_)
  refine wpAny_bind (wpAny_pure ?_)
  refine wpAny_bind (iter_intList hl2 fun s₂ e st hfp hlI => ?_)
  subst e
  rw [e0] at st
  have W := Walks.list (prog := prog) (w := w) (A := A.in1) hh _ l hlI #[]
  refine wpAny_bind (wpAny_newObj_type ?_)
  rw [hname]
  refine wpAny_pure ⟨plainId_quiet F.plain_max_loop _, ?_⟩
  refine codeAny_builtin F.entry_max_loop ?_
  rw [Around.under_plainId F.plain_max_loop _]
  show wpAny _ A.in1 (seqItems? (.ref _) >>= _) _ _ _
  refine wpAny_bind (wpAny_seqItems (Heap.get?_push_size _ rfl) rfl ?_)
  show wpAny _ A.in1 (tryCatch (pyNext (.ref _)) _ >>= _) _ _ _
  refine wpAny_bind (wpAny_tryCatch (W.done _ _ _ (W.frame _ _ _ st fun b _ o e => Heap.get?_push_of_some _ e) fun h' tk hk' => ?_))
  show wpAny _ A.in1 (rule _ >>= _) _ _ _
  refine wpAny_bind (wpAny_rule ?_)
  refine wpAny_pure (h h' tk fun b o e => ?_)
  refine hk' b o (fun z => ?_) (Heap.get?_push_of_some _ (Heap.get?_push_of_some _ e))
  have hb : b = s.heap.objs.size := by simpa using z
  exact absurd hb (Nat.ne_of_lt (Heap.lt_size e))

/-! ### mirrors -/
section
variable {X : Cx} {e e2 tg : Expr} {es : List Expr} {ms : EM (List SV)} {me : EM R} {p p2 q pos kpos : Pos} {st : Stmt}
/-- len(set(e)), no text or one -/
def lenSetS (M : MS) (s : SV) : Option D := match itemsD M s with
  | some ds => match dStrs ds with
    | some ys => if ys.length ≤ 1 then some (.int ys.length) else none
    | none => none
  | none => none
def eLenSet (m : EM R) : EM R := (fz m).seq fun s => fun _ M => match lenSetS M s with
  | some d => some (.sv (.dt d), M)
  | none => none
theorem pm_lenSet (B : Blt X.mg) (hc : X.calm = true) (h : PM X e me) (hg : Gl X "len" := by rfl) (hg2 : Gl X "set" := by rfl) (na : starEach [e] X.env = (false, eval e X.env) :: starEach [] X.env := by rfl) : PM X (.Call (.Name "len" p) [.Call (.Name "set" p2) [e] [] q] [] pos) (eLenSet me) :=
  PE.imp (pe_lenSet hc hg (B _ (by decide +kernel)) hg2 (B _ (by decide +kernel)) (PM.v h) na) fun σ H Q ⟨Hk, ls, ρ, M, r, M', w, en, hm, q⟩ => by
  obtain ⟨s, M1, h1, h2⟩ := seq_some hm
  refine ⟨Hk, ls, ρ, M, s, M1, w, en, h1, fun v Hk1 H1 w1 x1 r1 => ?_⟩
  split at h2
  · rename_i d hd
    cases h2
    unfold lenSetS at hd
    split at hd
    · rename_i ds hds
      split at hd
      · rename_i ys hy
        split at hd
        · rename_i hz
          cases hd
          obtain ⟨b, ws, rfl, hb, ra⟩ := itemsD_ok w1 r1 hds
          have := dStrs_ok ra hy
          subst this
          exact ⟨b, ys, rfl, hb, hz, q _ Hk1 H1 w1 x1 (Rp.int _)⟩
        · cases hd
      · cases hd
    · cases hd
  · cases h2
/-- sorted(e), nothing in it -/
def sorted0S (M : MS) (s : SV) : Option R := match listD M s with
  | some [] => some (.fr [])
  | some _ => none
  | none => match s with
    | .dt (.dct [] []) => some (.fr [])
    | _ => none
def rSorted0 (K : PySem.W.Frag) : List V → Hp → VK → Prop := fun vs H Q => ∃ a, vs = [.ref a] ∧ (H a = some (.lst []) ∨ Rd H a (.dK [])) ∧ ∀ p, H p = none → Q (.ref p) (upd H p (.lst []))
theorem cr_sorted0 (hc : X.calm = true) : CallR X (.builtin "sorted") (rSorted0 X.K) := by
  intro pins s σ H vs us Q I r h
  obtain ⟨a, rfl, hs | hs, q⟩ := h
  · refine cr_sortedS pins s σ H _ us Q I r ⟨a, [], rfl, SqL.of hs, by decide, fun ys p hp _ hn => ?_⟩
    cases List.perm_nil.mp hp
    exact q p hn
  · refine call_sortedD hc pins s σ H _ us Q I r ⟨a, [], [], rfl, hs, rfl, by decide, fun ys p hp _ hn => ?_⟩
    cases List.perm_nil.mp hp
    exact q p hn
theorem calld_sorted0 {K : PySem.W.Frag} : CallD K (rSorted0 K) (g1 sorted0S) := CallD.one fun Hk H M ls v s z Q w r e q => by
  unfold sorted0S at e
  split at e
  · rename_i hd
    cases e
    obtain ⟨a, vs, rfl, hq, ra⟩ := listD_ok w r hd
    cases ra
    exact ⟨a, rfl, .inl hq, fun p hp => q.newL w hp .nil⟩
  · cases e
  · split at e
    · cases e
      cases r with
      | dct h hk hx ha =>
        rename_i a kvs xs
        have : kvs = [] := List.map_eq_nil_iff.mp hk
        subst this
        exact ⟨_, rfl, .inr (.inl (w.sub _ _ h)), fun p hp => q.newL w hp .nil⟩
    · cases e
theorem pm_sorted0 (B : Blt X.mg) (hc : X.calm = true) (ha : PAm X [e] ms) (hg : Gl X "sorted" := by rfl) (he : starEach (e :: []) X.env = (false, eval e X.env) :: starEach [] X.env := by rfl) : PM X (.Call (.Name "sorted" p) [e] [] pos) (eCall (g1 sorted0S) ms) := pm_callB (cr_sorted0 hc) calld_sorted0 hg (B _ (by decide +kernel)) PyProof.Rows.boot_sorted ha (by decide) (by decide) he rfl
/-- max(e, default = d), nothing in e -/
def rMax0 : List V → List V → Hp → VK → Prop := fun vs zs H Q => ∃ a z, vs = [.ref a] ∧ zs = [z] ∧ H a = some (.lst []) ∧ Q z H
theorem cr_max0 (hc : X.calm = true) : CallRK X (.builtin "max") [Str.ofString "default"] rMax0 := by
  intro pins s σ H vs zs us ws Q I r rz h
  obtain ⟨a, z, rfl, rfl, hs, q⟩ := h
  obtain rfl := Vals.ref1 r
  obtain ⟨w1, rfl, e1⟩ := vals1 rz
  obtain ⟨its, rv, hl, _⟩ := I.list (SqL.of hs)
  cases rv
  exact max_default0 (I.ok.hd hc) hl.isList fun h' tk hk => ⟨z, H, I.kept hk, e1, q⟩
def eMax0 (me md : EM R) : EM R := (fz me).seq fun s => (fz md).seq fun t => fun _ M => match listD M s with
  | some [] => some (.sv t, M)
  | _ => none
theorem pm_max0 {md : EM R} {nm : Option Str} (B : Blt X.mg) (hc : X.calm = true) (h : PM X e me) (hd : PM X e2 md) (hg : Gl X "max" := by rfl)
    (he : backTo pos (starEach (e :: []) X.env) = (false, eval e X.env) :: backTo pos (starEach [] X.env) := by rfl) (hpl : (backTo pos (starEach (e :: []) X.env)).any (·.1) = false := by rfl) (hst : starEach (e :: []) X.env = (false, eval e X.env) :: starEach [] X.env := by rfl)
    (hall : (backToKw pos (keywordEach [⟨nm, e2, kpos⟩] X.env)).all (·.1.isSome) = true := by rfl) (hnone : (backToKw pos (keywordEach [⟨nm, e2, kpos⟩] X.env)).any (·.1.isNone) = false := by rfl) (hks : (backToKw pos (keywordEach [⟨nm, e2, kpos⟩] X.env)).filterMap (·.1) = [Str.ofString "default"] := by rfl) :
    PM X (.Call (.Name "max" p) [e] [⟨nm, e2, kpos⟩] pos) (eMax0 me md) :=
  PE.imp (pe_callBK (cr_max0 hc) hg (B _ (by decide +kernel)) PyProof.Rows.boot_max (pa_cons (PM.v h) pa_nil hst) (pk_cons (PM.v hd) pk_nil) (by decide) (by decide) he hpl hall hnone hks) fun σ H Q ⟨Hk, ls, ρ, M, r, M', w, en, hm, q⟩ => by
  obtain ⟨s, M1, h1, h2⟩ := seq_some hm
  obtain ⟨t, M2, h3, h4⟩ := seq_some h2
  refine ⟨Hk, ls, ρ, M, s, M1, w, en, h1, fun v Hk1 H1 w1 x1 r1 => ?_⟩
  refine ⟨Hk1, ls, ρ, M1, t, M2, w1, en.mono x1.kk, h3, fun u Hk2 H2 w2 x2 r2 => ?_⟩
  split at h4
  · rename_i hd
    cases h4
    obtain ⟨a, vs, rfl, hq, ra⟩ := listD_ok w2 (r1.mono x2.kk) hd
    cases ra
    exact ⟨a, u, rfl, rfl, hq, q u Hk2 H2 w2 (x1.trans x2) r2⟩
  · cases h4
/-! ### dict(pairs) -/
def swapD (k : Key) (d : D) : List Key → List D → List D
  | j :: ks, x :: xs => (if j = k then d else x) :: swapD k d ks xs
  | _, _ => []
def putKD (k : Key) (d : D) (ks : List Key) (vs : List D) : List Key × List D := if (ks.any fun j => decide (j = k)) = true then (ks, swapD k d ks vs) else (ks ++ [k], vs ++ [d])
theorem swapD_ok {K : PySem.W.Frag} {Hk : Hp} {k : Key} {v : V} {d : D} (rv : Rp K Hk v d) : ∀ {kvs : List (Key × V)} {ds : List D}, RpA K Hk (kvs.map (·.2)) ds → RpA K Hk ((kvs.map fun kv => if kv.1 = k then (kv.1, v) else kv).map (·.2)) (swapD k d (kvs.map (·.1)) ds)
  | [], _, r => by cases r; exact .nil
  | (j, u) :: kvs, _, .cons (d := x) (ds := xs) r t => by
    by_cases h : j = k
    · simp only [List.map_cons, swapD, if_pos h]
      exact .cons rv (swapD_ok rv t)
    · simp only [List.map_cons, swapD, if_neg h]
      exact .cons r (swapD_ok rv t)
theorem any_contains (k : Key) (kvs : List (Key × V)) : (kvs.any fun kv => decide (kv.1 = k)) = (kvs.map (·.1)).any (fun j => decide (j = k)) := by
  rw [List.any_map]
  rfl
theorem putKD_ok {K : PySem.W.Frag} {Hk : Hp} {k : Key} {v : V} {d : D} {kvs : List (Key × V)} {ds : List D} (rv : Rp K Hk v d) (r : RpA K Hk (kvs.map (·.2)) ds) :
    (putK kvs k v).map (·.1) = (putKD k d (kvs.map (·.1)) ds).1 ∧ RpA K Hk ((putK kvs k v).map (·.2)) (putKD k d (kvs.map (·.1)) ds).2 := by
  have e := any_contains k kvs
  unfold putK putKD
  rw [e]
  split
  · refine ⟨?_, swapD_ok rv r⟩
    rw [List.map_map]
    refine List.map_congr_left fun a _ => ?_
    show (if a.1 = k then (a.1, v) else a).1 = a.1
    split <;> rfl
  · rw [List.map_append, List.map_append]
    exact ⟨rfl, r.append (.cons rv .nil)⟩
def pairsD : List D → Option (List (Key × D))
  | [] => some []
  | .tup [a, b] :: r => match keyD (.dt a), pairsD r with
    | some k, some ps => some ((k, b) :: ps)
    | _, _ => none
  | _ => none
theorem pairsD_ok {K : PySem.W.Frag} {Hk H : Hp} (sub : Same Hk H) : ∀ {vs : List V} {ds : List D} {kds : List (Key × D)}, RpA K Hk vs ds → pairsD ds = some kds →
    ∃ (ps : List Addr) (kvs : List (Key × V)), vs = ps.map V.ref ∧ Paired (fun p kv => SqT K H p [kV kv.1, kv.2]) ps kvs ∧ kvs.map (·.1) = kds.map (·.1) ∧ RpA K Hk (kvs.map (·.2)) (kds.map (·.2))
  | _, _, _, .nil, e => by cases e; exact ⟨[], [], rfl, .nil, rfl, .nil⟩
  | _, _, _, .cons (d := d) (ds := ds) r t, e => by
    unfold pairsD at e
    split at e
    · cases ‹_ :: _ = []›
    · rename_i a b r' heq
      cases heq
      split at e
      · rename_i k ps hk hp
        cases e
        obtain ⟨qs, kvs, rfl, h1, h2, h3⟩ := pairsD_ok sub t hp
        cases r with
        | tup hq ra =>
          rename_i p xs
          cases ra with
          | cons ra1 ra2 =>
            cases ra2 with
            | cons ra2 ra3 =>
              cases ra3
              have ek := keyD_ok (K := K) (Hk := Hk) (ls := []) (n := 0) (s := .dt a) ra1 hk
              subst ek
              exact ⟨p :: qs, (k, _) :: kvs, rfl, .cons (same_t sub hq) h1, by rw [List.map_cons, h2]; rfl, .cons ra2 h3⟩
      · cases e
    · cases e
def mergeD (ks : List Key) (vs : List D) : List (Key × D) → List Key × List D
  | [] => (ks, vs)
  | (k, d) :: r => mergeD (putKD k d ks vs).1 (putKD k d ks vs).2 r
theorem mergeD_ok {K : PySem.W.Frag} {Hk : Hp} : ∀ {more : List (Key × V)} {kds : List (Key × D)} {kvs : List (Key × V)} {ds : List D}, more.map (·.1) = kds.map (·.1) → RpA K Hk (more.map (·.2)) (kds.map (·.2)) → RpA K Hk (kvs.map (·.2)) ds →
    (mergeK kvs more).map (·.1) = (mergeD (kvs.map (·.1)) ds kds).1 ∧ RpA K Hk ((mergeK kvs more).map (·.2)) (mergeD (kvs.map (·.1)) ds kds).2
  | [], [], _, _, _, _, r => ⟨rfl, r⟩
  | [], _ :: _, _, _, e, _, _ => by cases e
  | _ :: _, [], _, _, e, _, _ => by cases e
  | (k, v) :: more, (j, d) :: kds, kvs, ds, e, .cons r1 r2, r => by
    rw [List.map_cons, List.map_cons] at e
    injection e with e1 e2
    have e1' : k = j := e1
    subst e1'
    obtain ⟨h1, h2⟩ := putKD_ok (k := k) (v := v) (d := d) r1 r
    have ih := mergeD_ok (kvs := putK kvs k v) e2 r2 h2
    rw [h1] at ih
    exact ih
def dictPS (M : MS) (s : SV) : Option R := match listD M s with
  | some ds => match pairsD ds with
    | some kds => some (.fd (mergeD [] [] kds).1 (mergeD [] [] kds).2)
    | none => none
  | none => none
theorem calld_dictP {K : PySem.W.Frag} : CallD K (fun xs H Q => ∃ (a : Addr) (ps : List Addr) (kvs : List (Key × V)), xs = [.ref a] ∧ SqL K H a (ps.map V.ref) ∧ Paired (fun p kv => SqT K H p [kV kv.1, kv.2]) ps kvs ∧
    ∀ p, H p = none → Q (.ref p) (upd H p (.dK (mergeK [] kvs)))) (g1 dictPS) := CallD.one fun Hk H M ls v s z Q w r e q => by
  unfold dictPS at e
  split at e
  · rename_i ds hd
    split at e
    · rename_i kds hp
      cases e
      obtain ⟨a, vs, rfl, hq, ra⟩ := listD_ok w r hd
      obtain ⟨ps, kvs, rfl, h1, h2, h3⟩ := pairsD_ok w.sub ra hp
      obtain ⟨m1, m2⟩ := mergeD_ok (kvs := []) (ds := []) h2 h3 .nil
      exact ⟨a, ps, kvs, rfl, SqL.of hq, h1, fun p hp => q.newD w hp m1 m2⟩
    · cases e
  · cases e
theorem pm_dictP (B : Blt X.mg) (hc : X.calm = true) (ha : PAm X [e] ms) (hg : Gl X "dict" := by rfl) (he : starEach (e :: []) X.env = (false, eval e X.env) :: starEach [] X.env := by rfl) : PM X (.Call (.Name "dict" p) [e] [] pos) (eCall (g1 dictPS) ms) := pm_callTy (call_dictP hc) calld_dictP hg (B _ (by decide +kernel)) PyProof.Rows.boot_dict ha (by decide) (by decide) he rfl
end
/-! ### loops over nothing -/
section
variable {X : Cx} {e tg : Expr} {pos apos cpos fpos : Pos}
theorem pg_none : PG X tg (fun _ _ _ _ => False) := ⟨fun _ _ _ _ _ _ _ _ _ h => h.elim⟩
theorem pss_none {body : List Stmt} : PSs X body (fun _ _ _ => False) := ⟨fun _ _ _ _ _ _ h => h.elim⟩
theorem pe_none : PE X e (fun _ _ _ => False) := ⟨fun _ _ _ _ _ _ h => h.elim⟩
theorem pts_none {es : List Expr} : PTs X es (fun _ _ _ => False) := ⟨fun _ _ _ _ _ _ h => h.elim⟩
theorem pi_none : PI X tg e (fun _ _ _ => False) := ⟨fun _ _ _ _ _ _ h => h.elim⟩
/-- for .. in x.f.items(), nothing in it -/
def sForFld0 (C : Addr) (i : Nat) (f : Str) : SM := fun ρ M => match eFld C f (eVar i) ρ M with
  | some (.sv (.dt (.dct [] [])), _) => some (.nx ρ M)
  | _ => none
theorem psm_forFld0 {x : Str} {np : Pos} {C : Addr} {i : Nat} {f : Str} {elts : List Expr} {kk : Nat} {tpos : Pos} {body : List Stmt} (hp : PassesOwn (model X.prog X.w) X.A X.env X.xe) (hc : X.calm = true) (c : Cls X.K C) (n : NoAttr X.K C f) (hx : PE X (.Name x np) (tVar i))
    (hb : attributeBase (.Name x np) f X.env (eval (.Name x np) X.env) = eval (.Name x np) X.env := by rfl) (hbase : attributeBase (.Attribute (.Name x np) f fpos) "items" X.env (eval (.Attribute (.Name x np) f fpos) X.env) = eval (.Attribute (.Name x np) f fpos) X.env := by rfl) (hline : (apos.endLine == cpos.line) = true := by rfl)
    (hs : ∀ y, foldedSetIterable (.Call (.Attribute (.Attribute (.Name x np) f fpos) "items" apos) [] [] cpos) X.env y = pure y := by intro _; rfl) :
    PSm X (.For (.Tuple elts kk tpos) (.Call (.Attribute (.Attribute (.Name x np) f fpos) "items" apos) [] [] cpos) body [] pos) (sForFld0 C i f) :=
  PS.imp (ps_lock (ps_for hp hc (pi_items (pe_fld hx hb) hbase hline) pg_none pss_none hs)) fun E σ H ⟨Hk, ls, ρ, M, o, w, en, hm, q⟩ => by
  unfold sForFld0 at hm
  split at hm
  · rename_i M' h1
    cases hm
    obtain ⟨s, M1, h2, h3⟩ := seq_some h1
    obtain ⟨a, M2, h4, h5⟩ := seq_some h2
    obtain ⟨s', hs', e⟩ := eVar_some h4
    cases e
    cases h5
    split at h3
    · rename_i d hd
      cases h3
      unfold fldS at hd
      split at hd
      · rename_i k C' ns ds hi
        split at hd
        · rename_i hC
          subst hC
          obtain ⟨v, hv, rv⟩ := en.2 i _ hs'
          obtain ⟨l, dx, fs, rfl, hl, hM, hH, hn, hr⟩ := muI_ok w rv hi
          subst hn
          obtain ⟨u, hu, ru⟩ := lookF_ok hr hd
          cases ru with
          | dct h hk hx ha =>
            rename_i a kvs xs
            have : kvs = [] := List.map_eq_nil_iff.mp hk
            subst this
            have hHa := w.sub _ _ h
            have nl : l ≠ a := ne_of hH hHa (by intro z; cases z)
            refine ⟨a, .dK [], hHa, trivial, fun od => ?_⟩
            refine ⟨.ref l, hv, l, C', dx, fs, .ref a, rfl, by rw [upd_ne nl]; exact hH, c, n, hu, a, od, [], rfl, upd_same, ?_⟩
            refine ⟨fun i m σ' H' => i = 0 ∧ σ' = σ ∧ H' = upd H a (.frz od (.dK [])), ⟨0, rfl, rfl, rfl⟩, ?_⟩
            rintro i m σ' H' ⟨rfl, rfl, rfl⟩
            refine .inl ⟨⟨upd_same, Nat.le_refl _⟩, upd_same, ?_⟩
            have eH : upd (upd H a (.frz od (.dK []))) a (.dK []) = H := by
              rw [upd_upd]
              funext b
              by_cases hb : b = a
              · subst hb; rw [upd_same, hHa]
              · rw [upd_ne hb]
            rw [eH]
            exact q σ' Hk H ls w (ExtS.refl _ _ _) en
        · cases hd
      · cases hd
    · cases h3
  · cases hm
/-- [.. for .. in e for .. in ..], nothing in e -/
def eComp20 (ms : EM Src) : EM R := fun ρ M => match ms ρ M with
  | some (src, M') => if src.stop M' 0 = true then some (.fr [], M') else none
  | none => none
theorem pm_comp20 {elt iter tg1 iter1 : Expr} {ifs ifs1 : List Expr} {scope : Scope} {own : List (Str × Nat)} {ms : EM Src} (hc : X.calm = true) (hN : X.N.Nodup) (hi : PIm X tg iter ms) (ok : BlkOk X.N X.env.scope scope own)
    (hs : ∀ x, foldedSetIterable iter X.env x = pure x := by intro _; rfl) (hs1 : ∀ env x, foldedSetIterable iter1 env x = pure x := by intro _ _; rfl) : PM X (.ListComp elt [⟨tg, iter, ifs, 0⟩, ⟨tg1, iter1, ifs1, 0⟩] scope pos) (eComp20 ms) :=
  PE.imp (pe_lc2 (vs1 := []) hc hN hi ok (fun _ h => nomatch h) (fun _ _ _ _ _ => pg_none) (fun _ _ _ _ _ => pts_none) (fun _ _ _ _ _ => pi_none) (fun _ _ _ _ _ => pg_none) (fun _ _ _ _ _ => pts_none) (fun _ _ _ _ _ => pe_none) hs hs1) fun σ H Q ⟨Hk, ls, ρ, M, r, M', w, en, hm, q⟩ => by
  unfold eComp20 at hm
  split at hm
  · rename_i src M1 h1
    split at hm
    · rename_i hst
      cases hm
      refine ⟨Hk, ls, ρ, M, src, _, w, en, h1, fun J Hk1 H1 w1 x1 sr => ?_⟩
      intro D hD
      refine ⟨fun i m H' => i = 0 ∧ H' = upd H1 D (.lst []), ⟨0, rfl, rfl⟩, ?_⟩
      rintro i m H' ⟨rfl, rfl⟩
      have wD := w1.upd_new (o := .lst []) hD
      obtain ⟨_, ss⟩ := sr Hk1 (upd H1 D (.lst [])) _ ls wD (fun _ _ h => h) ⟨[], by simp⟩
      exact .inl ⟨ss 0 hst, (q.back x1).newL w1 hD .nil⟩
    · cases hm
  · cases hm
/-- {.. : .. for .. in e}, nothing in e -/
def eDcE (ms : EM Src) : EM R := fun ρ M => match ms ρ M with
  | some (src, M') => if src.stop M' 0 = true then some (.fd [] [], M') else none
  | none => none
theorem pm_dcE {kx vx iter : Expr} {ifs : List Expr} {scope : Scope} {own : List (Str × Nat)} {ms : EM Src} (hc : X.calm = true) (hN : X.N.Nodup) (hi : PIm X tg iter ms) (ok : BlkOk X.N X.env.scope scope own)
    (hs : ∀ x, foldedSetIterable iter X.env x = pure x := by intro _; rfl) : PM X (.DictComp kx vx [⟨tg, iter, ifs, 0⟩] scope pos) (eDcE ms) :=
  PE.imp (pe_dc hc hN hi ok (fun _ _ _ _ _ => pg_none) (fun _ _ _ _ _ => pts_none) (fun _ _ _ _ _ => pe_none) (fun _ _ _ _ _ => pe_none) hs) fun σ H Q ⟨Hk, ls, ρ, M, r, M', w, en, hm, q⟩ => by
  unfold eDcE at hm
  split at hm
  · rename_i src M1 h1
    split at hm
    · rename_i hst
      cases hm
      refine ⟨Hk, ls, ρ, M, src, _, w, en, h1, fun J Hk1 H1 w1 x1 sr => ?_⟩
      intro D hD
      refine ⟨fun i m H' => i = 0 ∧ H' = upd H1 D (.dK []), ⟨0, rfl, rfl⟩, ?_⟩
      rintro i m H' ⟨rfl, rfl⟩
      have wD := w1.upd_new (o := .dK []) hD
      obtain ⟨_, ss⟩ := sr Hk1 (upd H1 D (.dK [])) _ ls wD (fun _ _ h => h) ⟨[], by simp⟩
      exact .inl ⟨ss 0 hst, (q.back x1).newD w1 hD rfl .nil⟩
    · cases hm
  · cases hm
end
end Dy

set_option Elab.async false
set_option linter.all false
set_option maxRecDepth 100000
set_option maxHeartbeats 4000000
/-! Layer Dy, part 15: looks at the head's leavings; the law's end by mirrors. -/
namespace Dy
open PySem L2 PySem.Spec PyProof.Rows
def meth (s : Stmt) (j : Nat) : Stmt := match s with
  | .ClassDef _ _ _ b _ _ _ _ _ _ _ => b.getD j (.Pass ⟨0, 0, 0, 0⟩)
  | _ => .Pass ⟨0, 0, 0, 0⟩
/-! ### classes -/
def objB (x : Str) (K : PySem.W.Frag) : Bool := (He.Fa.cls x).ok K && ((He.Fa.glo x).ok K && (He.eqO (PySem.W.findIn K (.ref (He.ga K x)) "__class__") (some (some (.builtin "object.__class__"))) && (He.eqO (PySem.W.specialIn K (.builtin "object.__class__") "__get__") (some (some (.builtin "getset_descriptor.__get__"))) &&
  (decide (PySem.W.takesIn K (.builtin "object.__class__") = some true) && (decide (PySem.W.mroIn K (He.ga K x) (.type "object") = some true) && tysB.all fun T => decide (PySem.W.kitOne K (.ref (He.ga K x)) (.type T) = some false))))))
def isiB (x : Str) (K : PySem.W.Frag) : Bool := (tysN.all fun T => decide (PySem.W.kitOne K (.type T) (.ref (He.ga K x)) = some false)) && decide (PySem.W.kitOne K (.ref (He.ga K x)) (.ref (He.ga K x)) = some true)
section
variable {K : PySem.W.Frag} {h : Heap} {mg : Str → Option Value} {x : Str}
theorem objB_ok (c : objB x K = true) : ObjC K (He.ga K x) := by
  obtain ⟨c1, c⟩ := He.ba c
  obtain ⟨_, c⟩ := He.ba c
  obtain ⟨c2, c⟩ := He.ba c
  obtain ⟨c3, c⟩ := He.ba c
  obtain ⟨c4, c⟩ := He.ba c
  obtain ⟨c5, c6⟩ := He.ba c
  exact ⟨He.cls_ok c1, He.eqO_ok c2, He.eqO_ok c3, of_decide_eq_true c4, of_decide_eq_true c5, fun T hT => of_decide_eq_true (List.all_eq_true.mp c6 T hT)⟩
theorem objB_cl (c : objB x K = true) : Cls K (He.ga K x) := (objB_ok c).cl
theorem objB_gl (X : K.In h) (G : h.Ns mainGlobals mg) (c : objB x K = true) : mg x = some (.ref (He.ga K x)) := He.glo_ok X G (He.ba (He.ba c).2).1
theorem isiB_ok (c : isiB x K = true) : IsiC K (He.ga K x) := ⟨fun T hT => of_decide_eq_true (List.all_eq_true.mp (He.ba c).1 T hT), of_decide_eq_true (He.ba c).2⟩
/-! ### a tuple of texts -/
def strsB : List Str → List Value → Bool
  | [], [] => true
  | z :: zs, .str y _ :: us => decide (z = y) && strsB zs us
  | _, _ => false
theorem strsB_ok : ∀ {zs : List Str} {us : List Value}, strsB zs us = true → Vals (zs.map V.str) us
  | [], [], _ => .nil
  | [], _ :: _, h => by cases h
  | _ :: _, [], h => by cases h
  | z :: zs, u :: us, h => by
    cases u with
    | str y t =>
      obtain ⟨h1, h2⟩ := He.ba (show (decide (z = y) && strsB zs us) = true from h)
      have e : z = y := of_decide_eq_true h1
      subst e
      exact .cons ⟨t, rfl⟩ (strsB_ok h2)
    | _ => cases h
def tupB (x : Str) (zs : List Str) (K : PySem.W.Frag) : Bool := (He.Fa.glo x).ok K && match K.lookup (He.ga K x) with
  | some ⟨.type c, none, .seq its _, _⟩ => decide (c = "tuple") && (decide (zs.length ≤ 1000) && strsB zs its.toList)
  | _ => false
theorem tupB_ok {zs : List Str} (X : K.In h) (G : h.Ns mainGlobals mg) (c : tupB x zs K = true) : ∃ a, mg x = some (.ref a) ∧ ∀ H, SqT K H a (zs.map V.str) := by
  obtain ⟨c1, c2⟩ := He.ba c
  refine ⟨_, He.glo_ok X G c1, fun H => ?_⟩
  split at c2
  · rename_i c its n sl q
    obtain ⟨d1, d2⟩ := He.ba c2
    obtain ⟨d2, d3⟩ := He.ba d2
    have e : c = "tuple" := of_decide_eq_true d1
    have r := strsB_ok d3
    have hl : zs.length = its.size := by
      have := r.length
      simpa using this
    refine .inr ⟨_, its, n, q, by rw [e], rfl, ?_, r⟩
    have : zs.length ≤ 1000 := of_decide_eq_true d2
    rw [← hl, sizeLine_eq]
    omega
  · cases c2
end
/-! ### the defs of the text -/
theorem SaysX.all {chk : PySem.W.Frag → Bool} {fn : List He.DefD} {K : PySem.W.Frag} (c : SaysX chk fn K) : ∃ fds : Nat → FuncData, ∀ (i : Nat) (d : He.DefD), fn[i]? = some d → FunD K d.name d.qual d.params d.body d.scope (d.dvs K) (d.kws K) (He.fAd K d.at_) (fds i) := by
  have z : ∀ i : Nat, ∃ fd, ∀ d : He.DefD, fn[i]? = some d → FunD K d.name d.qual d.params d.body d.scope (d.dvs K) (d.kws K) (He.fAd K d.at_) fd := fun i => by
    cases q : fn[i]? with
    | none => exact ⟨default, fun d e => by cases e⟩
    | some d =>
      obtain ⟨fd, F⟩ := c.dfn i q
      exact ⟨fd, fun d' e => by cases e; exact F⟩
  exact ⟨fun i => Classical.choose (z i), fun i => Classical.choose_spec (z i)⟩
theorem FnG.zero {P : Program} {w : PySem.World} {K : PySem.W.Frag} {mg : Str → Option Value} {base : Heap} {k n : Nat} {f : Addr} {fd : FuncData} {ps : List Str} {CX : CXT} : FnG P w K mg base CX k f fd ps (spM K n fun _ _ => none) :=
  FnG.no.imp fun vs H Q E ⟨_, _, _, _, _, _, _, _, _, z, _⟩ => by cases z
/-- the law's promise by its mirror -/
theorem law_sp {K : PySem.W.Frag} {H : Hp} {a : Addr} {ns : List Int} {g : Fn} {E : XK} (hS : SqL K H a (ns.map V.int)) (h : g [.dt (.scr ns)] [] = some (.sv (.dt (.bl true)), [])) : spM K 1 g [.ref a] H (fun v _ => v = .bl true) E := by
  refine ⟨H, [], [], [.dt (.scr ns)], _, [], ⟨fun _ _ e => e, rfl, .nil, fun _ e => (nomatch e), fun k o e => by cases k <;> cases e⟩, .cons (Rp.scr hS) .nil, rfl, h, fun v Hk' H' w' x' r' => ?_⟩
  cases (show Rp K Hk' v (.bl true) from r')
  rfl
end Dy

set_option Elab.async false
set_option linter.all false
set_option maxRecDepth 100000
set_option maxHeartbeats 4000000
/-! Layer Dy, part 16: what mirrors compute: comprehensions, loops, the bag. -/
namespace Dy
open PySem L2

/-! ### sources -/
structure IsSrc (src : Src) (xs : List SV) : Prop where
  n : src.n = xs.length
  get : ∀ M i, src.get M i = xs[i]?
  stop : ∀ M i, src.stop M i = decide (xs.length ≤ i)
theorem isSrc_rng (lo : Int) (n : Nat) : IsSrc (rngSrc lo n) ((List.range n).map fun i : Nat => SV.dt (D.int (lo + (i : Int)))) where
  n := by simp [rngSrc]
  get := fun M i => by
    unfold rngSrc
    dsimp only
    rw [List.getElem?_map]
    by_cases h : i < n
    · rw [if_pos h, List.getElem?_range h]
      rfl
    · rw [if_neg h, List.getElem?_eq_none (by simpa using h)]
      rfl
  stop := fun M i => by simp [rngSrc]
theorem isSrc_lst {M : MS} {ds : List D} : ∃ src, seqSrc M (.dt (.lst ds)) = some src ∧ IsSrc src (ds.map .dt) := ⟨_, rfl, ⟨rfl, fun _ _ => rfl, fun _ _ => rfl⟩⟩
theorem isSrc_tup {M : MS} {ds : List D} : ∃ src, seqSrc M (.dt (.tup ds)) = some src ∧ IsSrc src (ds.map .dt) := ⟨_, rfl, ⟨rfl, fun _ _ => rfl, fun _ _ => rfl⟩⟩
def signs (z : Str) : List D := z.cps.toList.map fun c => .str ⟨#[c]⟩
theorem isSrc_str {M : MS} {z : Str} : ∃ src, seqSrc M (.dt (.str z)) = some src ∧ IsSrc src ((signs z).map .dt) := by
  refine ⟨_, rfl, ⟨by simp [signs], fun _ i => ?_, fun _ i => ?_⟩⟩
  · show (match z.cps[i]? with
      | some c => some (SV.dt (.str ⟨#[c]⟩))
      | none => none) = _
    unfold signs
    rw [List.map_map, List.getElem?_map, Array.getElem?_toList]
    cases z.cps[i]? <;> rfl
  · show decide (z.cps.size ≤ i) = _
    simp [signs]

/-! ### comprehensions -/
section
variable {src : Src} {xs : List SV} {b : Bnd} {c : EM Bool} {el : EM R} {ρ0 : Env}
theorem comp_inv_go (hs : IsSrc src xs) (Inv : MS → Prop) (P : D → Prop) (hl : xs.length ≤ sizeLine)
    (step : ∀ x ∈ xs, ∀ M, Inv M → ∃ ρ1, b x ρ0 = some ρ1 ∧ ∃ k M1, c ρ1 M = some (k, M1) ∧ Inv M1 ∧ (k = true → ∃ r d M2, el ρ1 M1 = some (r, M2) ∧ r.toSV = .dt d ∧ P d ∧ Inv M2)) :
    ∀ (k i : Nat) (acc : List D) (M : MS), i + k = xs.length → acc.length ≤ i → (∀ d ∈ acc, P d) → Inv M → ∃ ds M', compGo src b c el ρ0 k i acc M = some (ds, M') ∧ Inv M' ∧ (∀ d ∈ ds, P d) ∧ ds.length ≤ xs.length
  | 0, i, acc, M, hi, ha, hp, hM => by
    refine ⟨acc, M, ?_, hM, hp, by omega⟩
    show (if src.stop M i = true then some (acc, M) else none) = _
    rw [hs.stop, if_pos (decide_eq_true (by omega))]
  | k + 1, i, acc, M, hi, ha, hp, hM => by
    have hx : xs[i]? = some xs[i] := List.getElem?_eq_getElem (by omega)
    obtain ⟨ρ1, hb, kk, M1, hc, hM1, hk⟩ := step xs[i] (List.getElem_mem _) M hM
    unfold compGo
    rw [hs.get, hx]
    simp only [hb, hc]
    cases kk with
    | false => exact comp_inv_go hs Inv P hl step k (i + 1) acc M1 (by omega) (by omega) hp hM1
    | true =>
      obtain ⟨r, d, M2, he, hr, hd, hM2⟩ := hk rfl
      have hf : fz el ρ1 M1 = some (.dt d, M2) := by
        unfold fz EM.seq
        rw [he]
        show some (r.toSV, M2) = _
        rw [hr]
      simp only [hf]
      rw [if_pos (by omega)]
      refine comp_inv_go hs Inv P hl step k (i + 1) (acc ++ [d]) M2 (by omega) (by simp; omega) (fun y hy => ?_) hM2
      rcases List.mem_append.mp hy with h | h
      · exact hp y h
      · rw [List.mem_singleton.mp h]; exact hd
theorem comp_inv {ms : EM Src} {vs : List Nat} {ρ : Env} {M M0 : MS} (Inv : MS → Prop) (P : D → Prop) (hm : ms ρ M = some (src, M0)) (hs : IsSrc src xs) (hl : xs.length ≤ sizeLine) (h0 : Inv M0)
    (step : ∀ x ∈ xs, ∀ M, Inv M → ∃ ρ1, b x (wipeE ρ vs) = some ρ1 ∧ ∃ k M1, c ρ1 M = some (k, M1) ∧ Inv M1 ∧ (k = true → ∃ r d M2, el ρ1 M1 = some (r, M2) ∧ r.toSV = .dt d ∧ P d ∧ Inv M2)) :
    ∃ ds M', eComp ms b c el vs ρ M = some (.fr ds, M') ∧ Inv M' ∧ (∀ d ∈ ds, P d) ∧ ds.length ≤ xs.length := by
  obtain ⟨ds, M', h1, h2, h3, h4⟩ := comp_inv_go (ρ0 := wipeE ρ vs) hs Inv P hl step xs.length 0 [] M0 (by omega) (by simp) (by simp) h0
  refine ⟨ds, M', ?_, h2, h3, h4⟩
  unfold eComp
  simp only [hm]
  rw [hs.n, h1]
/-- nothing changes -/
theorem comp_pure_go (hs : IsSrc src xs) (p : SV → Bool) (f : SV → D) (hl : xs.length ≤ sizeLine) {M : MS}
    (step : ∀ x ∈ xs, ∃ ρ1, b x ρ0 = some ρ1 ∧ c ρ1 M = some (p x, M) ∧ (p x = true → ∃ r, el ρ1 M = some (r, M) ∧ r.toSV = .dt (f x))) :
    ∀ (k i : Nat) (acc : List D), i + k = xs.length → acc.length ≤ i → compGo src b c el ρ0 k i acc M = some (acc ++ ((xs.drop i).filter p).map f, M)
  | 0, i, acc, hi, ha => by
    show (if src.stop M i = true then some (acc, M) else none) = _
    rw [hs.stop, if_pos (decide_eq_true (by omega)), List.drop_eq_nil_of_le (by omega)]
    simp
  | k + 1, i, acc, hi, ha => by
    have hlt : i < xs.length := by omega
    have hx : xs[i]? = some xs[i] := List.getElem?_eq_getElem hlt
    obtain ⟨ρ1, hb, hc, hk⟩ := step xs[i] (List.getElem_mem _)
    unfold compGo
    rw [hs.get, hx, List.drop_eq_getElem_cons hlt]
    simp only [hb, hc]
    cases hp : p xs[i] with
    | false =>
      rw [List.filter_cons_of_neg (by rw [hp]; exact Bool.false_ne_true)]
      exact comp_pure_go hs p f hl step k (i + 1) acc (by omega) (by omega)
    | true =>
      obtain ⟨r, he, hr⟩ := hk hp
      have hf : fz el ρ1 M = some (.dt (f xs[i]), M) := by
        unfold fz EM.seq
        rw [he]
        show some (r.toSV, M) = _
        rw [hr]
      simp only [hf]
      rw [if_pos (by omega), List.filter_cons_of_pos hp, comp_pure_go hs p f hl step k (i + 1) (acc ++ [f xs[i]]) (by omega) (by simp; omega)]
      simp
theorem comp_pure {ms : EM Src} {vs : List Nat} {ρ : Env} {M M0 : MS} (p : SV → Bool) (f : SV → D) (hm : ms ρ M = some (src, M0)) (hs : IsSrc src xs) (hl : xs.length ≤ sizeLine)
    (step : ∀ x ∈ xs, ∃ ρ1, b x (wipeE ρ vs) = some ρ1 ∧ c ρ1 M0 = some (p x, M0) ∧ (p x = true → ∃ r, el ρ1 M0 = some (r, M0) ∧ r.toSV = .dt (f x))) :
    eComp ms b c el vs ρ M = some (.fr ((xs.filter p).map f), M0) := by
  unfold eComp
  simp only [hm]
  rw [hs.n, comp_pure_go (ρ0 := wipeE ρ vs) hs p f hl step xs.length 0 [] (by omega) (by simp)]
  simp
end

/-! ### loops -/
section
variable {src : Src} {xs : List SV} {b : Bnd} {body : SM}
theorem for_inv_go (hs : IsSrc src xs) (Inv : Env → MS → Prop) (step : ∀ x ∈ xs, ∀ ρ M, Inv ρ M → ∃ ρ1, b x ρ = some ρ1 ∧ ∃ ρ2 M2, body ρ1 M = some (.nx ρ2 M2) ∧ Inv ρ2 M2) :
    ∀ (k i : Nat) (ρ : Env) (M : MS), i + k = xs.length → Inv ρ M → ∃ ρ' M', forGo src b body k i ρ M = some (.nx ρ' M') ∧ Inv ρ' M'
  | 0, i, ρ, M, hi, hI => ⟨ρ, M, by
    show (if src.stop M i = true then some (Out.nx ρ M) else none) = _
    rw [hs.stop, if_pos (decide_eq_true (by omega))], hI⟩
  | k + 1, i, ρ, M, hi, hI => by
    have hx : xs[i]? = some xs[i] := List.getElem?_eq_getElem (by omega)
    obtain ⟨ρ1, hb, ρ2, M2, h1, h2⟩ := step xs[i] (List.getElem_mem _) ρ M hI
    obtain ⟨ρ', M', h3, h4⟩ := for_inv_go hs Inv step k (i + 1) ρ2 M2 (by omega) h2
    refine ⟨ρ', M', ?_, h4⟩
    unfold forGo
    rw [hs.get, hx]
    simp only [hb, h1]
    exact h3
theorem for_inv {ms : EM Src} {ρ : Env} {M M0 : MS} (Inv : Env → MS → Prop) (hm : ms ρ M = some (src, M0)) (hs : IsSrc src xs) (h0 : Inv ρ M0)
    (step : ∀ x ∈ xs, ∀ ρ M, Inv ρ M → ∃ ρ1, b x ρ = some ρ1 ∧ ∃ ρ2 M2, body ρ1 M = some (.nx ρ2 M2) ∧ Inv ρ2 M2) : ∃ ρ' M', sFor ms b body ρ M = some (.nx ρ' M') ∧ Inv ρ' M' := by
  obtain ⟨ρ', M', h3, h4⟩ := for_inv_go hs Inv step xs.length 0 ρ M0 (by omega) h0
  refine ⟨ρ', M', ?_, h4⟩
  unfold sFor
  simp only [hm]
  rw [hs.n]
  exact h3
end

/-! ### the bag -/
/-- a bag's list -/
def bagL (a b c : Int) (cells : List Int) : MO := .l [.dt (.int a), .dt (.int b), .dt (.int c), .dt (.lst (cells.map .int))]
structure BagO (B : MO) : Prop where
  ex : ∃ (a b c : Int) (cells : List Int), B = bagL a b c cells ∧ 0 ≤ a ∧ 0 ≤ b ∧ b < 2147483647 ∧ 0 ≤ c ∧ cells.length ≤ 63 ∧ ∀ y ∈ cells, 0 ≤ y
def takeM : SM := (sSeq (sIf (eBool (eBin gEq (eBin gIx (eVar 0) (eC (.int 0))) (eC (.int 0)))) (sSeq (sSet 2 (eBin gIx (eBin gAdd (eSlice (eBin gIx (eVar 0) (eC (.int 3))) (ePart (eBin gIx (eVar 0) (eC (.int 2)))) eNoPart) (eLst (eCons (eC (.int 0)) eNil))) (eC (.int 0))))
    (sSeq (sAugPut (fun i j => i + j) (eVar 0) (eC (.int 2)) (eC (.int 1)))
    (sSeq (sPut (eVar 0) (eC (.int 0)) (eBin gMul (eVar 2) (eCall (g1 intS) (eCons (eBin gGe (eVar 2) (eBin gPow (eC (.int 10)) (eC (.int 18)))) eNil))))
    (sSeq (sSet 3 (eBin gAdd (eBin gAdd (eBin gMul (eBin gIx (eVar 0) (eC (.int 1))) (eC (.int 48271))) (eBin gMod (eCall (g1 intS) (eCons (eVar 2) eNil)) (eC (.int 2147483647)))) (eBin gMul (eC (.int 7919)) (eBin gIx (eVar 0) (eC (.int 2))))))
    (sPut (eVar 0) (eC (.int 1)) (eBin gMod (eCall (g1 intS) (eCons (eVar 3) eNil)) (eC (.int 2147483647)))))))) sNext)
    (sSeq (sIf (eBool (eBin gGt (eBin gIx (eVar 0) (eC (.int 0))) (eC (.int 0)))) (sSeq (sNamePut 4 (eVar 0) (eC (.int 0)) (eTup (eCons (eBin gMod (eCall (g1 intS) (eCons (eBin gIx (eVar 0) (eC (.int 0))) eNil)) (eVar 1)) (eCons (eBin gFdiv (eCall (g1 intS) (eCons (eBin gIx (eVar 0) (eC (.int 0))) eNil)) (eVar 1)) eNil))))
    (sRet (eVar 4))) sNext)
    (sSeq (sSet 5 (eBin gMod (eCall (g1 intS) (eCons (eBin gMul (eBin gAdd (eBin gIx (eVar 0) (eC (.int 1))) (eC (.int 1))) (eC (.int 39373))) eNil)) (eC (.int 1000000007))))
    (sSeq (sSet 6 (eBin gMod (eCall (g1 intS) (eCons (eBin gMul (eBin gMod (eCall (g1 intS) (eCons (eBin gMul (eVar 5) (eVar 5)) eNil)) (eC (.int 998244353))) (eC (.int 30011))) eNil)) (eC (.int 998244353))))
    (sRet (eBin gMod (eCall (g1 intS) (eCons (eBin gFdiv (eVar 6) (eC (.int 7))) eNil)) (eVar 1)))))))
/-! ### evaluation by simp -/
section
variable {α β : Type} {ρ : Env} {M : MS} {m ma mb mc : EM R} {ms : EM (List SV)}
@[simp] theorem sizeLine_ev : sizeLine = 16777216 := sizeLine_eq
@[simp] theorem seq_ev (m : EM α) (f : α → EM β) : m.seq f ρ M = (m ρ M).bind fun p => f p.1 ρ p.2 := by
  unfold EM.seq
  cases m ρ M with
  | none => rfl
  | some p => rfl
@[simp] theorem ret_ev (a : α) : EM.ret a ρ M = some (a, M) := rfl
@[simp] theorem fz_ev (m : EM R) : fz m ρ M = (m ρ M).bind fun p => some (p.1.toSV, p.2) := by
  unfold fz
  rw [seq_ev]
  rfl
@[simp] theorem toSV_sv (x : SV) : (Dy.R.sv x).toSV = x := rfl
@[simp] theorem toSV_fr (x : List D) : (Dy.R.fr x).toSV = .dt (.lst x) := rfl
@[simp] theorem toSV_fd (k : List Key) (x : List D) : (Dy.R.fd k x).toSV = .dt (.dct k x) := rfl
@[simp] theorem eC_ev (d : D) : eC d ρ M = some (.sv (.dt d), M) := rfl
theorem eVar_of {i : Nat} {s : SV} (h : ρ[i]? = some (some s)) : eVar i ρ M = some (.sv s, M) := by
  unfold eVar
  rw [h]
@[simp] theorem eNil_ev : eNil ρ M = some ([], M) := rfl
@[simp] theorem eCons_ev (m : EM R) (ms : EM (List SV)) : eCons m ms ρ M = (m ρ M).bind fun p => (ms ρ p.2).bind fun q => some (p.1.toSV :: q.1, q.2) := by
  unfold eCons
  rw [seq_ev, fz_ev]
  cases m ρ M with
  | none => rfl
  | some p =>
    simp only [Option.bind_some, seq_ev]
    rfl
@[simp] theorem eBin_ev (g : MS → SV → SV → Option R) (ma mb : EM R) : eBin g ma mb ρ M = (ma ρ M).bind fun p => (mb ρ p.2).bind fun q => (g q.2 p.1.toSV q.1.toSV).bind fun z => some (z, q.2) := by
  unfold eBin
  rw [seq_ev, fz_ev]
  cases ma ρ M with
  | none => rfl
  | some p =>
    simp only [Option.bind_some, seq_ev, fz_ev]
    cases mb ρ p.2 with
    | none => rfl
    | some q =>
      simp only [Option.bind_some]
      cases g q.2 p.1.toSV q.1.toSV <;> rfl
@[simp] theorem eCall_ev (g : MS → List SV → Option R) (ms : EM (List SV)) : eCall g ms ρ M = (ms ρ M).bind fun p => (g p.2 p.1).bind fun z => some (z, p.2) := by
  unfold eCall
  rw [seq_ev]
  cases ms ρ M with
  | none => rfl
  | some p =>
    simp only [Option.bind_some]
    cases g p.2 p.1 <;> rfl
@[simp] theorem g1_ev (g : MS → SV → Option R) (s : SV) : g1 g M [s] = g M s := rfl
@[simp] theorem eFn_ev (f : Fn) (ms : EM (List SV)) : eFn f ms ρ M = (ms ρ M).bind fun p => f p.1 p.2 := by
  unfold eFn
  rw [seq_ev]
@[simp] theorem eLst_ev (ms : EM (List SV)) : eLst ms ρ M = (ms ρ M).bind fun p => (allD p.1).bind fun ds => if ds.length ≤ sizeLine then some (.fr ds, p.2) else none := by
  unfold eLst
  rw [seq_ev]
  cases ms ρ M with
  | none => rfl
  | some p =>
    simp only [Option.bind_some]
    cases allD p.1 <;> rfl
@[simp] theorem eTup_ev (ms : EM (List SV)) : eTup ms ρ M = (ms ρ M).bind fun p => (allD p.1).bind fun ds => if ds.length ≤ sizeLine then some (.sv (.dt (.tup ds)), p.2) else none := by
  unfold eTup
  rw [seq_ev]
  cases ms ρ M with
  | none => rfl
  | some p =>
    simp only [Option.bind_some]
    cases allD p.1 <;> rfl
@[simp] theorem allD_nil : allD [] = some [] := rfl
@[simp] theorem allD_dt (d : D) (r : List SV) : allD (.dt d :: r) = (allD r).bind fun ds => some (d :: ds) := by
  show (match allD r with
    | some ds => some (d :: ds)
    | none => none) = _
  cases allD r <;> rfl
def asB : R → Option Bool
  | .sv (.dt (.bl k)) => some k
  | _ => none
@[simp] theorem asB_bl (k : Bool) : asB (.sv (.dt (.bl k))) = some k := rfl
@[simp] theorem eBool_ev (m : EM R) : eBool m ρ M = (m ρ M).bind fun p => (asB p.1).bind fun k => some (k, p.2) := by
  unfold eBool
  rw [seq_ev]
  cases m ρ M with
  | none => rfl
  | some p =>
    obtain ⟨r, M'⟩ := p
    simp only [Option.bind_some]
    cases r with
    | sv s =>
      cases s with
      | dt d => cases d <;> rfl
      | mu k => rfl
    | fr xs => rfl
    | fd ks xs => rfl
@[simp] theorem eTru_ev (m : EM R) : eTru m ρ M = (m ρ M).bind fun p => (truthS p.2 p.1.toSV).bind fun k => some (k, p.2) := by
  unfold eTru
  rw [seq_ev, fz_ev]
  cases m ρ M with
  | none => rfl
  | some p =>
    simp only [Option.bind_some]
    cases truthS p.2 p.1.toSV <;> rfl
@[simp] theorem truthS_bl (k : Bool) : truthS M (.dt (.bl k)) = some k := rfl
@[simp] theorem tNotB_ev (c : EM Bool) : tNotB c ρ M = (c ρ M).bind fun p => some (!p.1, p.2) := by
  unfold tNotB
  rw [seq_ev]
  rfl
@[simp] theorem tAndB_ev (c d : EM Bool) : tAndB c d ρ M = (c ρ M).bind fun p => if p.1 = true then d ρ p.2 else some (false, p.2) := by
  unfold tAndB
  rw [seq_ev]
  cases c ρ M with
  | none => rfl
  | some p =>
    simp only [Option.bind_some]
    split <;> rfl
@[simp] theorem tOrB_ev (c d : EM Bool) : tOrB c d ρ M = (c ρ M).bind fun p => if p.1 = true then some (true, p.2) else d ρ p.2 := by
  unfold tOrB
  rw [seq_ev]
  cases c ρ M with
  | none => rfl
  | some p =>
    simp only [Option.bind_some]
    split <;> rfl
@[simp] theorem cYes_ev : cYes ρ M = some (true, M) := rfl
@[simp] theorem eAnd_ev (ma mb : EM R) : eAnd ma mb ρ M = (ma ρ M).bind fun p => (truthS p.2 p.1.toSV).bind fun k => if k = true then mb ρ p.2 else some (.sv p.1.toSV, p.2) := by
  unfold eAnd
  rw [seq_ev, fz_ev]
  cases ma ρ M with
  | none => rfl
  | some p =>
    simp only [Option.bind_some]
    cases truthS p.2 p.1.toSV with
    | none => rfl
    | some k => cases k <;> rfl
@[simp] theorem eOr_ev (ma mb : EM R) : eOr ma mb ρ M = (ma ρ M).bind fun p => (truthS p.2 p.1.toSV).bind fun k => if k = true then some (.sv p.1.toSV, p.2) else mb ρ p.2 := by
  unfold eOr
  rw [seq_ev, fz_ev]
  cases ma ρ M with
  | none => rfl
  | some p =>
    simp only [Option.bind_some]
    cases truthS p.2 p.1.toSV with
    | none => rfl
    | some k => cases k <;> rfl
@[simp] theorem eNot_ev (ma : EM R) : eNot ma ρ M = (ma ρ M).bind fun p => (truthS p.2 p.1.toSV).bind fun k => some (.sv (.dt (.bl (!k))), p.2) := by
  unfold eNot
  rw [seq_ev, fz_ev]
  cases ma ρ M with
  | none => rfl
  | some p =>
    simp only [Option.bind_some]
    cases truthS p.2 p.1.toSV <;> rfl
@[simp] theorem eIf_ev (c : EM Bool) (ma mb : EM R) : eIf c ma mb ρ M = (c ρ M).bind fun p => if p.1 = true then ma ρ p.2 else mb ρ p.2 := by
  unfold eIf
  rw [seq_ev]
  cases c ρ M with
  | none => rfl
  | some p =>
    simp only [Option.bind_some]
    split <;> rfl
@[simp] theorem eIsi_ev (T : String) (m : EM R) : eIsi T m ρ M = (m ρ M).bind fun p => (isiS T p.2 p.1.toSV).bind fun b => some (.sv (.dt (.bl b)), p.2) := by
  unfold eIsi
  rw [seq_ev, fz_ev]
  cases m ρ M with
  | none => rfl
  | some p =>
    simp only [Option.bind_some]
    cases isiS T p.2 p.1.toSV <;> rfl
@[simp] theorem eIsi2_ev (T U : String) (m : EM R) : eIsi2 T U m ρ M = (m ρ M).bind fun p => (isiS T p.2 p.1.toSV).bind fun b => (isiS U p.2 p.1.toSV).bind fun c => some (.sv (.dt (.bl (b || c))), p.2) := by
  unfold eIsi2
  rw [seq_ev, fz_ev]
  cases m ρ M with
  | none => rfl
  | some p =>
    simp only [Option.bind_some]
    cases isiS T p.2 p.1.toSV with
    | none => rfl
    | some b => cases isiS U p.2 p.1.toSV <;> rfl
@[simp] theorem eSlice_ev (m : EM R) (lo hi : EM (Option Int)) : eSlice m lo hi ρ M = (m ρ M).bind fun p => (lo ρ p.2).bind fun q => (hi ρ q.2).bind fun r => (gSl r.2 p.1.toSV q.1 r.1).bind fun z => some (z, r.2) := by
  unfold eSlice
  rw [seq_ev, fz_ev]
  cases m ρ M with
  | none => rfl
  | some p =>
    simp only [Option.bind_some, seq_ev]
    cases lo ρ p.2 with
    | none => rfl
    | some q =>
      simp only [Option.bind_some]
      cases hi ρ q.2 with
      | none => rfl
      | some r =>
        simp only [Option.bind_some]
        cases gSl r.2 p.1.toSV q.1 r.1 <;> rfl
@[simp] theorem eNoPart_ev : eNoPart ρ M = some (none, M) := rfl
def asI : SV → Option Int
  | .dt (.int i) => some i
  | _ => none
@[simp] theorem asI_int (i : Int) : asI (.dt (.int i)) = some i := rfl
@[simp] theorem ePart_ev (m : EM R) : ePart m ρ M = (m ρ M).bind fun p => (asI p.1.toSV).bind fun i => some (some i, p.2) := by
  unfold ePart
  rw [seq_ev, fz_ev]
  cases m ρ M with
  | none => rfl
  | some p =>
    obtain ⟨r, M'⟩ := p
    simp only [Option.bind_some]
    cases r.toSV with
    | dt d => cases d <;> rfl
    | mu k => rfl
@[simp] theorem eNeg_ev (m : EM R) : eNeg m ρ M = (m ρ M).bind fun p => (asI p.1.toSV).bind fun i => some (.sv (.dt (.int (-i))), p.2) := by
  unfold eNeg
  rw [seq_ev, fz_ev]
  cases m ρ M with
  | none => rfl
  | some p =>
    obtain ⟨r, M'⟩ := p
    simp only [Option.bind_some]
    cases r.toSV with
    | dt d => cases d <;> rfl
    | mu k => rfl
/-! statements -/
variable {s1 s2 : SM} {c : EM Bool}
theorem sSeq_nx {ρ1 : Env} {M1 : MS} (h : s1 ρ M = some (.nx ρ1 M1)) : sSeq s1 s2 ρ M = s2 ρ1 M1 := by
  unfold sSeq
  rw [h]
theorem sSeq_rt {r : R} {M1 : MS} (h : s1 ρ M = some (.rt r M1)) : sSeq s1 s2 ρ M = some (.rt r M1) := by
  unfold sSeq
  rw [h]
def outB (o : Option Out) (f : Env → MS → Option Out) : Option Out := match o with
  | some (.nx ρ M) => f ρ M
  | o => o
@[simp] theorem outB_nx (f : Env → MS → Option Out) : outB (some (.nx ρ M)) f = f ρ M := rfl
@[simp] theorem outB_rt (r : R) (f : Env → MS → Option Out) : outB (some (.rt r M)) f = some (.rt r M) := rfl
@[simp] theorem sSeq_ev (s1 s2 : SM) : sSeq s1 s2 ρ M = outB (s1 ρ M) s2 := by
  unfold sSeq outB
  rfl
@[simp] theorem sIf_ev (c : EM Bool) (s1 s2 : SM) : sIf c s1 s2 ρ M = (c ρ M).bind fun p => if p.1 = true then s1 ρ p.2 else s2 ρ p.2 := by
  unfold sIf
  cases c ρ M with
  | none => rfl
  | some p =>
    obtain ⟨k, M'⟩ := p
    cases k <;> rfl
@[simp] theorem sNext_ev : sNext ρ M = some (.nx ρ M) := rfl
@[simp] theorem sRet_ev (m : EM R) : sRet m ρ M = (m ρ M).bind fun p => some (.rt p.1 p.2) := by
  unfold sRet
  cases m ρ M <;> rfl
@[simp] theorem sSet_ev (i : Nat) (m : EM R) : sSet i m ρ M = (m ρ M).bind fun p => some (.nx (ρ.set i (some p.1.toSV)) p.2) := by
  unfold sSet
  cases m ρ M <;> rfl
@[simp] theorem sExpr_ev (m : EM R) : sExpr m ρ M = (m ρ M).bind fun p => some (.nx ρ p.2) := by
  unfold sExpr
  cases m ρ M <;> rfl
@[simp] theorem sPut_ev (mo mi me : EM R) : sPut mo mi me ρ M = (me ρ M).bind fun p => (mo ρ p.2).bind fun q => (mi ρ q.2).bind fun r => (setAt r.2 q.1.toSV r.1.toSV p.1.toSV).bind fun M4 => some (.nx ρ M4) := by
  unfold sPut
  rw [fz_ev]
  cases me ρ M with
  | none => rfl
  | some p =>
    simp only [Option.bind_some, fz_ev]
    cases mo ρ p.2 with
    | none => rfl
    | some q =>
      simp only [Option.bind_some]
      cases mi ρ q.2 with
      | none => rfl
      | some r =>
        simp only [Option.bind_some]
        cases setAt r.2 q.1.toSV r.1.toSV p.1.toSV <;> rfl
@[simp] theorem listD_lst (ds : List D) : listD M (.dt (.lst ds)) = some ds := by
  unfold listD listOf
  exact allD_map ds
@[simp] theorem itemsD_lst (ds : List D) : itemsD M (.dt (.lst ds)) = some ds := by
  unfold itemsD itemsOf listOf
  exact allD_map ds
@[simp] theorem itemsD_tup (ds : List D) : itemsD M (.dt (.tup ds)) = some ds := by
  unfold itemsD itemsOf
  exact allD_map ds
@[simp] theorem itemsOf_lst (ds : List D) : itemsOf M (.dt (.lst ds)) = some (ds.map .dt) := rfl
@[simp] theorem itemsOf_tup (ds : List D) : itemsOf M (.dt (.tup ds)) = some (ds.map .dt) := rfl
@[simp] theorem peek_dt' (d : D) : peek M (.dt d) = some d := peek_dt 3 M d
end
theorem eqv_int (i j : Int) : PyData.eqv (.int i) (.int j) = decide (i = j) := by
  unfold PyData.eqv
  rfl
theorem shaped_int (i : Int) : SeqAt.shaped (.int i) = true := by
  rfl
@[simp] theorem gEq_int (M : MS) (i j : Int) : gEq M (.dt (.int i)) (.dt (.int j)) = some (.sv (.dt (.bl (decide (i = j))))) := by
  unfold gEq eqT eqS
  simp only [peek, peekN, toP, shaped_int, eqv_int, Bool.and_self, if_true]
  rfl
@[simp] theorem gEq_str (M : MS) (x y : Str) : gEq M (.dt (.str x)) (.dt (.str y)) = some (.sv (.dt (.bl (decide (x = y))))) := rfl
@[simp] theorem gNe_str (M : MS) (x y : Str) : gNe M (.dt (.str x)) (.dt (.str y)) = some (.sv (.dt (.bl (!decide (x = y))))) := rfl
end Dy

set_option Elab.async false
set_option maxRecDepth 100000
set_option maxHeartbeats 4000000
set_option linter.all false
namespace Dy
open PySem L2
theorem cut_cells (cells : List Int) (c : Int) (h5 : cells.length ≤ 63) (h6 : ∀ y ∈ cells, 0 ≤ y) : ∃ L : List Int, cutD (cells.map .int) (some c) none = L.map .int ∧ L.length ≤ 63 ∧ ∀ y ∈ L, 0 ≤ y := by
  refine ⟨(cells.drop (HT.sIx cells.length 0 (some c))).take (cells.length - HT.sIx cells.length 0 (some c)), ?_, ?_, fun y hy => h6 y ((List.drop_sublist _ _).subset ((List.take_sublist _ _).subset hy))⟩
  · unfold cutD
    simp [HT.sIx_none, List.map_drop, List.map_take]
  · rw [List.length_take, List.length_drop]
    omega
/-- when the first number is not nought -/
theorem take_draw {R : MS} {n a b c : Int} {cells : List Int} (hn : 0 < n) (hn2 : n < 1073741824) (ha : 0 < a) {ρ : Env} {x2 x3 : Option SV} (hρ : ρ = [some (.mu 0), some (.dt (.int n)), x2, x3, none, none, none]) :
    (sSeq (sIf (eBool (eBin gGt (eBin gIx (eVar 0) (eC (.int 0))) (eC (.int 0)))) (sSeq (sNamePut 4 (eVar 0) (eC (.int 0)) (eTup (eCons (eBin gMod (eCall (g1 intS) (eCons (eBin gIx (eVar 0) (eC (.int 0))) eNil)) (eVar 1)) (eCons (eBin gFdiv (eCall (g1 intS) (eCons (eBin gIx (eVar 0) (eC (.int 0))) eNil)) (eVar 1)) eNil))))
    (sRet (eVar 4))) sNext)
    (sSeq (sSet 5 (eBin gMod (eCall (g1 intS) (eCons (eBin gMul (eBin gAdd (eBin gIx (eVar 0) (eC (.int 1))) (eC (.int 1))) (eC (.int 39373))) eNil)) (eC (.int 1000000007))))
    (sSeq (sSet 6 (eBin gMod (eCall (g1 intS) (eCons (eBin gMul (eBin gMod (eCall (g1 intS) (eCons (eBin gMul (eVar 5) (eVar 5)) eNil)) (eC (.int 998244353))) (eC (.int 30011))) eNil)) (eC (.int 998244353))))
    (sRet (eBin gMod (eCall (g1 intS) (eCons (eBin gFdiv (eVar 6) (eC (.int 7))) eNil)) (eVar 1)))))) ρ (bagL a b c cells :: R) = some (.rt (.sv (.dt (.int (a % n)))) (bagL (a / n) b c cells :: R)) := by
  subst hρ
  simp [eVar, gIx, itemsOf, listOf, bagL, atI, ixN, gGt, int2, ha, sNamePut, intS, gMod, hn, gFdiv, hn2, setAt, muL]
theorem inSmall_of {i : Int} (h1 : -18446744073709551616 < i) (h2 : i < 18446744073709551616) : inSmall i = true := by
  unfold inSmall
  simp
  omega
theorem take_late {R : MS} {n b c : Int} {cells : List Int} (hn : 0 < n) (hb : 0 ≤ b) (hb2 : b < 2147483647) {ρ : Env} {x2 x3 : Option SV} (hρ : ρ = [some (.mu 0), some (.dt (.int n)), x2, x3, none, none, none]) :
    ∃ r, (sSeq (sIf (eBool (eBin gGt (eBin gIx (eVar 0) (eC (.int 0))) (eC (.int 0)))) (sSeq (sNamePut 4 (eVar 0) (eC (.int 0)) (eTup (eCons (eBin gMod (eCall (g1 intS) (eCons (eBin gIx (eVar 0) (eC (.int 0))) eNil)) (eVar 1)) (eCons (eBin gFdiv (eCall (g1 intS) (eCons (eBin gIx (eVar 0) (eC (.int 0))) eNil)) (eVar 1)) eNil))))
    (sRet (eVar 4))) sNext)
    (sSeq (sSet 5 (eBin gMod (eCall (g1 intS) (eCons (eBin gMul (eBin gAdd (eBin gIx (eVar 0) (eC (.int 1))) (eC (.int 1))) (eC (.int 39373))) eNil)) (eC (.int 1000000007))))
    (sSeq (sSet 6 (eBin gMod (eCall (g1 intS) (eCons (eBin gMul (eBin gMod (eCall (g1 intS) (eCons (eBin gMul (eVar 5) (eVar 5)) eNil)) (eC (.int 998244353))) (eC (.int 30011))) eNil)) (eC (.int 998244353))))
    (sRet (eBin gMod (eCall (g1 intS) (eCons (eBin gFdiv (eVar 6) (eC (.int 7))) eNil)) (eVar 1)))))) ρ (bagL 0 b c cells :: R) = some (.rt (.sv (.dt (.int r))) (bagL 0 b c cells :: R)) ∧ 0 ≤ r ∧ r < n := by
  subst hρ
  refine ⟨(((b + 1) * 39373 % 1000000007 * ((b + 1) * 39373 % 1000000007) % 998244353 * 30011 % 998244353) / 7) % n, ?_, Int.emod_nonneg _ (by omega), Int.emod_lt_of_pos _ hn⟩
  have e1 : inSmall 39373 = true := by decide
  have e2 : inSmall 30011 = true := by decide
  have e3 : inSmall ((b + 1) * 39373 % 1000000007) = true := inSmall_of (by have := Int.emod_nonneg ((b + 1) * 39373) (show (1000000007 : Int) ≠ 0 by decide); omega) (by have := Int.emod_lt_of_pos ((b + 1) * 39373) (show (0 : Int) < 1000000007 by decide); omega)
  simp [eVar, gIx, itemsOf, listOf, bagL, atI, ixN, gGt, int2, intS, gMod, hn, gFdiv, gMul, gAdd, e1, e2, e3]
theorem take_ok {B : MO} {R : MS} {n : Int} (hB : BagO B) (hn : 0 < n) (hn2 : n < 1073741824) : ∃ r B', runBody takeM 7 [.mu 0, .dt (.int n)] (B :: R) = some (.sv (.dt (.int r)), B' :: R) ∧ BagO B' ∧ 0 ≤ r ∧ r < n := by
  obtain ⟨a, b, c, cells, rfl, h1, h2, h3, h4, h5, h6⟩ := hB.ex
  by_cases ha : a = 0
  · subst ha
    obtain ⟨L, eL, hL, hp⟩ := cut_cells cells c h5 h6
    unfold runBody takeM
    rw [sSeq_ev]
    have first : ∃ y : Int, 0 ≤ y ∧ ∀ K : Env → MS → Option Out, outB ((sIf (eBool (eBin gEq (eBin gIx (eVar 0) (eC (.int 0))) (eC (.int 0)))) (sSeq (sSet 2 (eBin gIx (eBin gAdd (eSlice (eBin gIx (eVar 0) (eC (.int 3))) (ePart (eBin gIx (eVar 0) (eC (.int 2)))) eNoPart) (eLst (eCons (eC (.int 0)) eNil))) (eC (.int 0))))
    (sSeq (sAugPut (fun i j => i + j) (eVar 0) (eC (.int 2)) (eC (.int 1)))
    (sSeq (sPut (eVar 0) (eC (.int 0)) (eBin gMul (eVar 2) (eCall (g1 intS) (eCons (eBin gGe (eVar 2) (eBin gPow (eC (.int 10)) (eC (.int 18)))) eNil))))
    (sSeq (sSet 3 (eBin gAdd (eBin gAdd (eBin gMul (eBin gIx (eVar 0) (eC (.int 1))) (eC (.int 48271))) (eBin gMod (eCall (g1 intS) (eCons (eVar 2) eNil)) (eC (.int 2147483647)))) (eBin gMul (eC (.int 7919)) (eBin gIx (eVar 0) (eC (.int 2))))))
    (sPut (eVar 0) (eC (.int 1)) (eBin gMod (eCall (g1 intS) (eCons (eVar 3) eNil)) (eC (.int 2147483647)))))))) sNext) ([SV.mu 0, SV.dt (D.int n)].map some ++ List.replicate (7 - [SV.mu 0, SV.dt (D.int n)].length) none) (bagL 0 b c cells :: R)) K =
        K [some (.mu 0), some (.dt (.int n)), some (.dt (.int y)), some (.dt (.int (b * 48271 + y % 2147483647 + 7919 * (c + 1)))), none, none, none] (bagL (y * (if 1000000000000000000 ≤ y then 1 else 0)) ((b * 48271 + y % 2147483647 + 7919 * (c + 1)) % 2147483647) (c + 1) cells :: R) := by
      have e1 : inSmall 48271 = true := by decide
      have e2 : inSmall 7919 = true := by decide
      have e3 : inSmall 0 = true := by decide
      have e4 : ∀ y : Int, inSmall (if 1000000000000000000 ≤ y then (1 : Int) else 0) = true := fun y => by split <;> decide
      cases L with
      | nil =>
        refine ⟨0, Int.le_refl _, fun K => ?_⟩
        simp [eVar, gIx, itemsOf, listOf, bagL, atI, ixN, gSl, gAdd, sAugPut, setAt, muL, eL, gMul, intS, gGe, int2, gPow, gMod, e1, e2, e3, e4]
      | cons y t =>
        refine ⟨y, hp y (by simp), fun K => ?_⟩
        have ht : t.length ≤ 16777214 := by simp at hL; omega
        simp [eVar, gIx, itemsOf, listOf, bagL, atI, ixN, gSl, gAdd, sAugPut, setAt, muL, eL, gMul, intS, gGe, int2, gPow, gMod, e1, e2, e4, ht]
    obtain ⟨y, hy, e⟩ := first
    rw [e]
    have hq : 0 ≤ y * (if 1000000000000000000 ≤ y then (1 : Int) else 0) := by split <;> omega
    have hb1 := Int.emod_nonneg (b * 48271 + y % 2147483647 + 7919 * (c + 1)) (show (2147483647 : Int) ≠ 0 by decide)
    have hb2 := Int.emod_lt_of_pos (b * 48271 + y % 2147483647 + 7919 * (c + 1)) (show (0 : Int) < 2147483647 by decide)
    by_cases hz : y * (if 1000000000000000000 ≤ y then (1 : Int) else 0) = 0
    · rw [hz]
      obtain ⟨r, er, r1, r2⟩ := take_late (R := R) (c := c + 1) (cells := cells) hn hb1 hb2 rfl
      refine ⟨r, _, ?_, ⟨0, _, c + 1, cells, rfl, Int.le_refl _, hb1, hb2, by omega, h5, h6⟩, r1, r2⟩
      rw [er]
      simp [close]
    · refine ⟨(y * (if 1000000000000000000 ≤ y then (1 : Int) else 0)) % n, bagL ((y * (if 1000000000000000000 ≤ y then (1 : Int) else 0)) / n) ((b * 48271 + y % 2147483647 + 7919 * (c + 1)) % 2147483647) (c + 1) cells, ?_, ⟨_, _, c + 1, cells, rfl, Int.ediv_nonneg hq (by omega), hb1, hb2, by omega, h5, h6⟩, Int.emod_nonneg _ (by omega), Int.emod_lt_of_pos _ hn⟩
      rw [take_draw hn hn2 (by omega) rfl]
      simp [close]
  · have hpos : 0 < a := by omega
    have e0 : (sIf (eBool (eBin gEq (eBin gIx (eVar 0) (eC (.int 0))) (eC (.int 0)))) (sSeq (sSet 2 (eBin gIx (eBin gAdd (eSlice (eBin gIx (eVar 0) (eC (.int 3))) (ePart (eBin gIx (eVar 0) (eC (.int 2)))) eNoPart) (eLst (eCons (eC (.int 0)) eNil))) (eC (.int 0))))
    (sSeq (sAugPut (fun i j => i + j) (eVar 0) (eC (.int 2)) (eC (.int 1)))
    (sSeq (sPut (eVar 0) (eC (.int 0)) (eBin gMul (eVar 2) (eCall (g1 intS) (eCons (eBin gGe (eVar 2) (eBin gPow (eC (.int 10)) (eC (.int 18)))) eNil))))
    (sSeq (sSet 3 (eBin gAdd (eBin gAdd (eBin gMul (eBin gIx (eVar 0) (eC (.int 1))) (eC (.int 48271))) (eBin gMod (eCall (g1 intS) (eCons (eVar 2) eNil)) (eC (.int 2147483647)))) (eBin gMul (eC (.int 7919)) (eBin gIx (eVar 0) (eC (.int 2))))))
    (sPut (eVar 0) (eC (.int 1)) (eBin gMod (eCall (g1 intS) (eCons (eVar 3) eNil)) (eC (.int 2147483647)))))))) sNext) ([SV.mu 0, SV.dt (D.int n)].map some ++ List.replicate (7 - [SV.mu 0, SV.dt (D.int n)].length) none) (bagL a b c cells :: R) = some (.nx [some (.mu 0), some (.dt (.int n)), none, none, none, none, none] (bagL a b c cells :: R)) := by
      simp [eVar, gIx, itemsOf, listOf, bagL, atI, ixN, ha]
    unfold runBody takeM
    rw [sSeq_ev, e0, outB_nx, take_draw hn hn2 hpos rfl]
    refine ⟨a % n, bagL (a / n) b c cells, ?_, ⟨_, _, _, _, rfl, Int.ediv_nonneg h1 (by omega), h2, h3, h4, h5, h6⟩, Int.emod_nonneg _ (by omega), Int.emod_lt_of_pos _ hn⟩
    simp [close]
/-! ### the bag's making -/
def bagM : SM := (sRet (eLst (eCons (eC (.int 0)) (eCons (eC (.int 1234567891)) (eCons (eC (.int 0)) (eCons (eComp (eSeq (eSlice (eVar 0) eNoPart (ePart (eC (.int 63))))) (bName 1) cYes (eCall (g1 absS) (eCons (eVar 1) eNil)) [1]) eNil))))))
@[simp] theorem eSeq_ev {ρ : Env} {M : MS} (m : EM R) : eSeq m ρ M = (m ρ M).bind fun p => (seqSrc p.2 p.1.toSV).bind fun z => some (z, p.2) := by
  unfold eSeq
  rw [seq_ev, fz_ev]
  cases m ρ M with
  | none => rfl
  | some p =>
    simp only [Option.bind_some]
    cases seqSrc p.2 p.1.toSV <;> rfl
def absI (i : Int) : Int := if i < 0 then -i else i
theorem absI_nn (i : Int) : 0 ≤ absI i := by unfold absI; split <;> omega
def unI : SV → Int
  | .dt (.int i) => i
  | _ => 0
theorem bag_ok {ns : List Int} (h : ns.length ≤ 63) (M : MS) : ∃ cells : List Int, runBody bagM 2 [.dt (.scr ns)] M = some (.fr [.int 0, .int 1234567891, .int 0, .lst (cells.map .int)], M) ∧ BagO (bagL 0 1234567891 0 cells) := by
  have cut : cutD (ns.map D.int) none (some 63) = ns.map D.int := by
    unfold cutD
    have e1 : HT.sIx (ns.map D.int).length 0 none = 0 := rfl
    have e2 : HT.sIx (ns.map D.int).length (ns.map D.int).length (some 63) = ns.length := by
      unfold HT.sIx
      simp
      omega
    rw [e1, e2]
    simp only [List.drop_zero, Nat.sub_zero]
    exact List.take_of_length_le (by simp)
  have main : eComp (eSeq (eSlice (eVar 0) eNoPart (ePart (eC (.int 63))))) (bName 1) cYes (eCall (g1 absS) (eCons (eVar 1) eNil)) [1] [some (.dt (.scr ns)), none] M = some (.fr ((((ns.map D.int).map SV.dt).filter fun _ => true).map fun x => .int (absI (unI x))), M) := by
    obtain ⟨src, e, hs⟩ := isSrc_lst (M := M) (ds := ns.map D.int)
    refine comp_pure (fun _ => true) (fun x => .int (absI (unI x))) (src := src) (M0 := M) ?_ hs ?_ ?_
    · simp [eVar, gSl, cut, e]
    · simp
      omega
    · intro x hx
      simp only [List.mem_map] at hx
      obtain ⟨d, ⟨i, hi, rfl⟩, rfl⟩ := hx
      refine ⟨_, rfl, rfl, fun _ => ⟨.sv (.dt (.int (absI i))), ?_, rfl⟩⟩
      simp [eVar, wipeE, absS, absI]
  refine ⟨ns.map absI, ?_, ⟨0, 1234567891, 0, ns.map absI, rfl, by decide, by decide, by decide, by decide, by simpa using h, fun y hy => ?_⟩⟩
  · unfold runBody bagM
    rw [sRet_ev]
    have e : ([SV.dt (D.scr ns)].map some ++ List.replicate (2 - [SV.dt (D.scr ns)].length) none : Env) = [some (.dt (.scr ns)), none] := rfl
    rw [e]
    simp only [eLst_ev, eCons_ev, eC_ev, main, Option.bind_some, toSV_sv, toSV_fr, eNil_ev, allD_dt, allD_nil]
    have ef : ((((ns.map D.int).map SV.dt).filter fun _ => true).map fun x => D.int (absI (unI x))) = (ns.map absI).map D.int := by
      rw [List.filter_eq_self.mpr (fun _ _ => rfl)]
      simp [unI]
    rw [ef]
    simp [close]
  · simp only [List.mem_map] at hy
    obtain ⟨i, _, rfl⟩ := hy
    exact absI_nn i
end Dy

set_option Elab.async false
set_option linter.all false
set_option maxRecDepth 100000
set_option maxHeartbeats 4000000
/-! Layer Dy, part 18: how long a datum's text is; == of data. -/
namespace Dy
open PySem L2 PyProof.Rows
def okS (x : Str) : Bool := x.cps.all (· < 0x110000)
def okK : Key → Bool
  | .inl i => decide (i.natAbs.log2 < 1920)
  | .inr x => okS x
def kwt : Key → Nat
  | .inl _ => 1921
  | .inr x => 10 * x.length + 2
mutual
def goodD : D → Bool
  | .non => true
  | .bl _ => true
  | .int i => decide (i.natAbs.log2 < 1920)
  | .str x => okS x
  | .lst xs => goodL xs
  | .tup xs => goodL xs
  | .dct ks vs => ks.all okK && goodL vs
  | _ => false
def goodL : List D → Bool
  | [] => true
  | d :: r => goodD d && goodL r
end
mutual
def swt : D → Nat
  | .int _ => 1921
  | .str x => 10 * x.length + 2
  | .lst xs => swtL xs + 3
  | .tup xs => swtL xs + 3
  | .dct ks vs => (ks.map kwt).sum + swtL vs + 4 * ks.length + 3
  | _ => 5
def swtL : List D → Nat
  | [] => 0
  | d :: r => swt d + 2 + swtL r
end
mutual
def dep : D → Nat
  | .lst xs => depL xs + 1
  | .tup xs => depL xs + 1
  | .dct _ vs => depL vs + 1
  | _ => 0
def depL : List D → Nat
  | [] => 0
  | d :: r => max (dep d) (depL r)
end
theorem okS_lt {x : Str} (h : okS x = true) : ∀ c ∈ x.cps.toList, c < 16 ^ 8 := fun c hc => by
  unfold okS at h
  rw [← Array.all_toList] at h
  have := of_decide_eq_true (List.all_eq_true.mp h c hc)
  omega
theorem text_int {i : Int} (h : i.natAbs.log2 < 1920) : (PyData.int i).shown.length ≤ 1921 := by
  simp only [PyData.shown]
  exact int_text_len_1921 h
theorem text_str {x : Str} (h : okS x = true) : (PyData.str x).shown.length ≤ 10 * x.length + 2 := by
  simp only [PyData.shown]
  exact StrLaws.reprText_len x (okS_lt h)
theorem len_listText : ∀ ts : List Str, (listText ts).length ≤ piled ts + 2
  | [] => by decide
  | t :: ts => by
    unfold listText
    rw [strLen_append]
    show (textFrom 1 (("[" : Str) ++ ("" : String) ++ t) ts).length + _ ≤ _
    rw [textFrom_length_pos ts 1 _ (by decide), piled_cons, strLen_append, strLen_append]
    have e1 : (("[" : Str)).length = 1 := by decide
    have e2 : (("]" : Str)).length = 1 := by decide
    have e3 : ((("" : String) : Str)).length = 0 := by decide
    omega
theorem len_tupleText (ts : List Str) : (tupleText ts).length ≤ piled ts + 3 := by
  unfold tupleText
  rw [strLen_append, strLen_append]
  have e1 : (("(" : Str)).length = 1 := by decide
  have e2 : (((if ts.length == 1 then ",)" else ")" : String) : Str)).length ≤ 2 := by split <;> decide
  by_cases h : ts = []
  · subst h
    have : (Str.join ", " []).length = 0 := by decide
    omega
  · have := join_length_add ts h
    omega
theorem len_dictText (ts : List Str) : (dictText ts).length ≤ piled ts + 2 := by
  unfold dictText
  rw [strLen_append, strLen_append]
  have e1 : (("{" : Str)).length = 1 := by decide
  have e2 : (("}" : Str)).length = 1 := by decide
  by_cases h : ts = []
  · subst h
    have : (Str.join ", " []).length = 0 := by decide
    omega
  · have := join_length_add ts h
    omega
theorem key_text {k : Key} (h : okK k = true) : (kP k).showable = true ∧ (kP k).shown.length ≤ kwt k ∧ (kP k).depth = 0 := by
  cases k with
  | inl i =>
    have h2 : i.natAbs.log2 < 1920 := of_decide_eq_true h
    exact ⟨by simp only [kP, PyData.showable]; exact decide_eq_true h2, text_int h2, rfl⟩
  | inr x => exact ⟨rfl, text_str h, rfl⟩
theorem good_kv : ∀ (ks : List Key) (ps : List PyData), ks.all okK = true → PyData.showableAll ps = true → PyData.showableKv ((ks.map kP).zip ps) = true ∧
    piled (PyData.shownKv ((ks.map kP).zip ps)) ≤ (ks.map kwt).sum + piled (PyData.shownAll ps) + 4 * ks.length ∧ PyData.depthKv ((ks.map kP).zip ps) ≤ PyData.depthAll ps
  | [], ps, _, _ => ⟨rfl, by show 0 ≤ _; omega, Nat.zero_le _⟩
  | k :: ks, [], _, _ => ⟨rfl, by show 0 ≤ _; omega, Nat.zero_le _⟩
  | k :: ks, p :: ps, h, g => by
    rw [List.all_cons] at h
    obtain ⟨h1, h2⟩ := Bool.and_eq_true_iff.mp h
    simp only [PyData.showableAll] at g
    obtain ⟨g1, g2⟩ := Bool.and_eq_true_iff.mp g
    obtain ⟨a1, a2, a3⟩ := key_text h1
    obtain ⟨b1, b2, b3⟩ := good_kv ks ps h2 g2
    simp only [List.map_cons, List.zip_cons_cons, PyData.showableKv, PyData.shownKv, PyData.depthKv, PyData.shownAll, PyData.depthAll, a1, g1, b1, a3, List.sum_cons, List.length_cons]
    refine ⟨rfl, ?_, by omega⟩
    rw [piled_cons, piled_cons, strLen_append, strLen_append]
    have e : ((": " : Str)).length = 2 := by decide
    omega
mutual
theorem good_toQ : ∀ {d : D}, goodD d = true → ∃ p, toQ d = some p ∧ p.showable = true ∧ p.shown.length ≤ swt d ∧ p.depth ≤ dep d
  | .non, _ => ⟨.none, rfl, rfl, by decide, Nat.le_refl _⟩
  | .bl b, _ => ⟨.bool b, rfl, rfl, by cases b <;> decide, Nat.le_refl _⟩
  | .int i, h => by
    have h := of_decide_eq_true (by simpa only [goodD] using h)
    exact ⟨.int i, by simp only [toQ], by simp only [PyData.showable]; exact decide_eq_true h, by simp only [swt]; exact text_int h, Nat.le_refl _⟩
  | .str x, h => by
    have h : okS x = true := by simpa only [goodD] using h
    exact ⟨.str x, by simp only [toQ], rfl, by simp only [swt]; exact text_str h, Nat.le_refl _⟩
  | .lst xs, h => by
    have h : goodL xs = true := by simpa only [goodD] using h
    obtain ⟨ps, h1, h2, h3, h4⟩ := good_toQl h
    refine ⟨.list ps, by simp only [toQ, h1], by simp only [PyData.showable]; exact h2, ?_, by simp only [PyData.depth, dep]; omega⟩
    simp only [PyData.shown, swt]
    exact Nat.le_trans (len_listText _) (by omega)
  | .tup xs, h => by
    have h : goodL xs = true := by simpa only [goodD] using h
    obtain ⟨ps, h1, h2, h3, h4⟩ := good_toQl h
    refine ⟨.tuple ps, by simp only [toQ, h1], by simp only [PyData.showable]; exact h2, ?_, by simp only [PyData.depth, dep]; omega⟩
    simp only [PyData.shown, swt]
    exact Nat.le_trans (len_tupleText _) (by omega)
  | .dct ks vs, h => by
    simp only [goodD] at h
    obtain ⟨hk, h⟩ := Bool.and_eq_true_iff.mp h
    obtain ⟨ps, h1, h2, h3, h4⟩ := good_toQl h
    obtain ⟨k1, k2, k3⟩ := good_kv ks ps hk h2
    refine ⟨.dict ((ks.map kP).zip ps), by simp only [toQ, h1], by simp only [PyData.showable]; exact k1, ?_, by simp only [PyData.depth, dep]; omega⟩
    simp only [PyData.shown, swt]
    exact Nat.le_trans (len_dictText _) (by omega)
  | .ins .., h => by simp only [goodD] at h; cases h
  | .scr _, h => by simp only [goodD] at h; cases h
  | .obj _, h => by simp only [goodD] at h; cases h
theorem good_toQl : ∀ {ds : List D}, goodL ds = true → ∃ ps, toQl ds = some ps ∧ PyData.showableAll ps = true ∧ piled (PyData.shownAll ps) ≤ swtL ds ∧ PyData.depthAll ps ≤ depL ds
  | [], _ => ⟨[], rfl, rfl, by decide, Nat.le_refl _⟩
  | d :: r, h => by
    simp only [goodL] at h
    obtain ⟨h1, h2⟩ := Bool.and_eq_true_iff.mp h
    obtain ⟨p, a1, a2, a3, a4⟩ := good_toQ h1
    obtain ⟨ps, b1, b2, b3, b4⟩ := good_toQl h2
    refine ⟨p :: ps, by simp only [toQl, a1, b1], by simp only [PyData.showableAll, a2, b2, Bool.and_self], ?_, by simp only [PyData.depthAll, depL]; omega⟩
    simp only [PyData.shownAll, swtL]
    rw [piled_cons]
    omega
end
/-- repr of a datum -/
theorem repr_ok {d : D} (M : MS) (h : goodD d = true) (hw : swt d ≤ 16777216) (hd : dep d ≤ 63) : ∃ x : Str, reprS M (.dt d) = some (.sv (.dt (.str x))) := by
  obtain ⟨p, h1, h2, h3, h4⟩ := good_toQ h
  refine ⟨p.shown, ?_⟩
  unfold reprS
  simp only [peek_dt', h1]
  rw [if_pos ⟨h2, by rw [sizeLine_eq]; omega, by omega⟩]
/-! ### no dict within -/
mutual
def flatB : D → Bool
  | .non => true
  | .bl _ => true
  | .int _ => true
  | .str x => okS x
  | .lst xs => flatL xs
  | .tup xs => flatL xs
  | _ => false
def flatL : List D → Bool
  | [] => true
  | d :: r => flatB d && flatL r
end
mutual
theorem flat_toP : ∀ {d : D}, flatB d = true → ∃ p, toP d = some p ∧ p.canLay0 = true ∧ p.depth ≤ dep d
  | .non, _ => ⟨.none, rfl, rfl, Nat.le_refl _⟩
  | .bl b, _ => ⟨.bool b, rfl, rfl, Nat.le_refl _⟩
  | .int i, _ => ⟨.int i, rfl, rfl, Nat.le_refl _⟩
  | .str x, h => ⟨.str x, rfl, by simp only [flatB] at h; simp only [PyData.canLay0]; exact h, Nat.le_refl _⟩
  | .lst xs, h => by
    have h : flatL xs = true := by simpa only [flatB] using h
    obtain ⟨ps, h1, h2, h3⟩ := flat_toPl h
    exact ⟨.list ps, by simp only [toP, h1], by simp only [PyData.canLay0]; exact h2, by simp only [PyData.depth, dep]; omega⟩
  | .tup xs, h => by
    have h : flatL xs = true := by simpa only [flatB] using h
    obtain ⟨ps, h1, h2, h3⟩ := flat_toPl h
    exact ⟨.tuple ps, by simp only [toP, h1], by simp only [PyData.canLay0]; exact h2, by simp only [PyData.depth, dep]; omega⟩
  | .dct .., h => by simp only [flatB] at h; cases h
  | .ins .., h => by simp only [flatB] at h; cases h
  | .scr _, h => by simp only [flatB] at h; cases h
  | .obj _, h => by simp only [flatB] at h; cases h
theorem flat_toPl : ∀ {ds : List D}, flatL ds = true → ∃ ps, toPl ds = some ps ∧ PyData.canLayAll0 ps = true ∧ PyData.depthAll ps ≤ depL ds
  | [], _ => ⟨[], rfl, rfl, Nat.le_refl _⟩
  | d :: r, h => by
    simp only [flatL] at h
    obtain ⟨h1, h2⟩ := Bool.and_eq_true_iff.mp h
    obtain ⟨p, a1, a2, a3⟩ := flat_toP h1
    obtain ⟨ps, b1, b2, b3⟩ := flat_toPl h2
    exact ⟨p :: ps, by simp only [toPl, a1, b1], by simp only [PyData.canLayAll0, a2, b2, Bool.and_self], by simp only [PyData.depthAll, depL]; omega⟩
end
theorem flat_shaped {d : D} {p : PyData} (h : flatB d = true) (hd : dep d ≤ 64) (e : toP d = some p) : SeqAt.shaped p = true := by
  obtain ⟨q, h1, h2, h3⟩ := flat_toP h
  rw [e] at h1
  cases h1
  unfold SeqAt.shaped
  rw [h2]
  simp
  omega
/-- a list against [] -/
theorem eq_nil {ds : List D} (M : MS) (h : flatL ds = true) (hd : depL ds ≤ 63) : gEq M (.dt (.lst ds)) (.dt (.lst [])) = some (.sv (.dt (.bl ds.isEmpty))) := by
  obtain ⟨ps, h1, h2, h3⟩ := flat_toPl h
  unfold gEq eqT eqS
  have e1 : toP (.lst ds) = some (.list ps) := by simp only [toP, h1]
  have e2 : toP (.lst []) = some (.list []) := rfl
  simp only [peek_dt', e1, e2]
  rw [flat_shaped (d := .lst ds) (by simp only [flatB]; exact h) (by simp only [dep]; omega) e1, flat_shaped (d := .lst []) rfl (by decide) e2]
  have e3 : PyData.eqv (.list ps) (.list []) = ds.isEmpty := by
    cases ds with
    | nil =>
      have : ps = [] := by
        simp only [toPl] at h1
        exact (Option.some.inj h1).symm
      subst this
      rfl
    | cons d r =>
      cases ps with
      | nil =>
        simp only [toPl] at h1
        split at h1 <;> simp at h1
      | cons p ps => rfl
  rw [e3]
  rfl
theorem flatL_of {ds : List D} (h : ∀ d ∈ ds, flatB d = true) : flatL ds = true := by
  induction ds with
  | nil => rfl
  | cons d r ih =>
    simp only [flatL, h d (by simp), ih fun x hx => h x (by simp [hx]), Bool.and_self]
theorem depL_of {ds : List D} {n : Nat} (h : ∀ d ∈ ds, dep d ≤ n) : depL ds ≤ n := by
  induction ds with
  | nil => simp [depL]
  | cons d r ih =>
    have h1 := h d (by simp)
    have h2 := ih fun x hx => h x (by simp [hx])
    simp only [depL]
    omega
theorem goodL_of {ds : List D} (h : ∀ d ∈ ds, goodD d = true) : goodL ds = true := by
  induction ds with
  | nil => rfl
  | cons d r ih =>
    simp only [goodL, h d (by simp), ih fun x hx => h x (by simp [hx]), Bool.and_self]
theorem swtL_of {ds : List D} {n : Nat} (h : ∀ d ∈ ds, swt d ≤ n) : swtL ds ≤ ds.length * (n + 2) := by
  induction ds with
  | nil => simp [swtL]
  | cons d r ih =>
    have h1 := h d (by simp)
    have h2 := ih fun x hx => h x (by simp [hx])
    simp only [swtL, List.length_cons, Nat.add_mul]
    omega
/-! ### more evaluation -/
section
variable {ρ : Env} {M : MS}
@[simp] theorem eChain_ev (g g' : MS → SV → SV → Option R) (ma mb mc : EM R) : eChain g g' ma mb mc ρ M = (ma ρ M).bind fun p => (mb ρ p.2).bind fun q => (g q.2 p.1.toSV q.1.toSV).bind fun z => (asB z).bind fun k => if k = true then ((mc ρ q.2).bind fun r => (g' r.2 q.1.toSV r.1.toSV).bind fun z => some (z, r.2)) else some (.sv (.dt (.bl false)), q.2) := by
  unfold eChain
  rw [seq_ev, fz_ev]
  cases ma ρ M with
  | none => rfl
  | some p =>
    simp only [Option.bind_some, seq_ev, fz_ev]
    cases mb ρ p.2 with
    | none => rfl
    | some q =>
      simp only [Option.bind_some]
      cases g q.2 p.1.toSV q.1.toSV with
      | none => rfl
      | some z =>
        simp only [Option.bind_some]
        cases z with
        | sv s =>
          cases s with
          | dt d =>
            cases d with
            | bl k =>
              cases k with
              | true =>
                simp only [asB_bl, Option.bind_some, if_true]
                cases mc ρ q.2 with
                | none => rfl
                | some r =>
                  simp only [Option.bind_some]
                  cases g' r.2 q.1.toSV r.1.toSV <;> rfl
              | false => rfl
            | _ => rfl
          | mu k => rfl
        | fr xs => rfl
        | fd ks xs => rfl
@[simp] theorem gLe_ev (i j : Int) : gLe M (.dt (.int i)) (.dt (.int j)) = some (.sv (.dt (.bl (decide (i ≤ j))))) := rfl
@[simp] theorem gLt_ev (i j : Int) : gLt M (.dt (.int i)) (.dt (.int j)) = some (.sv (.dt (.bl (decide (i < j))))) := rfl
@[simp] theorem gGt_ev (i j : Int) : gGt M (.dt (.int i)) (.dt (.int j)) = some (.sv (.dt (.bl (decide (j < i))))) := rfl
@[simp] theorem gGe_ev (i j : Int) : gGe M (.dt (.int i)) (.dt (.int j)) = some (.sv (.dt (.bl (decide (j ≤ i))))) := rfl
@[simp] theorem gAdd_int (i j : Int) : gAdd M (.dt (.int i)) (.dt (.int j)) = some (.sv (.dt (.int (i + j)))) := rfl
@[simp] theorem close_dt (d : D) (n : Nat) : close (.sv (.dt d)) M n = some (.sv (.dt d), M.take n) := rfl
@[simp] theorem close_fr (ds : List D) (n : Nat) : close (.fr ds) M n = some (.fr ds, M.take n) := rfl
@[simp] theorem close_fd (ks : List Key) (ds : List D) (n : Nat) : close (.fd ks ds) M n = some (.fd ks ds, M.take n) := rfl
/-- a body's run by its outcome -/
def fin (o : Option Out) (n : Nat) : Option (R × MS) := match o with
  | some (.rt r M') => close r M' n
  | some (.nx _ M') => some (.sv (.dt .non), M'.take n)
  | _ => none
theorem runBody_eq (b : SM) (n : Nat) (ss : List SV) (M : MS) : runBody b n ss M = fin (b (ss.map some ++ List.replicate (n - ss.length) none) M) M.length := rfl
@[simp] theorem fin_rt (r : R) (n : Nat) : fin (some (.rt r M)) n = close r M n := rfl
@[simp] theorem fin_nx (n : Nat) : fin (some (.nx ρ M)) n = some (.sv (.dt .non), M.take n) := rfl
end
/-! ### comprehensions over data -/
def unD {α : Type} (a : α) (f : D → α) : SV → α
  | .dt d => f d
  | .mu _ => a
theorem filter_unD (p : D → Bool) (f : D → D) (ds : List D) : (((ds.map SV.dt).filter (unD false p)).map (unD .non f)) = (ds.filter p).map f := by
  induction ds with
  | nil => rfl
  | cons d r ih =>
    rw [List.map_cons]
    by_cases h : p d = true
    · rw [List.filter_cons_of_pos (show unD false p (.dt d) = true from h), List.filter_cons_of_pos h, List.map_cons, List.map_cons, ih]
      rfl
    · rw [List.filter_cons_of_neg (show ¬ unD false p (.dt d) = true from h), List.filter_cons_of_neg h, ih]
theorem comp_data {m : EM R} {c : EM Bool} {el : EM R} {j : Nat} {ρ : Env} {M : MS} {r : R} {src : Src} {ds : List D} (p : D → Bool) (f : D → D) (hm : m ρ M = some (r, M)) (hr : seqSrc M r.toSV = some src) (hs : IsSrc src (ds.map .dt)) (hl : ds.length ≤ 16777216)
    (step : ∀ d ∈ ds, c ((ρ.set j none).set j (some (.dt d))) M = some (p d, M) ∧ (p d = true → ∃ r, el ((ρ.set j none).set j (some (.dt d))) M = some (r, M) ∧ r.toSV = .dt (f d))) :
    eComp (eSeq m) (bName j) c el [j] ρ M = some (.fr ((ds.filter p).map f), M) := by
  rw [comp_pure (src := src) (xs := ds.map .dt) (M0 := M) (unD false p) (unD .non f) (by rw [eSeq_ev, hm]; simp only [Option.bind_some, hr]) hs (by rw [sizeLine_eq]; simpa using hl) ?_, filter_unD]
  intro x hx
  rw [List.mem_map] at hx
  obtain ⟨d, hd, rfl⟩ := hx
  obtain ⟨h1, h2⟩ := step d hd
  exact ⟨_, rfl, h1, h2⟩
theorem comp_lst {m : EM R} {c : EM Bool} {el : EM R} {j : Nat} {ρ : Env} {M : MS} {r : R} {ds : List D} (p : D → Bool) (f : D → D) (hm : m ρ M = some (r, M)) (hr : r.toSV = .dt (.lst ds) ∨ r.toSV = .dt (.tup ds)) (hl : ds.length ≤ 16777216)
    (step : ∀ d ∈ ds, c ((ρ.set j none).set j (some (.dt d))) M = some (p d, M) ∧ (p d = true → ∃ r, el ((ρ.set j none).set j (some (.dt d))) M = some (r, M) ∧ r.toSV = .dt (f d))) :
    eComp (eSeq m) (bName j) c el [j] ρ M = some (.fr ((ds.filter p).map f), M) := by
  rcases hr with hr | hr
  · obtain ⟨src, e, hs⟩ := isSrc_lst (M := M) (ds := ds)
    exact comp_data p f hm (by rw [hr]; exact e) hs hl step
  · obtain ⟨src, e, hs⟩ := isSrc_tup (M := M) (ds := ds)
    exact comp_data p f hm (by rw [hr]; exact e) hs hl step
def sg (c : Nat) : D := .str ⟨#[c]⟩
theorem comp_str {m : EM R} {c : EM Bool} {el : EM R} {j : Nat} {ρ : Env} {M : MS} {r : R} {z : Str} (p : D → Bool) (f : D → D) (hm : m ρ M = some (r, M)) (hr : r.toSV = .dt (.str z)) (hl : z.length ≤ 16777216)
    (step : ∀ d ∈ signs z, c ((ρ.set j none).set j (some (.dt d))) M = some (p d, M) ∧ (p d = true → ∃ r, el ((ρ.set j none).set j (some (.dt d))) M = some (r, M) ∧ r.toSV = .dt (f d))) :
    eComp (eSeq m) (bName j) c el [j] ρ M = some (.fr (((signs z).filter p).map f), M) := by
  obtain ⟨src, e, hs⟩ := isSrc_str (M := M) (z := z)
  refine comp_data p f hm (by rw [hr]; exact e) hs ?_ step
  have : (signs z).length = z.length := by simp [signs, Str.length]
  omega
theorem bools_all (bs : List Bool) : dBools (bs.map D.bl) = some bs := by
  induction bs with
  | nil => rfl
  | cons b r ih => simp [dBools, ih]
theorem all_ev {M : MS} {ds : List D} (p : D → Bool) : allS M (.dt (.lst (ds.map fun d => .bl (p d)))) = some (.sv (.dt (.bl (ds.all p)))) := by
  unfold allS
  have e : (ds.map fun d => D.bl (p d)) = (ds.map p).map D.bl := by rw [List.map_map]; rfl
  rw [listD_lst, e]
  simp only [bools_all]
  rw [List.all_map]
  rfl
end Dy

set_option Elab.async false
set_option linter.all false
set_option maxRecDepth 100000
set_option maxHeartbeats 4000000
/-! Layer Dy, part 19: drawn things. -/
namespace Dy
open PySem L2 PyProof.Rows
/-! ### texts -/
theorem okS_iff {x : Str} : okS x = true ↔ ∀ c ∈ x.cps.toList, c < 0x110000 := by
  unfold okS
  rw [← Array.all_toList, List.all_eq_true]
  constructor
  · intro h c hc
    exact of_decide_eq_true (h c hc)
  · intro h c hc
    exact decide_eq_true (h c hc)
theorem okS_app {x y : Str} (hx : okS x = true) (hy : okS y = true) : okS (x ++ y) = true := by
  rw [okS_iff] at *
  intro c hc
  rw [show (x ++ y).cps.toList = x.cps.toList ++ y.cps.toList from TL.tl_append x y] at hc
  rcases List.mem_append.mp hc with h | h
  · exact hx c h
  · exact hy c h
theorem okS_cut {z : Str} {lo hi : Option Int} (h : okS z = true) : okS (cutS z lo hi) = true := by
  rw [okS_iff] at *
  intro c hc
  have e : (cutS z lo hi).cps.toList = (z.cps.toList.drop (HT.sIx z.length 0 lo)).take (HT.sIx z.length z.length hi - HT.sIx z.length 0 lo) := by
    unfold cutS
    simp
  rw [e] at hc
  exact h c (List.mem_of_mem_drop (List.mem_of_mem_take hc))
theorem okS_one {c : Nat} (h : c < 0x110000) : okS ⟨#[c]⟩ = true := by
  rw [okS_iff]
  intro d hd
  have : d = c := by simpa using hd
  omega
theorem join_nil_tl : ∀ ys : List Str, (Txt.join (Str.ofString "") ys).cps.toList = (ys.map fun y => y.cps.toList).flatten := fun ys => by
  rw [TL.join_eq]
  have e := TL.tl_join (Str.ofString "") ys
  have e2 : (Str.join (Str.ofString "") ys).cps.toList = TL.joinL [] (ys.map TL.tl) := e
  rw [e2]
  have key : ∀ l : List (List Nat), TL.joinL [] l = l.flatten := by
    intro l
    induction l with
    | nil => rfl
    | cons p r ih =>
      cases r with
      | nil => simp [TL.joinL]
      | cons q r => simp only [TL.joinL, List.nil_append, ih, List.flatten_cons]
  exact key _
/-! ### evaluation -/
section
variable {ρ : Env} {M : MS}
@[simp] theorem eRng1_ev (m : EM R) : eRng1 (eCons m eNil) ρ M = (m ρ M).bind fun p => (asI p.1.toSV).bind fun j => if isRange j = true then some (rngSrc 0 j.toNat, p.2) else none := by
  unfold eRng1
  rw [seq_ev, eCons_ev]
  cases m ρ M with
  | none => rfl
  | some p =>
    simp only [Option.bind_some, eNil_ev]
    cases p.1.toSV with
    | dt d => cases d <;> rfl
    | mu k => rfl
@[simp] theorem eMt_ev (T : String) (g : MS → SV → List SV → Option (R × MS)) (m : EM R) (ms : EM (List SV)) : eMt T g m ms ρ M = (m ρ M).bind fun p => if isTyS T p.2 p.1.toSV = true then ((ms ρ p.2).bind fun q => g q.2 p.1.toSV q.1) else none := by
  unfold eMt
  rw [seq_ev, fz_ev]
  cases m ρ M with
  | none => rfl
  | some p =>
    simp only [Option.bind_some]
    split
    · rw [seq_ev]
    · rfl
@[simp] theorem sNew_fr {i : Nat} {me : EM R} {ds : List D} {M' : MS} (h : me ρ M = some (.fr ds, M')) : sNew i me ρ M = some (.nx (ρ.set i (some (.mu M'.length))) (M' ++ [.l (ds.map .dt)])) := by
  unfold sNew
  rw [h]
@[simp] theorem eIsiC_ev (C : Addr) (m : EM R) : eIsiC C m ρ M = (m ρ M).bind fun p => (isiCS C p.2 p.1.toSV).bind fun b => some (.sv (.dt (.bl b)), p.2) := by
  unfold eIsiC
  rw [seq_ev, fz_ev]
  cases m ρ M with
  | none => rfl
  | some p =>
    simp only [Option.bind_some]
    cases isiCS C p.2 p.1.toSV <;> rfl
end
theorem atI_in {α : Type} {xs : List α} {i : Int} (h0 : 0 ≤ i) (h1 : i < xs.length) : ∃ x ∈ xs, atI xs i = some x ∧ xs[i.toNat]? = some x := by
  have hl : i.toNat < xs.length := by omega
  refine ⟨xs[i.toNat], List.getElem_mem _, ?_, List.getElem?_eq_getElem hl⟩
  unfold atI ixN
  rw [if_pos h0, if_pos h1]
  exact List.getElem?_eq_getElem hl
theorem gIx_lst {M : MS} {ds : List D} {i : Int} (h0 : 0 ≤ i) (h1 : i < ds.length) : ∃ d ∈ ds, gIx M (.dt (.lst ds)) (.dt (.int i)) = some (.sv (.dt d)) ∧ ds[i.toNat]? = some d := by
  have hl : i.toNat < ds.length := by omega
  refine ⟨ds[i.toNat], List.getElem_mem _, ?_, List.getElem?_eq_getElem hl⟩
  unfold gIx
  simp only [itemsOf_lst]
  unfold atI ixN
  rw [if_pos h0, if_pos (by simpa using h1)]
  simp [List.getElem?_eq_getElem hl]
theorem gIx_tup {M : MS} {ds : List D} {i : Int} (h0 : 0 ≤ i) (h1 : i < ds.length) : ∃ d ∈ ds, gIx M (.dt (.tup ds)) (.dt (.int i)) = some (.sv (.dt d)) ∧ ds[i.toNat]? = some d := by
  have hl : i.toNat < ds.length := by omega
  refine ⟨ds[i.toNat], List.getElem_mem _, ?_, List.getElem?_eq_getElem hl⟩
  unfold gIx
  simp only [itemsOf_tup]
  unfold atI ixN
  rw [if_pos h0, if_pos (by simpa using h1)]
  simp [List.getElem?_eq_getElem hl]
theorem gIx_str {M : MS} {z : Str} {i : Int} (hz : z.length ≤ 16777216) (h0 : 0 ≤ i) (h1 : i < z.length) : ∃ c ∈ z.cps.toList, gIx M (.dt (.str z)) (.dt (.int i)) = some (.sv (.dt (.str ⟨#[c]⟩))) := by
  obtain ⟨c, hc, e, _⟩ := atI_in (xs := z.cps.toList) h0 (by simpa [Str.length] using h1)
  refine ⟨c, hc, ?_⟩
  unfold gIx
  simp only [sizeLine_ev, if_pos hz, e]
/-! ### comprehensions that draw -/
def Bagged (R : MS) (M : MS) : Prop := ∃ B, M = B :: R ∧ BagO B
theorem comp_each_go {src : Src} {xs : List SV} {b : Bnd} {el : EM R} {ρ0 : Env} (hs : IsSrc src xs) (Inv : MS → Prop) (P : D → Prop) (hl : xs.length ≤ sizeLine)
    (step : ∀ x ∈ xs, ∀ M, Inv M → ∃ ρ1, b x ρ0 = some ρ1 ∧ ∃ r d M2, el ρ1 M = some (r, M2) ∧ r.toSV = .dt d ∧ P d ∧ Inv M2) :
    ∀ (k i : Nat) (acc : List D) (M : MS), i + k = xs.length → acc.length = i → (∀ d ∈ acc, P d) → Inv M → ∃ ds M', compGo src b cYes el ρ0 k i acc M = some (ds, M') ∧ Inv M' ∧ (∀ d ∈ ds, P d) ∧ ds.length = xs.length
  | 0, i, acc, M, hi, ha, hp, hM => by
    refine ⟨acc, M, ?_, hM, hp, by omega⟩
    show (if src.stop M i = true then some (acc, M) else none) = _
    rw [hs.stop, if_pos (decide_eq_true (by omega))]
  | k + 1, i, acc, M, hi, ha, hp, hM => by
    have hx : xs[i]? = some xs[i] := List.getElem?_eq_getElem (by omega)
    obtain ⟨ρ1, hb, r, d, M2, he, hr, hd, hM2⟩ := step xs[i] (List.getElem_mem _) M hM
    unfold compGo
    rw [hs.get, hx]
    simp only [hb, cYes_ev]
    have hf : fz el ρ1 M = some (.dt d, M2) := by
      unfold fz EM.seq
      rw [he]
      show some (r.toSV, M2) = _
      rw [hr]
    simp only [hf]
    rw [if_pos (by omega)]
    refine comp_each_go hs Inv P hl step k (i + 1) (acc ++ [d]) M2 (by omega) (by simp; omega) (fun y hy => ?_) hM2
    rcases List.mem_append.mp hy with h | h
    · exact hp y h
    · rw [List.mem_singleton.mp h]; exact hd
theorem comp_each {src : Src} {xs : List SV} {b : Bnd} {el : EM R} {ms : EM Src} {vs : List Nat} {ρ : Env} {M M0 : MS} (Inv : MS → Prop) (P : D → Prop) (hm : ms ρ M = some (src, M0)) (hs : IsSrc src xs) (hl : xs.length ≤ 16777216) (h0 : Inv M0)
    (step : ∀ x ∈ xs, ∀ M, Inv M → ∃ ρ1, b x (wipeE ρ vs) = some ρ1 ∧ ∃ r d M2, el ρ1 M = some (r, M2) ∧ r.toSV = .dt d ∧ P d ∧ Inv M2) :
    ∃ ds M', eComp ms b cYes el vs ρ M = some (.fr ds, M') ∧ Inv M' ∧ (∀ d ∈ ds, P d) ∧ ds.length = xs.length := by
  obtain ⟨ds, M', h1, h2, h3, h4⟩ := comp_each_go (ρ0 := wipeE ρ vs) hs Inv P (by rw [sizeLine_eq]; exact hl) step xs.length 0 [] M0 (by omega) rfl (by simp) h0
  refine ⟨ds, M', ?_, h2, h3, h4⟩
  unfold eComp
  simp only [hm]
  rw [hs.n, h1]
theorem comp_draw {ms : EM Src} {j : Nat} {el : EM R} {ρ : Env} {M : MS} {lo : Int} {n : Nat} {B : MO} {R : MS} (P : D → Prop) (hm : ms ρ M = some (rngSrc lo n, B :: R)) (hB : BagO B) (hn : n ≤ 16777216)
    (step : ∀ i, i < n → ∀ B, BagO B → ∃ r d B', el ((ρ.set j none).set j (some (.dt (.int (lo + (i : Nat)))))) (B :: R) = some (r, B' :: R) ∧ r.toSV = .dt d ∧ P d ∧ BagO B') :
    ∃ ds B', eComp ms (bName j) cYes el [j] ρ M = some (.fr ds, B' :: R) ∧ BagO B' ∧ (∀ d ∈ ds, P d) ∧ ds.length = n := by
  obtain ⟨ds, M', h1, ⟨B', rfl, hB'⟩, h3, h4⟩ := comp_each (vs := [j]) (ρ := ρ) (M := M) (b := bName j) (el := el) (Bagged R) P hm (isSrc_rng lo n) (by simpa using hn) ⟨B, rfl, hB⟩ (fun x hx M hM => by
    simp only [List.mem_map, List.mem_range] at hx
    obtain ⟨i, hi, rfl⟩ := hx
    obtain ⟨B0, rfl, hB0⟩ := hM
    obtain ⟨r, d, B', e1, e2, e3, e4⟩ := step i hi B0 hB0
    exact ⟨_, rfl, r, d, B' :: R, e1, e2, e3, ⟨B', rfl, e4⟩⟩)
  exact ⟨ds, B', h1, hB', h3, by simpa using h4⟩
theorem isRange_of {i : Int} (h0 : -1000000000 ≤ i) (h1 : i ≤ 1000000000) : isRange i = true := by
  unfold isRange
  simp
  omega

/-! ### a list behind a handle -/
theorem peeks_map (n : Nat) (M : MS) (ds : List D) : peeks (peekN n M) (ds.map .dt) = some ds := by
  induction ds with
  | nil => rfl
  | cons d r ih =>
    simp only [List.map_cons, peeks, peek_dt, ih]
theorem peek_mu {M : MS} {k : Nat} {ds : List D} (h : M[k]? = some (.l (ds.map .dt))) : peek M (.mu k) = some (.lst ds) := by
  show peekN 3 M (.mu k) = _
  unfold peekN
  rw [h]
  simp only [peeks_map]
theorem eqS_nil {M : MS} {s : SV} {ds : List D} (hp : peek M s = some (.lst ds)) (h : flatL ds = true) (hd : depL ds ≤ 63) : eqS M s (.dt (.lst [])) = some ds.isEmpty := by
  have e := eq_nil (ds := ds) M h hd
  unfold gEq at e
  have e0 : eqT M (.dt (.lst ds)) (.dt (.lst [])) = eqS M (.dt (.lst ds)) (.dt (.lst [])) := rfl
  rw [e0] at e
  have e1 : eqS M s (.dt (.lst [])) = eqS M (.dt (.lst ds)) (.dt (.lst [])) := by
    unfold eqS
    simp only [hp, peek_dt']
  rw [e1]
  cases h2 : eqS M (.dt (.lst ds)) (.dt (.lst [])) with
  | none => rw [h2] at e; cases e
  | some b =>
    rw [h2] at e
    have : b = ds.isEmpty := by simpa [rB] using e
    rw [this]
theorem ne_nil_mu {M : MS} {k : Nat} {ds : List D} (h : M[k]? = some (.l (ds.map .dt))) (hf : flatL ds = true) (hd : depL ds ≤ 63) : gNe M (.mu k) (.dt (.lst [])) = some (.sv (.dt (.bl (!ds.isEmpty)))) := by
  unfold gNe
  have e0 : eqT M (.mu k) (.dt (.lst [])) = eqS M (.mu k) (.dt (.lst [])) := rfl
  rw [e0, eqS_nil (peek_mu h) hf hd]
  rfl
theorem listOf_mu {M : MS} {k : Nat} {xs : List SV} (h : M[k]? = some (.l xs)) : listOf M (.mu k) = some xs := by
  unfold listOf
  simp only [h]
theorem listD_mu {M : MS} {k : Nat} {ds : List D} (h : M[k]? = some (.l (ds.map .dt))) : listD M (.mu k) = some ds := by
  unfold listD
  rw [listOf_mu h]
  exact allD_map ds
theorem itemsOf_mu {M : MS} {k : Nat} {xs : List SV} (h : M[k]? = some (.l xs)) : itemsOf M (.mu k) = some xs := by
  unfold itemsOf
  exact listOf_mu h
theorem itemsD_mu {M : MS} {k : Nat} {ds : List D} (h : M[k]? = some (.l (ds.map .dt))) : itemsD M (.mu k) = some ds := by
  unfold itemsD
  rw [itemsOf_mu h]
  exact allD_map ds
theorem lenS_mu {M : MS} {k : Nat} {ds : List D} (h : M[k]? = some (.l (ds.map .dt))) : lenS M (.mu k) = some (.sv (.dt (.int ds.length))) := by
  unfold lenS
  simp only [itemsOf_mu h]
  simp
theorem muL_mu {M : MS} {k : Nat} {xs : List SV} (h : M[k]? = some (.l xs)) : muL M (.mu k) = some (k, xs) := by
  unfold muL
  simp only [h]
theorem setAt_mu {M : MS} {k : Nat} {ds : List D} {i : Int} {d : D} (h : M[k]? = some (.l (ds.map .dt))) (h0 : 0 ≤ i) (h1 : i < ds.length) : setAt M (.mu k) (.dt (.int i)) (.dt d) = some (M.set k (.l ((ds.set i.toNat d).map .dt))) := by
  unfold setAt
  rw [muL_mu h]
  simp [ixN, h0, h1, List.map_set]
theorem tupleS_mu {M : MS} {k : Nat} {ds : List D} (h : M[k]? = some (.l (ds.map .dt))) : tupleS M (.mu k) = some (.sv (.dt (.tup ds))) := by
  unfold tupleS
  simp only [listD_mu h]
theorem close_mu {M : MS} {k n : Nat} {ds : List D} (h : M[k]? = some (.l (ds.map .dt))) (hk : n ≤ k) : close (.sv (.mu k)) M n = some (.fr ds, M.take n) := by
  unfold close
  dsimp only
  rw [if_neg (by omega)]
  simp only [h, allD_map]
@[simp] theorem tupleS_lst {M : MS} (ds : List D) : tupleS M (.dt (.lst ds)) = some (.sv (.dt (.tup ds))) := by
  unfold tupleS
  simp only [listD_lst]
@[simp] theorem tupleS_tup {M : MS} (ds : List D) : tupleS M (.dt (.tup ds)) = some (.sv (.dt (.tup ds))) := rfl
@[simp] theorem listS_lst {M : MS} (ds : List D) : listS M (.dt (.lst ds)) = some (.fr ds) := by
  unfold listS
  simp only [itemsD_lst]
@[simp] theorem listS_tup {M : MS} (ds : List D) : listS M (.dt (.tup ds)) = some (.fr ds) := by
  unfold listS
  simp only [itemsD_tup]
end Dy

set_option Elab.async false
set_option linter.all false
set_option maxRecDepth 100000
set_option maxHeartbeats 0
namespace K11
open PySem PySem.Spec PyProof.Rows L2 Dy
def top (i : Nat) : Stmt := PySem.Challenge.pw_movedchecks_k11_kinds.main.body.getD i (.Pass ⟨0, 0, 0, 0⟩)
abbrev s_law : Stmt := top 65
abbrev i_law : Nat := 0
abbrev N_law : List Str := ["_law_script", "_law_bag_here", "_law_some_here", "_law_thing", "_law_most", "_law_due", "_law_shown", "_law_again", "_law_found", "_law_k"]
abbrev p_law : List Str := ["_law_script"]
def d_law : He.DefD := ⟨("law", none), "law", "law", defArgs s_law, defBody s_law, defScope s_law, [], []⟩
theorem sc_law : FnScope N_law p_law (defScope s_law) := ⟨rfl, rfl, rfl, by decide +kernel, rfl, by decide +kernel, by decide +kernel⟩
abbrev s__law_bag : Stmt := top 53
abbrev i__law_bag : Nat := 1
abbrev N__law_bag : List Str := ["_law_script", "_law_cell"]
abbrev p__law_bag : List Str := ["_law_script"]
def d__law_bag : He.DefD := ⟨("_law_bag", none), "_law_bag", "_law_bag", defArgs s__law_bag, defBody s__law_bag, defScope s__law_bag, [], []⟩
theorem sc__law_bag : FnScope N__law_bag p__law_bag (defScope s__law_bag) := ⟨rfl, rfl, rfl, by decide +kernel, rfl, by decide +kernel, by decide +kernel⟩
abbrev s__law_some : Stmt := top 63
abbrev i__law_some : Nat := 2
abbrev N__law_some : List Str := ["_law_bag_here", "_law_style", "_law_some_here", "_law_words", "_law_k"]
abbrev p__law_some : List Str := ["_law_bag_here"]
def d__law_some : He.DefD := ⟨("_law_some", none), "_law_some", "_law_some", defArgs s__law_some, defBody s__law_some, defScope s__law_some, [], []⟩
theorem sc__law_some : FnScope N__law_some p__law_some (defScope s__law_some) := ⟨rfl, rfl, rfl, by decide +kernel, rfl, by decide +kernel, by decide +kernel⟩
abbrev s_Program___init__ : Stmt := meth (top 51) 0
abbrev i_Program___init__ : Nat := 3
abbrev N_Program___init__ : List Str := ["self", "inputs", "rows", "row"]
abbrev p_Program___init__ : List Str := ["self", "inputs", "rows"]
def d_Program___init__ : He.DefD := ⟨("Program", some "__init__"), "__init__", "Program.__init__", defArgs s_Program___init__, defBody s_Program___init__, defScope s_Program___init__, [], []⟩
theorem sc_Program___init__ : FnScope N_Program___init__ p_Program___init__ (defScope s_Program___init__) := ⟨rfl, rfl, rfl, by decide +kernel, rfl, by decide +kernel, by decide +kernel⟩
abbrev s__law_take : Stmt := top 54
abbrev i__law_take : Nat := 4
abbrev N__law_take : List Str := ["_law_bag_here", "_law_many", "_law_cell", "_law_mixed", "_law_drawn", "_law_early", "_law_second"]
abbrev p__law_take : List Str := ["_law_bag_here", "_law_many"]
def d__law_take : He.DefD := ⟨("_law_take", none), "_law_take", "_law_take", defArgs s__law_take, defBody s__law_take, defScope s__law_take, [], []⟩
theorem sc__law_take : FnScope N__law_take p__law_take (defScope s__law_take) := ⟨rfl, rfl, rfl, by decide +kernel, rfl, by decide +kernel, by decide +kernel⟩
abbrev s__law_is_address : Stmt := top 60
abbrev i__law_is_address : Nat := 5
abbrev N__law_is_address : List Str := ["_law_thing", "_law_part"]
abbrev p__law_is_address : List Str := ["_law_thing"]
def d__law_is_address : He.DefD := ⟨("_law_is_address", none), "_law_is_address", "_law_is_address", defArgs s__law_is_address, defBody s__law_is_address, defScope s__law_is_address, [], []⟩
theorem sc__law_is_address : FnScope N__law_is_address p__law_is_address (defScope s__law_is_address) := ⟨rfl, rfl, rfl, by decide +kernel, rfl, by decide +kernel, by decide +kernel⟩
abbrev s__law_is_name : Stmt := top 58
abbrev i__law_is_name : Nat := 6
abbrev N__law_is_name : List Str := ["_law_thing", "_law_letter"]
abbrev p__law_is_name : List Str := ["_law_thing"]
def d__law_is_name : He.DefD := ⟨("_law_is_name", none), "_law_is_name", "_law_is_name", defArgs s__law_is_name, defBody s__law_is_name, defScope s__law_is_name, [], []⟩
theorem sc__law_is_name : FnScope N__law_is_name p__law_is_name (defScope s__law_is_name) := ⟨rfl, rfl, rfl, by decide +kernel, rfl, by decide +kernel, by decide +kernel⟩
abbrev s__law_is_integer : Stmt := top 57
abbrev i__law_is_integer : Nat := 7
abbrev N__law_is_integer : List Str := ["_law_thing"]
abbrev p__law_is_integer : List Str := ["_law_thing"]
def d__law_is_integer : He.DefD := ⟨("_law_is_integer", none), "_law_is_integer", "_law_is_integer", defArgs s__law_is_integer, defBody s__law_is_integer, defScope s__law_is_integer, [], []⟩
theorem sc__law_is_integer : FnScope N__law_is_integer p__law_is_integer (defScope s__law_is_integer) := ⟨rfl, rfl, rfl, by decide +kernel, rfl, by decide +kernel, by decide +kernel⟩
abbrev s__law_are_choices : Stmt := top 64
abbrev i__law_are_choices : Nat := 8
abbrev N__law_are_choices : List Str := ["_law_thing", "_law_word"]
abbrev p__law_are_choices : List Str := ["_law_thing"]
def d__law_are_choices : He.DefD := ⟨("_law_are_choices", none), "_law_are_choices", "_law_are_choices", defArgs s__law_are_choices, defBody s__law_are_choices, defScope s__law_are_choices, [], []⟩
theorem sc__law_are_choices : FnScope N__law_are_choices p__law_are_choices (defScope s__law_are_choices) := ⟨rfl, rfl, rfl, by decide +kernel, rfl, by decide +kernel, by decide +kernel⟩
abbrev s__law_are_names : Stmt := top 59
abbrev i__law_are_names : Nat := 9
abbrev N__law_are_names : List Str := ["_law_thing", "_law_upto", "_law_one"]
abbrev p__law_are_names : List Str := ["_law_thing", "_law_upto"]
def d__law_are_names : He.DefD := ⟨("_law_are_names", none), "_law_are_names", "_law_are_names", defArgs s__law_are_names, defBody s__law_are_names, defScope s__law_are_names, [], []⟩
theorem sc__law_are_names : FnScope N__law_are_names p__law_are_names (defScope s__law_are_names) := ⟨rfl, rfl, rfl, by decide +kernel, rfl, by decide +kernel, by decide +kernel⟩
abbrev s_are_choices : Stmt := top 9
abbrev i_are_choices : Nat := 10
abbrev N_are_choices : List Str := ["thing", "word"]
abbrev p_are_choices : List Str := ["thing"]
def d_are_choices : He.DefD := ⟨("are_choices", none), "are_choices", "are_choices", defArgs s_are_choices, defBody s_are_choices, defScope s_are_choices, [], []⟩
theorem sc_are_choices : FnScope N_are_choices p_are_choices (defScope s_are_choices) := ⟨rfl, rfl, rfl, by decide +kernel, rfl, by decide +kernel, by decide +kernel⟩
abbrev s_are_names : Stmt := top 8
abbrev i_are_names : Nat := 11
abbrev N_are_names : List Str := ["thing", "most", "name"]
abbrev p_are_names : List Str := ["thing", "most"]
def d_are_names : He.DefD := ⟨("are_names", none), "are_names", "are_names", defArgs s_are_names, defBody s_are_names, defScope s_are_names, [], []⟩
theorem sc_are_names : FnScope N_are_names p_are_names (defScope s_are_names) := ⟨rfl, rfl, rfl, by decide +kernel, rfl, by decide +kernel, by decide +kernel⟩
abbrev s_is_address : Stmt := top 7
abbrev i_is_address : Nat := 12
abbrev N_is_address : List Str := ["thing", "part"]
abbrev p_is_address : List Str := ["thing"]
def d_is_address : He.DefD := ⟨("is_address", none), "is_address", "is_address", defArgs s_is_address, defBody s_is_address, defScope s_is_address, [], []⟩
theorem sc_is_address : FnScope N_is_address p_is_address (defScope s_is_address) := ⟨rfl, rfl, rfl, by decide +kernel, rfl, by decide +kernel, by decide +kernel⟩
abbrev s_is_name : Stmt := top 6
abbrev i_is_name : Nat := 13
abbrev N_is_name : List Str := ["thing", "letter"]
abbrev p_is_name : List Str := ["thing"]
def d_is_name : He.DefD := ⟨("is_name", none), "is_name", "is_name", defArgs s_is_name, defBody s_is_name, defScope s_is_name, [], []⟩
theorem sc_is_name : FnScope N_is_name p_is_name (defScope s_is_name) := ⟨rfl, rfl, rfl, by decide +kernel, rfl, by decide +kernel, by decide +kernel⟩
abbrev s_is_integer : Stmt := top 5
abbrev i_is_integer : Nat := 14
abbrev N_is_integer : List Str := ["thing"]
abbrev p_is_integer : List Str := ["thing"]
def d_is_integer : He.DefD := ⟨("is_integer", none), "is_integer", "is_integer", defArgs s_is_integer, defBody s_is_integer, defScope s_is_integer, [], []⟩
theorem sc_is_integer : FnScope N_is_integer p_is_integer (defScope s_is_integer) := ⟨rfl, rfl, rfl, by decide +kernel, rfl, by decide +kernel, by decide +kernel⟩
abbrev s__law_alike : Stmt := top 55
abbrev i__law_alike : Nat := 15
abbrev N__law_alike : List Str := ["_law_found", "_law_due"]
abbrev p__law_alike : List Str := ["_law_found", "_law_due"]
def d__law_alike : He.DefD := ⟨("_law_alike", none), "_law_alike", "_law_alike", defArgs s__law_alike, defBody s__law_alike, defScope s__law_alike, [], []⟩
theorem sc__law_alike : FnScope N__law_alike p__law_alike (defScope s__law_alike) := ⟨rfl, rfl, rfl, by decide +kernel, rfl, by decide +kernel, by decide +kernel⟩
abbrev s__law_odd : Stmt := top 56
abbrev i__law_odd : Nat := 16
abbrev N__law_odd : List Str := ["_law_bag_here", "_law_name", "_law_odd_here"]
abbrev p__law_odd : List Str := ["_law_bag_here", "_law_name"]
def d__law_odd : He.DefD := ⟨("_law_odd", none), "_law_odd", "_law_odd", defArgs s__law_odd, defBody s__law_odd, defScope s__law_odd, [], []⟩
theorem sc__law_odd : FnScope N__law_odd p__law_odd (defScope s__law_odd) := ⟨rfl, rfl, rfl, by decide +kernel, rfl, by decide +kernel, by decide +kernel⟩
abbrev s__law_near_name : Stmt := top 61
abbrev i__law_near_name : Nat := 17
abbrev N__law_near_name : List Str := ["_law_bag_here", "_law_signs", "_law_name", "_law_at", "_law_style", "_law_k"]
abbrev p__law_near_name : List Str := ["_law_bag_here"]
def d__law_near_name : He.DefD := ⟨("_law_near_name", none), "_law_near_name", "_law_near_name", defArgs s__law_near_name, defBody s__law_near_name, defScope s__law_near_name, [], []⟩
theorem sc__law_near_name : FnScope N__law_near_name p__law_near_name (defScope s__law_near_name) := ⟨rfl, rfl, rfl, by decide +kernel, rfl, by decide +kernel, by decide +kernel⟩
abbrev s__law_near_address : Stmt := top 62
abbrev i__law_near_address : Nat := 18
abbrev N__law_near_address : List Str := ["_law_bag_here", "_law_found", "_law_k"]
abbrev p__law_near_address : List Str := ["_law_bag_here"]
def d__law_near_address : He.DefD := ⟨("_law_near_address", none), "_law_near_address", "_law_near_address", defArgs s__law_near_address, defBody s__law_near_address, defScope s__law_near_address, [], []⟩
theorem sc__law_near_address : FnScope N__law_near_address p__law_near_address (defScope s__law_near_address) := ⟨rfl, rfl, rfl, by decide +kernel, rfl, by decide +kernel, by decide +kernel⟩
abbrev s_are_inputs : Stmt := top 50
abbrev i_are_inputs : Nat := 19
abbrev N_are_inputs : List Str := ["thing"]
abbrev p_are_inputs : List Str := ["thing"]
def d_are_inputs : He.DefD := ⟨("are_inputs", none), "are_inputs", "are_inputs", defArgs s_are_inputs, defBody s_are_inputs, defScope s_are_inputs, [], []⟩
theorem sc_are_inputs : FnScope N_are_inputs p_are_inputs (defScope s_are_inputs) := ⟨rfl, rfl, rfl, by decide +kernel, rfl, by decide +kernel, by decide +kernel⟩
abbrev s_are_rows : Stmt := top 29
abbrev i_are_rows : Nat := 20
abbrev N_are_rows : List Str := ["thing", "row"]
abbrev p_are_rows : List Str := ["thing"]
def d_are_rows : He.DefD := ⟨("are_rows", none), "are_rows", "are_rows", defArgs s_are_rows, defBody s_are_rows, defScope s_are_rows, [], []⟩
theorem sc_are_rows : FnScope N_are_rows p_are_rows (defScope s_are_rows) := ⟨rfl, rfl, rfl, by decide +kernel, rfl, by decide +kernel, by decide +kernel⟩
abbrev s_count : Stmt := top 35
abbrev i_count : Nat := 21
abbrev N_count : List Str := ["rows", "row", "some"]
abbrev p_count : List Str := ["rows"]
def d_count : He.DefD := ⟨("count", none), "count", "count", defArgs s_count, defBody s_count, defScope s_count, [], []⟩
theorem sc_count : FnScope N_count p_count (defScope s_count) := ⟨rfl, rfl, rfl, by decide +kernel, rfl, by decide +kernel, by decide +kernel⟩
abbrev s_depth : Stmt := top 36
abbrev i_depth : Nat := 22
abbrev N_depth : List Str := ["rows", "row", "some"]
abbrev p_depth : List Str := ["rows"]
def d_depth : He.DefD := ⟨("depth", none), "depth", "depth", defArgs s_depth, defBody s_depth, defScope s_depth, [], []⟩
theorem sc_depth : FnScope N_depth p_depth (defScope s_depth) := ⟨rfl, rfl, rfl, by decide +kernel, rfl, by decide +kernel, by decide +kernel⟩
abbrev s_walked : Stmt := top 44
abbrev i_walked : Nat := 23
abbrev N_walked : List Str := ["rows", "begin", "found", "at", "row", "number", "some"]
abbrev p_walked : List Str := ["rows", "begin"]
def d_walked : He.DefD := ⟨("walked", none), "walked", "walked", defArgs s_walked, defBody s_walked, defScope s_walked, [], []⟩
theorem sc_walked : FnScope N_walked p_walked (defScope s_walked) := ⟨rfl, rfl, rfl, by decide +kernel, rfl, by decide +kernel, by decide +kernel⟩
abbrev s_Program_need_leaves : Stmt := meth (top 51) 1
abbrev i_Program_need_leaves : Nat := 24
abbrev N_Program_need_leaves : List Str := ["self", "address", "row"]
abbrev p_Program_need_leaves : List Str := ["self"]
def d_Program_need_leaves : He.DefD := ⟨("Program", some "need_leaves"), "need_leaves", "Program.need_leaves", defArgs s_Program_need_leaves, defBody s_Program_need_leaves, defScope s_Program_need_leaves, [], []⟩
theorem sc_Program_need_leaves : FnScope N_Program_need_leaves p_Program_need_leaves (defScope s_Program_need_leaves) := ⟨rfl, rfl, rfl, by decide +kernel, rfl, by decide +kernel, by decide +kernel⟩
abbrev s_Program_need_names : Stmt := meth (top 51) 2
abbrev i_Program_need_names : Nat := 25
abbrev N_Program_need_names : List Str := ["self", "doubled", "address", "row", "name"]
abbrev p_Program_need_names : List Str := ["self"]
def d_Program_need_names : He.DefD := ⟨("Program", some "need_names"), "need_names", "Program.need_names", defArgs s_Program_need_names, defBody s_Program_need_names, defScope s_Program_need_names, [], []⟩
theorem sc_Program_need_names : FnScope N_Program_need_names p_Program_need_names (defScope s_Program_need_names) := ⟨rfl, rfl, rfl, by decide +kernel, rfl, by decide +kernel, by decide +kernel⟩
abbrev s_Program_need_sight : Stmt := meth (top 51) 3
abbrev i_Program_need_sight : Nat := 26
abbrev N_Program_need_sight : List Str := ["self", "address", "row", "ends", "at", "name", "gap", "number", "some"]
abbrev p_Program_need_sight : List Str := ["self"]
def d_Program_need_sight : He.DefD := ⟨("Program", some "need_sight"), "need_sight", "Program.need_sight", defArgs s_Program_need_sight, defBody s_Program_need_sight, defScope s_Program_need_sight, [], []⟩
theorem sc_Program_need_sight : FnScope N_Program_need_sight p_Program_need_sight (defScope s_Program_need_sight) := ⟨rfl, rfl, rfl, by decide +kernel, rfl, by decide +kernel, by decide +kernel⟩
abbrev s_Program_need_trees : Stmt := meth (top 51) 4
abbrev i_Program_need_trees : Nat := 27
abbrev N_Program_need_trees : List Str := ["self", "fans", "name"]
abbrev p_Program_need_trees : List Str := ["self"]
def d_Program_need_trees : He.DefD := ⟨("Program", some "need_trees"), "need_trees", "Program.need_trees", defArgs s_Program_need_trees, defBody s_Program_need_trees, defScope s_Program_need_trees, [], []⟩
theorem sc_Program_need_trees : FnScope N_Program_need_trees p_Program_need_trees (defScope s_Program_need_trees) := ⟨rfl, rfl, rfl, by decide +kernel, rfl, by decide +kernel, by decide +kernel⟩
abbrev s_Fans___init__ : Stmt := meth (top 49) 0
abbrev i_Fans___init__ : Nat := 28
abbrev N_Fans___init__ : List Str := ["self", "inputs", "rows", "name"]
abbrev p_Fans___init__ : List Str := ["self", "inputs", "rows"]
def d_Fans___init__ : He.DefD := ⟨("Fans", some "__init__"), "__init__", "Fans.__init__", defArgs s_Fans___init__, defBody s_Fans___init__, defScope s_Fans___init__, [], []⟩
theorem sc_Fans___init__ : FnScope N_Fans___init__ p_Fans___init__ (defScope s_Fans___init__) := ⟨rfl, rfl, rfl, by decide +kernel, rfl, by decide +kernel, by decide +kernel⟩
abbrev s_Program_names : Stmt := meth (top 51) 13
abbrev i_Program_names : Nat := 29
abbrev N_Program_names : List Str := ["self"]
abbrev p_Program_names : List Str := ["self"]
def d_Program_names : He.DefD := ⟨("Program", some "names"), "names", "Program.names", defArgs s_Program_names, defBody s_Program_names, defScope s_Program_names, [], []⟩
theorem sc_Program_names : FnScope N_Program_names p_Program_names (defScope s_Program_names) := ⟨rfl, rfl, rfl, by decide +kernel, rfl, by decide +kernel, by decide +kernel⟩
abbrev s_Fans_add : Stmt := meth (top 49) 5
abbrev i_Fans_add : Nat := 30
abbrev N_Fans_add : List Str := ["self", "rows", "row", "some", "name", "one", "other", "arg"]
abbrev p_Fans_add : List Str := ["self", "rows"]
def d_Fans_add : He.DefD := ⟨("Fans", some "add"), "add", "Fans.add", defArgs s_Fans_add, defBody s_Fans_add, defScope s_Fans_add, [], []⟩
theorem sc_Fans_add : FnScope N_Fans_add p_Fans_add (defScope s_Fans_add) := ⟨rfl, rfl, rfl, by decide +kernel, rfl, by decide +kernel, by decide +kernel⟩
/-! ### mirrors -/
def m_law (T : Nat → Fn) (a_Fans a_Program : Addr) : SM := (sSeq (sNew 1 (eFn (T i__law_bag) (eCons (eVar 0) eNil)))
    (sSeq (sSet 2 (eBin gAdd (eComp (eRng1 (eCons (eC (.int 20)) eNil)) (bName 9) cYes (eFn (T i__law_some) (eCons (eVar 1) eNil)) [9]) (eLst (eCons (eBin gMul (eLst (eCons (eC .non) eNil)) (eC (.int 19000))) (eCons (eBin gMul (eLst (eCons (eC (.str "yes")) eNil)) (eC (.int 200))) (eCons (eMake a_Program (T i_Program___init__) (eCons (eLst eNil) (eCons (eLst eNil) eNil))) eNil))))))
    (sSeq (sFor (eSeq (eVar 2)) (bName 3) (sSeq (sSet 4 (eFn (T i__law_take) (eCons (eVar 1) (eCons (eC (.int 10)) eNil))))
    (sSeq (sSet 5 (eLst (eCons (eFn (T i__law_is_integer) (eCons (eVar 3) eNil)) (eCons (eFn (T i__law_is_name) (eCons (eVar 3) eNil)) (eCons (eFn (T i__law_is_address) (eCons (eVar 3) eNil)) eNil)))))
    (sSeq (sSet 5 (eBin gAdd (eVar 5) (eLst (eCons (eFn (T i__law_are_names) (eCons (eVar 3) (eCons (eVar 4) eNil))) (eCons (eFn (T i__law_are_choices) (eCons (eVar 3) eNil)) eNil)))))
    (sSeq (sSet 6 (eIf (tNotB (eTru (eIsiC a_Program (eVar 3)))) (eCall (g1 reprS) (eCons (eVar 3) eNil)) (eC (.str ""))))
    (sFor (eRng1 (eCons (eC (.int 2)) eNil)) (bName 7) (sSeq (sSet 8 (eLst (eCons (eFn (T i_is_integer) (eCons (eVar 3) eNil)) (eCons (eFn (T i_is_name) (eCons (eVar 3) eNil)) (eCons (eFn (T i_is_address) (eCons (eVar 3) eNil)) (eCons (eFn (T i_are_names) (eCons (eVar 3) (eCons (eVar 4) eNil))) (eCons (eFn (T i_are_choices) (eCons (eVar 3) eNil)) eNil)))))))
    (sSeq (sIf (tNotB (eTru (eFn (T i__law_alike) (eCons (eVar 8) (eCons (eVar 5) eNil))))) (sRet (eC (.bl false))) sNext)
    (sIf (tAndB (tNotB (eTru (eIsiC a_Program (eVar 3)))) (eBool (eBin gNe (eCall (g1 reprS) (eCons (eVar 3) eNil)) (eVar 6)))) (sRet (eC (.bl false))) sNext)))))))))
    (sRet (eC (.bl true))))))
def m__law_bag (T : Nat → Fn) (a_Fans a_Program : Addr) : SM := (sRet (eLst (eCons (eC (.int 0)) (eCons (eC (.int 1234567891)) (eCons (eC (.int 0)) (eCons (eComp (eSeq (eSlice (eVar 0) eNoPart (ePart (eC (.int 63))))) (bName 1) cYes (eCall (g1 absS) (eCons (eVar 1) eNil)) [1]) eNil))))))
def m__law_some (T : Nat → Fn) (a_Fans a_Program : Addr) : SM := (sSeq (sSet 1 (eFn (T i__law_take) (eCons (eVar 0) (eCons (eC (.int 6)) eNil))))
    (sSeq (sIf (eBool (eBin gEq (eVar 1) (eC (.int 0)))) (sRet (eFn (T i__law_odd) (eCons (eVar 0) (eCons (eC (.str "ab")) eNil)))) sNext)
    (sSeq (sIf (eBool (eBin gEq (eVar 1) (eC (.int 1)))) (sRet (eFn (T i__law_near_name) (eCons (eVar 0) eNil))) sNext)
    (sSeq (sIf (eBool (eBin gEq (eVar 1) (eC (.int 2)))) (sRet (eFn (T i__law_near_address) (eCons (eVar 0) eNil))) sNext)
    (sSeq (sIf (eBool (eBin gEq (eVar 1) (eC (.int 3)))) (sSeq (sSet 2 (eComp (eRng1 (eCons (eFn (T i__law_take) (eCons (eVar 0) (eCons (eC (.int 10)) eNil))) eNil)) (bName 4) cYes (eFn (T i__law_near_name) (eCons (eVar 0) eNil)) [4]))
    (sRet (eIf (eBool (eBin gEq (eFn (T i__law_take) (eCons (eVar 0) (eCons (eC (.int 2)) eNil))) (eC (.int 0)))) (eVar 2) (eCall (g1 tupleS) (eCons (eVar 2) eNil))))) sNext)
    (sSeq (sSet 3 (eLst (eCons (eC (.str "yes")) (eCons (eC (.str "no")) (eCons (eC (.str "round")) (eCons (eC (.str "out")) (eCons (eC (.str "Yes")) (eCons (eC (.str "")) (eCons (eC (.str "rounds")) (eCons (eC .non) (eCons (eC (.bl true)) (eCons (eTup (eCons (eC (.str "out")) eNil)) (eCons (eLst (eCons (eC (.str "no")) eNil)) eNil)))))))))))))
    (sSeq (sSet 2 (eComp (eRng1 (eCons (eFn (T i__law_take) (eCons (eVar 0) (eCons (eC (.int 7)) eNil))) eNil)) (bName 4) cYes (eBin gIx (eVar 3) (eFn (T i__law_take) (eCons (eVar 0) (eCons (eIf (eBool (eBin gEq (eVar 1) (eC (.int 4)))) (eC (.int 4)) (eC (.int 11))) eNil)))) [4]))
    (sRet (eIf (eBool (eBin gEq (eFn (T i__law_take) (eCons (eVar 0) (eCons (eC (.int 2)) eNil))) (eC (.int 0)))) (eVar 2) (eCall (g1 tupleS) (eCons (eVar 2) eNil)))))))))))
def m_Program___init__ (T : Nat → Fn) (a_Fans a_Program : Addr) : SM := (sSeq (sIf (tNotB (eTru (eFn (T i_are_inputs) (eCons (eVar 1) eNil)))) sNo sNext)
    (sSeq (sIf (tNotB (eTru (eFn (T i_are_rows) (eCons (eVar 2) eNil)))) sNo sNext)
    (sSeq (sIf (eBool (eBin gGt (eFn (T i_count) (eCons (eVar 2) eNil)) (eC (.int 24)))) sNo sNext)
    (sSeq (sIf (eBool (eBin gGt (eFn (T i_depth) (eCons (eVar 2) eNil)) (eC (.int 4)))) sNo sNext)
    (sSeq (sFldPut a_Program "kept_inputs" (eVar 0) (eCall (g1 tupleS) (eCons (eCall (g1 sorted0S) (eCons (eVar 1) eNil)) eNil)))
    (sSeq (sFldPut a_Program "kept_rows" (eVar 0) (eCall (g1 tupleS) (eCons (eComp (eSeq (eVar 2)) (bName 3) cYes eNo [3]) eNil)))
    (sSeq (sFldPut a_Program "kept_at" (eVar 0) (eCall (g1 dictPS) (eCons (eFn (T i_walked) (eCons (eFld a_Program "kept_rows" (eVar 0)) (eCons (eTup eNil) eNil))) eNil)))
    (sSeq (sFlds (fsCons a_Program "kept_makers" (eVar 0) (fsCons a_Program "kept_ways" (eVar 0) (fsCons a_Program "kept_forks" (eVar 0) fsNil))) 3 (eTup (eCons eDict0 (eCons eDict0 (eCons (eLst eNil) eNil)))))
    (sSeq (sExpr (eMeth a_Program "need_leaves" (T i_Program_need_leaves) (eVar 0) eNil))
    (sSeq (sExpr (eMeth a_Program "need_names" (T i_Program_need_names) (eVar 0) eNil))
    (sSeq (sExpr (eMeth a_Program "need_sight" (T i_Program_need_sight) (eVar 0) eNil))
    (sExpr (eMeth a_Program "need_trees" (T i_Program_need_trees) (eVar 0) eNil)))))))))))))
def m__law_take (T : Nat → Fn) (a_Fans a_Program : Addr) : SM := (sSeq (sIf (eBool (eBin gEq (eBin gIx (eVar 0) (eC (.int 0))) (eC (.int 0)))) (sSeq (sSet 2 (eBin gIx (eBin gAdd (eSlice (eBin gIx (eVar 0) (eC (.int 3))) (ePart (eBin gIx (eVar 0) (eC (.int 2)))) eNoPart) (eLst (eCons (eC (.int 0)) eNil))) (eC (.int 0))))
    (sSeq (sAugPut (fun i j => i + j) (eVar 0) (eC (.int 2)) (eC (.int 1)))
    (sSeq (sPut (eVar 0) (eC (.int 0)) (eBin gMul (eVar 2) (eCall (g1 intS) (eCons (eBin gGe (eVar 2) (eBin gPow (eC (.int 10)) (eC (.int 18)))) eNil))))
    (sSeq (sSet 3 (eBin gAdd (eBin gAdd (eBin gMul (eBin gIx (eVar 0) (eC (.int 1))) (eC (.int 48271))) (eBin gMod (eCall (g1 intS) (eCons (eVar 2) eNil)) (eC (.int 2147483647)))) (eBin gMul (eC (.int 7919)) (eBin gIx (eVar 0) (eC (.int 2))))))
    (sPut (eVar 0) (eC (.int 1)) (eBin gMod (eCall (g1 intS) (eCons (eVar 3) eNil)) (eC (.int 2147483647)))))))) sNext)
    (sSeq (sIf (eBool (eBin gGt (eBin gIx (eVar 0) (eC (.int 0))) (eC (.int 0)))) (sSeq (sNamePut 4 (eVar 0) (eC (.int 0)) (eTup (eCons (eBin gMod (eCall (g1 intS) (eCons (eBin gIx (eVar 0) (eC (.int 0))) eNil)) (eVar 1)) (eCons (eBin gFdiv (eCall (g1 intS) (eCons (eBin gIx (eVar 0) (eC (.int 0))) eNil)) (eVar 1)) eNil))))
    (sRet (eVar 4))) sNext)
    (sSeq (sSet 5 (eBin gMod (eCall (g1 intS) (eCons (eBin gMul (eBin gAdd (eBin gIx (eVar 0) (eC (.int 1))) (eC (.int 1))) (eC (.int 39373))) eNil)) (eC (.int 1000000007))))
    (sSeq (sSet 6 (eBin gMod (eCall (g1 intS) (eCons (eBin gMul (eBin gMod (eCall (g1 intS) (eCons (eBin gMul (eVar 5) (eVar 5)) eNil)) (eC (.int 998244353))) (eC (.int 30011))) eNil)) (eC (.int 998244353))))
    (sRet (eBin gMod (eCall (g1 intS) (eCons (eBin gFdiv (eVar 6) (eC (.int 7))) eNil)) (eVar 1)))))))
def m__law_is_address (T : Nat → Fn) (a_Fans a_Program : Addr) : SM := (sSeq (sIf (tOrB (tNotB (eTru (eIsi "tuple" (eVar 0)))) (eBool (eBin gNotIn (eCall (g1 lenS) (eCons (eVar 0) eNil)) (eTup (eCons (eC (.int 1)) (eCons (eC (.int 3)) (eCons (eC (.int 5)) (eCons (eC (.int 7)) (eCons (eC (.int 9)) (eCons (eC (.int 11)) (eCons (eC (.int 13)) (eCons (eC (.int 15)) eNil)))))))))))) (sRet (eC (.bl false))) sNext)
    (sRet (eBin gEq (eComp (eSeq (eVar 0)) (bName 1) (tOrB (tNotB (eTru (eFn (T i__law_is_integer) (eCons (eVar 1) eNil)))) (eBool (eBin gLt (eVar 1) (eC (.int 0))))) (eVar 1) [1]) (eLst eNil))))
def m__law_is_name (T : Nat → Fn) (a_Fans a_Program : Addr) : SM := (sSeq (sIf (tOrB (tNotB (eTru (eIsi "str" (eVar 0)))) (tNotB (eBool (eChain gLe gLe (eC (.int 1)) (eCall (g1 lenS) (eCons (eVar 0) eNil)) (eC (.int 8)))))) (sRet (eC (.bl false))) sNext)
    (sRet (eBin gEq (eComp (eSeq (eVar 0)) (bName 1) (eBool (eBin gNotIn (eVar 1) (eC (.str "abcdefghijklmnopqrstuvwxyz")))) (eVar 1) [1]) (eLst eNil))))
def m__law_is_integer (T : Nat → Fn) (a_Fans a_Program : Addr) : SM := (sRet (eAnd (eIsi "int" (eVar 0)) (eNot (eIsi "bool" (eVar 0)))))
def m__law_are_choices (T : Nat → Fn) (a_Fans a_Program : Addr) : SM := (sSeq (sIf (tNotB (eTru (eIsi2 "list" "tuple" (eVar 0)))) (sRet (eC (.bl false))) sNext)
    (sRet (eBin gEq (eComp (eSeq (eVar 0)) (bName 1) (tOrB (tNotB (eTru (eIsi "str" (eVar 1)))) (eBool (eBin gNotIn (eVar 1) (eTup (eCons (eC (.str "yes")) (eCons (eC (.str "no")) (eCons (eC (.str "round")) (eCons (eC (.str "out")) eNil)))))))) (eVar 1) [1]) (eLst eNil))))
def m__law_are_names (T : Nat → Fn) (a_Fans a_Program : Addr) : SM := (sSeq (sIf (tOrB (tNotB (eTru (eIsi2 "list" "tuple" (eVar 0)))) (eBool (eBin gGt (eCall (g1 lenS) (eCons (eVar 0) eNil)) (eVar 1)))) (sRet (eC (.bl false))) sNext)
    (sRet (eBin gEq (eComp (eSeq (eVar 0)) (bName 2) (tNotB (eTru (eFn (T i__law_is_name) (eCons (eVar 2) eNil)))) (eVar 2) [2]) (eLst eNil))))
def m_are_choices (T : Nat → Fn) (a_Fans a_Program : Addr) : SM := (sSeq (sIf (tNotB (eTru (eIsi2 "list" "tuple" (eVar 0)))) (sRet (eC (.bl false))) sNext)
    (sRet (eCall (g1 allS) (eCons (eComp (eSeq (eVar 0)) (bName 1) cYes (eAnd (eIsi "str" (eVar 1)) (eBin gIn (eVar 1) (eC (.tup ((["yes", "no", "round", "out"] : List Str).map .str))))) [1]) eNil))))
def m_are_names (T : Nat → Fn) (a_Fans a_Program : Addr) : SM := (sSeq (sIf (tOrB (tNotB (eTru (eIsi2 "list" "tuple" (eVar 0)))) (eBool (eBin gGt (eCall (g1 lenS) (eCons (eVar 0) eNil)) (eVar 1)))) (sRet (eC (.bl false))) sNext)
    (sRet (eCall (g1 allS) (eCons (eComp (eSeq (eVar 0)) (bName 2) cYes (eFn (T i_is_name) (eCons (eVar 2) eNil)) [2]) eNil))))
def m_is_address (T : Nat → Fn) (a_Fans a_Program : Addr) : SM := (sSeq (sIf (tOrB (tNotB (eTru (eIsi "tuple" (eVar 0)))) (eBool (eBin gEq (eBin gMod (eCall (g1 intS) (eCons (eCall (g1 lenS) (eCons (eVar 0) eNil)) eNil)) (eC (.int 2))) (eC (.int 0))))) (sRet (eC (.bl false))) sNext)
    (sRet (eCall (g1 allS) (eCons (eComp (eSeq (eVar 0)) (bName 1) cYes (eAnd (eFn (T i_is_integer) (eCons (eVar 1) eNil)) (eBin gGe (eVar 1) (eC (.int 0)))) [1]) eNil))))
def m_is_name (T : Nat → Fn) (a_Fans a_Program : Addr) : SM := (sSeq (sIf (tOrB (tNotB (eTru (eIsi "str" (eVar 0)))) (tNotB (eBool (eChain gLe gLe (eC (.int 1)) (eCall (g1 lenS) (eCons (eVar 0) eNil)) (eC (.int 8)))))) (sRet (eC (.bl false))) sNext)
    (sRet (eCall (g1 allS) (eCons (eComp (eSeq (eVar 0)) (bName 1) cYes (eBin gIn (eVar 1) (eC (.str "abcdefghijklmnopqrstuvwxyz"))) [1]) eNil))))
def m_is_integer (T : Nat → Fn) (a_Fans a_Program : Addr) : SM := (sRet (eAnd (eIsi "int" (eVar 0)) (eNot (eIsi "bool" (eVar 0)))))
def m__law_alike (T : Nat → Fn) (a_Fans a_Program : Addr) : SM := (sRet (eAnd (eBin gEq (eVar 0) (eVar 1)) (eBin gEq (eCall (g1 reprS) (eCons (eVar 0) eNil)) (eCall (g1 reprS) (eCons (eVar 1) eNil)))))
def m__law_odd (T : Nat → Fn) (a_Fans a_Program : Addr) : SM := (sSeq (sSet 2 (eLst (eCons (eC .non) (eCons (eC (.bl true)) (eCons (eC (.bl false)) (eCons (eC (.int 0)) (eCons (eC (.int 1)) (eCons (eNeg (eC (.int 1))) (eCons (eBin gPow (eC (.int 10)) (eC (.int 40))) (eCons (eC (.str "")) (eCons (eVar 1) (eCons (eMt "str" gUpper (eVar 1) eNil) (eCons (eBin gAdd (eVar 1) (eC (.str "_"))) (eCons (eC (.str "abcdefghi")) (eCons (eC (.str "a b")) (eCons (eC (.str "a1")) eNil))))))))))))))))
    (sSeq (sSet 2 (eBin gAdd (eVar 2) (eLst (eCons (eTup eNil) (eCons (eLst eNil) (eCons eDict0 (eCons (eTup (eCons (eVar 1) eNil)) (eCons (eLst (eCons (eVar 1) eNil)) (eCons (eDict1 (eVar 1) (eC (.int 0))) (eCons (eTup (eCons (eC (.int 0)) eNil)) (eCons (eLst (eCons (eC (.int 0)) eNil)) (eCons (eTup (eCons (eC (.bl true)) eNil)) (eCons (eTup (eCons (eNeg (eC (.int 1))) eNil)) (eCons (eTup (eCons (eC (.int 0)) (eCons (eC (.int 1)) eNil))) (eCons (eC (.str "yes")) (eCons (eTup (eCons (eC (.str "yes")) eNil)) eNil))))))))))))))))
    (sRet (eBin gIx (eVar 2) (eFn (T i__law_take) (eCons (eVar 0) (eCons (eCall (g1 lenS) (eCons (eVar 2) eNil)) eNil)))))))
def m__law_near_name (T : Nat → Fn) (a_Fans a_Program : Addr) : SM := (sSeq (sSet 1 (eC (.str "abcdefghijklmnopqrstuvwxyz ABCXYZ0123456789_-+.,:;#()[]{}<>=/\\|!?*&$@^~`\"'\n\t")))
    (sSeq (sSet 2 (eMt "str" gJoin (eC (.str "")) (eCons (eComp (eRng1 (eCons (eBin gAdd (eC (.int 1)) (eFn (T i__law_take) (eCons (eVar 0) (eCons (eC (.int 9)) eNil)))) eNil)) (bName 5) cYes (eBin gIx (eVar 1) (eFn (T i__law_take) (eCons (eVar 0) (eCons (eC (.int 26)) eNil)))) [5]) eNil)))
    (sSeq (sSet 3 (eFn (T i__law_take) (eCons (eVar 0) (eCons (eCall (g1 lenS) (eCons (eVar 2) eNil)) eNil))))
    (sSeq (sSet 4 (eFn (T i__law_take) (eCons (eVar 0) (eCons (eC (.int 5)) eNil))))
    (sSeq (sIf (eBool (eBin gEq (eVar 4) (eC (.int 0)))) (sRet (eBin gAdd (eBin gAdd (eSlice (eVar 2) eNoPart (ePart (eVar 3))) (eBin gIx (eVar 1) (eFn (T i__law_take) (eCons (eVar 0) (eCons (eCall (g1 lenS) (eCons (eVar 1) eNil)) eNil))))) (eSlice (eVar 2) (ePart (eBin gAdd (eVar 3) (eC (.int 1)))) eNoPart))) sNext)
    (sSeq (sIf (eBool (eBin gEq (eVar 4) (eC (.int 1)))) (sRet (eBin gAdd (eBin gAdd (eSlice (eVar 2) eNoPart (ePart (eVar 3))) (eBin gIx (eVar 1) (eFn (T i__law_take) (eCons (eVar 0) (eCons (eCall (g1 lenS) (eCons (eVar 1) eNil)) eNil))))) (eSlice (eVar 2) (ePart (eVar 3)) eNoPart))) sNext)
    (sRet (eVar 2))))))))
def m__law_near_address (T : Nat → Fn) (a_Fans a_Program : Addr) : SM := (sSeq (sNew 1 (eComp (eRng1 (eCons (eFn (T i__law_take) (eCons (eVar 0) (eCons (eC (.int 12)) eNil))) eNil)) (bName 2) cYes (eBin gIx (eLst (eCons (eC (.int 0)) (eCons (eC (.int 1)) (eCons (eC (.int 2)) (eCons (eC (.int 30)) eNil))))) (eFn (T i__law_take) (eCons (eVar 0) (eCons (eC (.int 4)) eNil)))) [2]))
    (sSeq (sIf (tAndB (eBool (eBin gNe (eVar 1) (eLst eNil))) (eBool (eBin gEq (eFn (T i__law_take) (eCons (eVar 0) (eCons (eC (.int 3)) eNil))) (eC (.int 0))))) (sPut (eVar 1) (eFn (T i__law_take) (eCons (eVar 0) (eCons (eCall (g1 lenS) (eCons (eVar 1) eNil)) eNil))) (eBin gIx (eLst (eCons (eNeg (eC (.int 1))) (eCons (eC (.bl true)) (eCons (eC (.bl false)) (eCons (eC .non) (eCons (eC (.str "0")) (eCons (eBin gPow (eC (.int 10)) (eC (.int 39))) (eCons (eTup (eCons (eC (.int 0)) eNil)) (eCons (eLst eNil) eNil))))))))) (eFn (T i__law_take) (eCons (eVar 0) (eCons (eC (.int 8)) eNil))))) sNext)
    (sRet (eIf (eBool (eBin gGt (eFn (T i__law_take) (eCons (eVar 0) (eCons (eC (.int 8)) eNil))) (eC (.int 0)))) (eCall (g1 tupleS) (eCons (eVar 1) eNil)) (eVar 1)))))
def m_are_inputs (T : Nat → Fn) (a_Fans a_Program : Addr) : SM := (sRet (eAnd (eFn (T i_are_names) (eCons (eVar 0) (eCons (eC (.int 4)) eNil))) (eBin gEq (eLenSet (eVar 0)) (eCall (g1 lenS) (eCons (eVar 0) eNil)))))
def m_are_rows (T : Nat → Fn) (a_Fans a_Program : Addr) : SM := (sRet (eAnd (eIsi2 "list" "tuple" (eVar 0)) (eCall (g1 allS) (eCons (eComp (eSeq (eVar 0)) (bName 1) cYes eNo [1]) eNil))))
def m_count (T : Nat → Fn) (a_Fans a_Program : Addr) : SM := (sRet (eBin gAdd (eCall (g1 lenS) (eCons (eVar 0) eNil)) (eCall (g1 sumS) (eCons (eComp20 (eSeq (eVar 0))) eNil))))
def m_depth (T : Nat → Fn) (a_Fans a_Program : Addr) : SM := (sRet (eBin gAdd (eC (.int 1)) (eMax0 (eComp20 (eSeq (eVar 0))) (eC (.int 0)))))
def m_walked (T : Nat → Fn) (a_Fans a_Program : Addr) : SM := (sSeq (sNew 2 (eLst eNil))
    (sSeq (sFor (eEnum (eCons (eVar 0) eNil)) (bTup 2 (bsCons (bName 3) (bsCons (bName 4) bsNil))) sNo)
    (sRet (eVar 2))))
def m_Program_need_leaves (T : Nat → Fn) (a_Fans a_Program : Addr) : SM := (sForFld0 a_Program 0 "kept_at")
def m_Program_need_names (T : Nat → Fn) (a_Fans a_Program : Addr) : SM := (sSeq (sNew 1 (eLst eNil))
    (sSeq (sForFld0 a_Program 0 "kept_at")
    (sIf (eBool (eBin gNe (eVar 1) (eLst eNil))) sNo sNext)))
def m_Program_need_sight (T : Nat → Fn) (a_Fans a_Program : Addr) : SM := (sForFld0 a_Program 0 "kept_at")
def m_Program_need_trees (T : Nat → Fn) (a_Fans a_Program : Addr) : SM := (sSeq (sSet 1 (eMake a_Fans (T i_Fans___init__) (eCons (eFld a_Program "kept_inputs" (eVar 0)) (eCons (eFld a_Program "kept_rows" (eVar 0)) eNil))))
    (sFor (eSeq (eMeth a_Program "names" (T i_Program_names) (eVar 0) eNil)) (bName 2) sNo))
def m_Fans___init__ (T : Nat → Fn) (a_Fans a_Program : Addr) : SM := (sSeq (sFlds (fsCons a_Fans "nodes" (eVar 0) (fsCons a_Fans "numbers" (eVar 0) (fsCons a_Fans "makings" (eVar 0) (fsCons a_Fans "rank" (eVar 0) fsNil)))) 4 (eTup (eCons (eLst eNil) (eCons eDict0 (eCons eDict0 (eCons (eC (.int 0)) eNil))))))
    (sSeq (sFldPut a_Fans "node_of" (eVar 0) (eDcE (eSeq (eVar 1))))
    (sExpr (eMeth a_Fans "add" (T i_Fans_add) (eVar 0) (eCons (eVar 2) eNil)))))
def m_Program_names (T : Nat → Fn) (a_Fans a_Program : Addr) : SM := (sRet (eCall (g1 sorted0S) (eCons (eFld a_Program "kept_makers" (eVar 0)) eNil)))
def m_Fans_add (T : Nat → Fn) (a_Fans a_Program : Addr) : SM := (sFor (eSeq (eVar 1)) (bName 2) sNo)
def step (T : Nat → Fn) (a_Fans a_Program : Addr) : Nat → Fn
  | 0 => runBody (m_law T a_Fans a_Program) 10
  | 1 => runBody (m__law_bag T a_Fans a_Program) 2
  | 2 => runBody (m__law_some T a_Fans a_Program) 5
  | 3 => runBody (m_Program___init__ T a_Fans a_Program) 4
  | 4 => runBody (m__law_take T a_Fans a_Program) 7
  | 5 => runBody (m__law_is_address T a_Fans a_Program) 2
  | 6 => runBody (m__law_is_name T a_Fans a_Program) 2
  | 7 => runBody (m__law_is_integer T a_Fans a_Program) 1
  | 8 => runBody (m__law_are_choices T a_Fans a_Program) 2
  | 9 => runBody (m__law_are_names T a_Fans a_Program) 3
  | 10 => runBody (m_are_choices T a_Fans a_Program) 2
  | 11 => runBody (m_are_names T a_Fans a_Program) 3
  | 12 => runBody (m_is_address T a_Fans a_Program) 2
  | 13 => runBody (m_is_name T a_Fans a_Program) 2
  | 14 => runBody (m_is_integer T a_Fans a_Program) 1
  | 15 => runBody (m__law_alike T a_Fans a_Program) 2
  | 16 => runBody (m__law_odd T a_Fans a_Program) 3
  | 17 => runBody (m__law_near_name T a_Fans a_Program) 6
  | 18 => runBody (m__law_near_address T a_Fans a_Program) 3
  | 19 => runBody (m_are_inputs T a_Fans a_Program) 1
  | 20 => runBody (m_are_rows T a_Fans a_Program) 2
  | 21 => runBody (m_count T a_Fans a_Program) 3
  | 22 => runBody (m_depth T a_Fans a_Program) 3
  | 23 => runBody (m_walked T a_Fans a_Program) 7
  | 24 => runBody (m_Program_need_leaves T a_Fans a_Program) 3
  | 25 => runBody (m_Program_need_names T a_Fans a_Program) 5
  | 26 => runBody (m_Program_need_sight T a_Fans a_Program) 9
  | 27 => runBody (m_Program_need_trees T a_Fans a_Program) 3
  | 28 => runBody (m_Fans___init__ T a_Fans a_Program) 4
  | 29 => runBody (m_Program_names T a_Fans a_Program) 1
  | 30 => runBody (m_Fans_add T a_Fans a_Program) 8
  | _ => fun _ _ => none
def tab (a_Fans a_Program : Addr) : Nat → Nat → Fn
  | 0 => fun _ _ _ => none
  | k + 1 => step (tab a_Fans a_Program k) a_Fans a_Program
/-! ### the head -/
def fn_0 : List He.DefD := [d_law, d__law_bag, d__law_some, d_Program___init__, d__law_take, d__law_is_address, d__law_is_name, d__law_is_integer, d__law_are_choices, d__law_are_names, d_are_choices, d_are_names, d_is_address, d_is_name, d_is_integer, d__law_alike, d__law_odd, d__law_near_name, d__law_near_address, d_are_inputs]
def fn_1 : List He.DefD := [d_are_rows, d_count, d_depth, d_walked, d_Program_need_leaves, d_Program_need_names, d_Program_need_sight, d_Program_need_trees, d_Fans___init__, d_Program_names, d_Fans_add]
def fn : List He.DefD := fn_0 ++ fn_1
def fa_0 : List He.Fa := [.glo "law", .glo "_law_bag", .glo "_law_some", .mkr "Program", .glo "_law_take", .glo "_law_is_address", .glo "_law_is_name", .glo "_law_is_integer", .glo "_law_are_choices", .glo "_law_are_names", .glo "are_choices", .glo "are_names", .glo "is_address", .glo "is_name", .glo "is_integer", .glo "_law_alike", .glo "_law_odd", .glo "_law_near_name", .glo "_law_near_address", .glo "are_inputs"]
def fa_1 : List He.Fa := [.glo "are_rows", .glo "count", .glo "depth", .glo "walked", .meth "Program" "need_leaves", .meth "Program" "need_names", .meth "Program" "need_sight", .meth "Program" "need_trees", .mkr "Fans", .meth "Program" "names", .meth "Fans" "add", .noat "Fans" "makings", .noat "Fans" "node_of", .noat "Fans" "nodes", .noat "Fans" "numbers", .noat "Fans" "rank", .noat "Program" "kept_at", .noat "Program" "kept_forks", .noat "Program" "kept_inputs", .noat "Program" "kept_makers"]
def fa_2 : List He.Fa := [.noat "Program" "kept_rows", .noat "Program" "kept_ways", .str "LETTERS" "abcdefghijklmnopqrstuvwxyz", .int "MOST_DEEP" 4, .int "MOST_INPUTS" 4, .int "MOST_LETTERS" 8, .int "MOST_ROWS" 24]
def fa : List He.Fa := fa_0 ++ fa_1 ++ fa_2
def chk (K : PySem.W.Frag) : Bool := noSysB K && (frees bltNames K && (fa.all (fun f => f.ok K) && (objB "Fans" K && (objB "Program" K && (isiB "Program" K && (tupB "WORDS" ["yes", "no", "round", "out"] K))))))
def loose_0 : List Str := ["_wall", "LETTERS", "MOST_LETTERS", "WORDS", "is_integer", "is_name", "is_address", "are_names", "are_choices", "MoveError", "Wrong", "Full", "Deep", "NotLast", "Twice", "Unseen", "Wide", "NoRow", "NoGap", "MOST_ARGS"]
def loose_1 : List Str := ["MOST_JOINED", "is_called", "is_join", "are_joins", "is_plain", "is_row", "are_rows", "frozen", "inner_lists", "with_lists", "makes", "uses", "count", "depth", "MOST_INPUTS", "MOST_ROWS", "MOST_DEEP", "MOST_TREES", "MOST_PARTS", "MOST_READINGS"]
def loose_2 : List Str := ["walked", "changed", "size_of", "readings_of", "limited", "Fans", "are_inputs", "Program", "_law_bag", "_law_take", "_law_alike", "_law_odd", "_law_is_integer", "_law_is_name", "_law_are_names", "_law_is_address", "_law_near_name", "_law_near_address", "_law_some", "_law_are_choices"]
def loose : List Str := loose_0 ++ loose_1 ++ loose_2
structure Gs (K : PySem.W.Frag) (mg : Str → Option Value) : Prop where
  ns : NoSys K
  bl : Blt mg
  gl_law : mg "law" = some (.ref (He.ga K "law"))
  gl__law_bag : mg "_law_bag" = some (.ref (He.ga K "_law_bag"))
  gl__law_some : mg "_law_some" = some (.ref (He.ga K "_law_some"))
  mk_Program : Mk K (He.ga K "Program") (He.ma K (He.ga K "Program") "__init__")
  gl__law_take : mg "_law_take" = some (.ref (He.ga K "_law_take"))
  gl__law_is_address : mg "_law_is_address" = some (.ref (He.ga K "_law_is_address"))
  gl__law_is_name : mg "_law_is_name" = some (.ref (He.ga K "_law_is_name"))
  gl__law_is_integer : mg "_law_is_integer" = some (.ref (He.ga K "_law_is_integer"))
  gl__law_are_choices : mg "_law_are_choices" = some (.ref (He.ga K "_law_are_choices"))
  gl__law_are_names : mg "_law_are_names" = some (.ref (He.ga K "_law_are_names"))
  gl_are_choices : mg "are_choices" = some (.ref (He.ga K "are_choices"))
  gl_are_names : mg "are_names" = some (.ref (He.ga K "are_names"))
  gl_is_address : mg "is_address" = some (.ref (He.ga K "is_address"))
  gl_is_name : mg "is_name" = some (.ref (He.ga K "is_name"))
  gl_is_integer : mg "is_integer" = some (.ref (He.ga K "is_integer"))
  gl__law_alike : mg "_law_alike" = some (.ref (He.ga K "_law_alike"))
  gl__law_odd : mg "_law_odd" = some (.ref (He.ga K "_law_odd"))
  gl__law_near_name : mg "_law_near_name" = some (.ref (He.ga K "_law_near_name"))
  gl__law_near_address : mg "_law_near_address" = some (.ref (He.ga K "_law_near_address"))
  gl_are_inputs : mg "are_inputs" = some (.ref (He.ga K "are_inputs"))
  gl_are_rows : mg "are_rows" = some (.ref (He.ga K "are_rows"))
  gl_count : mg "count" = some (.ref (He.ga K "count"))
  gl_depth : mg "depth" = some (.ref (He.ga K "depth"))
  gl_walked : mg "walked" = some (.ref (He.ga K "walked"))
  mt_Program_need_leaves : Meth K (He.ga K "Program") "need_leaves" (He.ma K (He.ga K "Program") "need_leaves")
  mt_Program_need_names : Meth K (He.ga K "Program") "need_names" (He.ma K (He.ga K "Program") "need_names")
  mt_Program_need_sight : Meth K (He.ga K "Program") "need_sight" (He.ma K (He.ga K "Program") "need_sight")
  mt_Program_need_trees : Meth K (He.ga K "Program") "need_trees" (He.ma K (He.ga K "Program") "need_trees")
  mk_Fans : Mk K (He.ga K "Fans") (He.ma K (He.ga K "Fans") "__init__")
  mt_Program_names : Meth K (He.ga K "Program") "names" (He.ma K (He.ga K "Program") "names")
  mt_Fans_add : Meth K (He.ga K "Fans") "add" (He.ma K (He.ga K "Fans") "add")
  na_Fans_makings : NoAttr K (He.ga K "Fans") "makings"
  na_Fans_node_of : NoAttr K (He.ga K "Fans") "node_of"
  na_Fans_nodes : NoAttr K (He.ga K "Fans") "nodes"
  na_Fans_numbers : NoAttr K (He.ga K "Fans") "numbers"
  na_Fans_rank : NoAttr K (He.ga K "Fans") "rank"
  na_Program_kept_at : NoAttr K (He.ga K "Program") "kept_at"
  na_Program_kept_forks : NoAttr K (He.ga K "Program") "kept_forks"
  na_Program_kept_inputs : NoAttr K (He.ga K "Program") "kept_inputs"
  na_Program_kept_makers : NoAttr K (He.ga K "Program") "kept_makers"
  na_Program_kept_rows : NoAttr K (He.ga K "Program") "kept_rows"
  na_Program_kept_ways : NoAttr K (He.ga K "Program") "kept_ways"
  c_LETTERS : ∃ t, mg "LETTERS" = some (.str "abcdefghijklmnopqrstuvwxyz" t)
  c_MOST_DEEP : ∃ t, mg "MOST_DEEP" = some (.int 4 t)
  c_MOST_INPUTS : ∃ t, mg "MOST_INPUTS" = some (.int 4 t)
  c_MOST_LETTERS : ∃ t, mg "MOST_LETTERS" = some (.int 8 t)
  c_MOST_ROWS : ∃ t, mg "MOST_ROWS" = some (.int 24 t)
  cl_Fans : Cls K (He.ga K "Fans")
  ob_Fans : ObjC K (He.ga K "Fans")
  gc_Fans : mg "Fans" = some (.ref (He.ga K "Fans"))
  cl_Program : Cls K (He.ga K "Program")
  ob_Program : ObjC K (He.ga K "Program")
  gc_Program : mg "Program" = some (.ref (He.ga K "Program"))
  k_Program : IsiC K (He.ga K "Program")
  c_WORDS : ∃ a, mg "WORDS" = some (.ref a) ∧ ∀ H, SqT K H a ((["yes", "no", "round", "out"] : List Str).map V.str)
theorem Gs.of {K : PySem.W.Frag} {h : Heap} {mg : Str → Option Value} (X : K.In h) (G : h.Ns mainGlobals mg) (c : chk K = true) : Gs K mg := by
  obtain ⟨c0, c⟩ := He.ba c
  obtain ⟨c1, c⟩ := He.ba c
  obtain ⟨c2, c⟩ := He.ba c
  obtain ⟨c3, c⟩ := He.ba c
  obtain ⟨c4, c⟩ := He.ba c
  obtain ⟨c5, c⟩ := He.ba c
  have c6 := c
  have F : ∀ (i : Nat) {f : He.Fa} (h : fa[i]? = some f := by rfl), f.ok K = true := fun i f h => List.all_eq_true.mp c2 f (List.mem_of_getElem? h)
  exact ⟨noSysB_ok c0, fun x hx => frees_ok X G c1 x hx, He.glo_ok X G (F 0), He.glo_ok X G (F 1), He.glo_ok X G (F 2), He.mkr_ok (F 3), He.glo_ok X G (F 4), He.glo_ok X G (F 5), He.glo_ok X G (F 6), He.glo_ok X G (F 7), He.glo_ok X G (F 8), He.glo_ok X G (F 9), He.glo_ok X G (F 10), He.glo_ok X G (F 11), He.glo_ok X G (F 12), He.glo_ok X G (F 13), He.glo_ok X G (F 14), He.glo_ok X G (F 15), He.glo_ok X G (F 16), He.glo_ok X G (F 17), He.glo_ok X G (F 18), He.glo_ok X G (F 19), He.glo_ok X G (F 20), He.glo_ok X G (F 21), He.glo_ok X G (F 22), He.glo_ok X G (F 23), He.meth_ok (F 24), He.meth_ok (F 25), He.meth_ok (F 26), He.meth_ok (F 27), He.mkr_ok (F 28), He.meth_ok (F 29), He.meth_ok (F 30), He.noat_ok (F 31), He.noat_ok (F 32), He.noat_ok (F 33), He.noat_ok (F 34), He.noat_ok (F 35), He.noat_ok (F 36), He.noat_ok (F 37), He.noat_ok (F 38), He.noat_ok (F 39), He.noat_ok (F 40), He.noat_ok (F 41), He.str_ok X G (F 42), He.int_ok X G (F 43), He.int_ok X G (F 44), He.int_ok X G (F 45), He.int_ok X G (F 46), objB_cl c3, objB_ok c3, objB_gl X G c3, objB_cl c4, objB_ok c4, objB_gl X G c4, isiB_ok c5, tupB_ok X G c6⟩
/-! ### the defs keep to their mirrors -/
structure Fns (P : Program) (w : PySem.World) (K : PySem.W.Frag) (mg : Str → Option Value) (base : Heap) (fds : Nat → FuncData) (k : Nat) (T : Nat → Fn) : Prop where
  d_law : DefOk P w K mg base (2 * k) "law" (He.ga K "law") (fds 0) p_law (T i_law)
  d__law_bag : DefOk P w K mg base (2 * k) "_law_bag" (He.ga K "_law_bag") (fds 1) p__law_bag (T i__law_bag)
  d__law_some : DefOk P w K mg base (2 * k) "_law_some" (He.ga K "_law_some") (fds 2) p__law_some (T i__law_some)
  k_Program : MakeOk P w K mg base (2 * k) "Program" (He.ga K "Program") (He.ma K (He.ga K "Program") "__init__") (fds 3) p_Program___init__ (T i_Program___init__)
  d__law_take : DefOk P w K mg base (2 * k) "_law_take" (He.ga K "_law_take") (fds 4) p__law_take (T i__law_take)
  d__law_is_address : DefOk P w K mg base (2 * k) "_law_is_address" (He.ga K "_law_is_address") (fds 5) p__law_is_address (T i__law_is_address)
  d__law_is_name : DefOk P w K mg base (2 * k) "_law_is_name" (He.ga K "_law_is_name") (fds 6) p__law_is_name (T i__law_is_name)
  d__law_is_integer : DefOk P w K mg base (2 * k) "_law_is_integer" (He.ga K "_law_is_integer") (fds 7) p__law_is_integer (T i__law_is_integer)
  d__law_are_choices : DefOk P w K mg base (2 * k) "_law_are_choices" (He.ga K "_law_are_choices") (fds 8) p__law_are_choices (T i__law_are_choices)
  d__law_are_names : DefOk P w K mg base (2 * k) "_law_are_names" (He.ga K "_law_are_names") (fds 9) p__law_are_names (T i__law_are_names)
  d_are_choices : DefOk P w K mg base (2 * k) "are_choices" (He.ga K "are_choices") (fds 10) p_are_choices (T i_are_choices)
  d_are_names : DefOk P w K mg base (2 * k) "are_names" (He.ga K "are_names") (fds 11) p_are_names (T i_are_names)
  d_is_address : DefOk P w K mg base (2 * k) "is_address" (He.ga K "is_address") (fds 12) p_is_address (T i_is_address)
  d_is_name : DefOk P w K mg base (2 * k) "is_name" (He.ga K "is_name") (fds 13) p_is_name (T i_is_name)
  d_is_integer : DefOk P w K mg base (2 * k) "is_integer" (He.ga K "is_integer") (fds 14) p_is_integer (T i_is_integer)
  d__law_alike : DefOk P w K mg base (2 * k) "_law_alike" (He.ga K "_law_alike") (fds 15) p__law_alike (T i__law_alike)
  d__law_odd : DefOk P w K mg base (2 * k) "_law_odd" (He.ga K "_law_odd") (fds 16) p__law_odd (T i__law_odd)
  d__law_near_name : DefOk P w K mg base (2 * k) "_law_near_name" (He.ga K "_law_near_name") (fds 17) p__law_near_name (T i__law_near_name)
  d__law_near_address : DefOk P w K mg base (2 * k) "_law_near_address" (He.ga K "_law_near_address") (fds 18) p__law_near_address (T i__law_near_address)
  d_are_inputs : DefOk P w K mg base (2 * k) "are_inputs" (He.ga K "are_inputs") (fds 19) p_are_inputs (T i_are_inputs)
  d_are_rows : DefOk P w K mg base (2 * k) "are_rows" (He.ga K "are_rows") (fds 20) p_are_rows (T i_are_rows)
  d_count : DefOk P w K mg base (2 * k) "count" (He.ga K "count") (fds 21) p_count (T i_count)
  d_depth : DefOk P w K mg base (2 * k) "depth" (He.ga K "depth") (fds 22) p_depth (T i_depth)
  d_walked : DefOk P w K mg base (2 * k) "walked" (He.ga K "walked") (fds 23) p_walked (T i_walked)
  m_Program_need_leaves : MethOk P w K mg base (2 * k) (He.ga K "Program") "need_leaves" (He.ma K (He.ga K "Program") "need_leaves") (fds 24) p_Program_need_leaves (T i_Program_need_leaves)
  m_Program_need_names : MethOk P w K mg base (2 * k) (He.ga K "Program") "need_names" (He.ma K (He.ga K "Program") "need_names") (fds 25) p_Program_need_names (T i_Program_need_names)
  m_Program_need_sight : MethOk P w K mg base (2 * k) (He.ga K "Program") "need_sight" (He.ma K (He.ga K "Program") "need_sight") (fds 26) p_Program_need_sight (T i_Program_need_sight)
  m_Program_need_trees : MethOk P w K mg base (2 * k) (He.ga K "Program") "need_trees" (He.ma K (He.ga K "Program") "need_trees") (fds 27) p_Program_need_trees (T i_Program_need_trees)
  k_Fans : MakeOk P w K mg base (2 * k) "Fans" (He.ga K "Fans") (He.ma K (He.ga K "Fans") "__init__") (fds 28) p_Fans___init__ (T i_Fans___init__)
  m_Program_names : MethOk P w K mg base (2 * k) (He.ga K "Program") "names" (He.ma K (He.ga K "Program") "names") (fds 29) p_Program_names (T i_Program_names)
  m_Fans_add : MethOk P w K mg base (2 * k) (He.ga K "Fans") "add" (He.ma K (He.ga K "Fans") "add") (fds 30) p_Fans_add (T i_Fans_add)
section
variable {P : Program} {w : PySem.World} {K : PySem.W.Frag} {mg : Str → Option Value} {base : Heap} {fds : Nat → FuncData} {k : Nat}
abbrev AllD (K : PySem.W.Frag) (fds : Nat → FuncData) : Prop := ∀ (i : Nat) (d : He.DefD), fn[i]? = some d → FunD K d.name d.qual d.params d.body d.scope (d.dvs K) (d.kws K) (He.fAd K d.at_) (fds i)
theorem b_law (FD : AllD K fds) : Binds K (fds 0) p_law [] := (FD 0 d_law rfl).bindsN fun _ _ _ _ _ _ us hl => match us, hl with | [_], _ => rfl
theorem b__law_bag (FD : AllD K fds) : Binds K (fds 1) p__law_bag [] := (FD 1 d__law_bag rfl).bindsN fun _ _ _ _ _ _ us hl => match us, hl with | [_], _ => rfl
theorem b__law_some (FD : AllD K fds) : Binds K (fds 2) p__law_some [] := (FD 2 d__law_some rfl).bindsN fun _ _ _ _ _ _ us hl => match us, hl with | [_], _ => rfl
theorem b_Program___init__ (FD : AllD K fds) : Binds K (fds 3) p_Program___init__ [] := (FD 3 d_Program___init__ rfl).bindsN fun _ _ _ _ _ _ us hl => match us, hl with | [_, _, _], _ => rfl
theorem b__law_take (FD : AllD K fds) : Binds K (fds 4) p__law_take [] := (FD 4 d__law_take rfl).bindsN fun _ _ _ _ _ _ us hl => match us, hl with | [_, _], _ => rfl
theorem b__law_is_address (FD : AllD K fds) : Binds K (fds 5) p__law_is_address [] := (FD 5 d__law_is_address rfl).bindsN fun _ _ _ _ _ _ us hl => match us, hl with | [_], _ => rfl
theorem b__law_is_name (FD : AllD K fds) : Binds K (fds 6) p__law_is_name [] := (FD 6 d__law_is_name rfl).bindsN fun _ _ _ _ _ _ us hl => match us, hl with | [_], _ => rfl
theorem b__law_is_integer (FD : AllD K fds) : Binds K (fds 7) p__law_is_integer [] := (FD 7 d__law_is_integer rfl).bindsN fun _ _ _ _ _ _ us hl => match us, hl with | [_], _ => rfl
theorem b__law_are_choices (FD : AllD K fds) : Binds K (fds 8) p__law_are_choices [] := (FD 8 d__law_are_choices rfl).bindsN fun _ _ _ _ _ _ us hl => match us, hl with | [_], _ => rfl
theorem b__law_are_names (FD : AllD K fds) : Binds K (fds 9) p__law_are_names [] := (FD 9 d__law_are_names rfl).bindsN fun _ _ _ _ _ _ us hl => match us, hl with | [_, _], _ => rfl
theorem b_are_choices (FD : AllD K fds) : Binds K (fds 10) p_are_choices [] := (FD 10 d_are_choices rfl).bindsN fun _ _ _ _ _ _ us hl => match us, hl with | [_], _ => rfl
theorem b_are_names (FD : AllD K fds) : Binds K (fds 11) p_are_names [] := (FD 11 d_are_names rfl).bindsN fun _ _ _ _ _ _ us hl => match us, hl with | [_, _], _ => rfl
theorem b_is_address (FD : AllD K fds) : Binds K (fds 12) p_is_address [] := (FD 12 d_is_address rfl).bindsN fun _ _ _ _ _ _ us hl => match us, hl with | [_], _ => rfl
theorem b_is_name (FD : AllD K fds) : Binds K (fds 13) p_is_name [] := (FD 13 d_is_name rfl).bindsN fun _ _ _ _ _ _ us hl => match us, hl with | [_], _ => rfl
theorem b_is_integer (FD : AllD K fds) : Binds K (fds 14) p_is_integer [] := (FD 14 d_is_integer rfl).bindsN fun _ _ _ _ _ _ us hl => match us, hl with | [_], _ => rfl
theorem b__law_alike (FD : AllD K fds) : Binds K (fds 15) p__law_alike [] := (FD 15 d__law_alike rfl).bindsN fun _ _ _ _ _ _ us hl => match us, hl with | [_, _], _ => rfl
theorem b__law_odd (FD : AllD K fds) : Binds K (fds 16) p__law_odd [] := (FD 16 d__law_odd rfl).bindsN fun _ _ _ _ _ _ us hl => match us, hl with | [_, _], _ => rfl
theorem b__law_near_name (FD : AllD K fds) : Binds K (fds 17) p__law_near_name [] := (FD 17 d__law_near_name rfl).bindsN fun _ _ _ _ _ _ us hl => match us, hl with | [_], _ => rfl
theorem b__law_near_address (FD : AllD K fds) : Binds K (fds 18) p__law_near_address [] := (FD 18 d__law_near_address rfl).bindsN fun _ _ _ _ _ _ us hl => match us, hl with | [_], _ => rfl
theorem b_are_inputs (FD : AllD K fds) : Binds K (fds 19) p_are_inputs [] := (FD 19 d_are_inputs rfl).bindsN fun _ _ _ _ _ _ us hl => match us, hl with | [_], _ => rfl
theorem b_are_rows (FD : AllD K fds) : Binds K (fds 20) p_are_rows [] := (FD 20 d_are_rows rfl).bindsN fun _ _ _ _ _ _ us hl => match us, hl with | [_], _ => rfl
theorem b_count (FD : AllD K fds) : Binds K (fds 21) p_count [] := (FD 21 d_count rfl).bindsN fun _ _ _ _ _ _ us hl => match us, hl with | [_], _ => rfl
theorem b_depth (FD : AllD K fds) : Binds K (fds 22) p_depth [] := (FD 22 d_depth rfl).bindsN fun _ _ _ _ _ _ us hl => match us, hl with | [_], _ => rfl
theorem b_walked (FD : AllD K fds) : Binds K (fds 23) p_walked [] := (FD 23 d_walked rfl).bindsN fun _ _ _ _ _ _ us hl => match us, hl with | [_, _], _ => rfl
theorem b_Program_need_leaves (FD : AllD K fds) : Binds K (fds 24) p_Program_need_leaves [] := (FD 24 d_Program_need_leaves rfl).bindsN fun _ _ _ _ _ _ us hl => match us, hl with | [_], _ => rfl
theorem b_Program_need_names (FD : AllD K fds) : Binds K (fds 25) p_Program_need_names [] := (FD 25 d_Program_need_names rfl).bindsN fun _ _ _ _ _ _ us hl => match us, hl with | [_], _ => rfl
theorem b_Program_need_sight (FD : AllD K fds) : Binds K (fds 26) p_Program_need_sight [] := (FD 26 d_Program_need_sight rfl).bindsN fun _ _ _ _ _ _ us hl => match us, hl with | [_], _ => rfl
theorem b_Program_need_trees (FD : AllD K fds) : Binds K (fds 27) p_Program_need_trees [] := (FD 27 d_Program_need_trees rfl).bindsN fun _ _ _ _ _ _ us hl => match us, hl with | [_], _ => rfl
theorem b_Fans___init__ (FD : AllD K fds) : Binds K (fds 28) p_Fans___init__ [] := (FD 28 d_Fans___init__ rfl).bindsN fun _ _ _ _ _ _ us hl => match us, hl with | [_, _, _], _ => rfl
theorem b_Program_names (FD : AllD K fds) : Binds K (fds 29) p_Program_names [] := (FD 29 d_Program_names rfl).bindsN fun _ _ _ _ _ _ us hl => match us, hl with | [_], _ => rfl
theorem b_Fans_add (FD : AllD K fds) : Binds K (fds 30) p_Fans_add [] := (FD 30 d_Fans_add rfl).bindsN fun _ _ _ _ _ _ us hl => match us, hl with | [_, _], _ => rfl
theorem ok_law (G : Gs K mg) (FD : AllD K fds) {T : Nat → Fn} (Fs : Fns P w K mg base fds k T) : FnG P w K mg base CX0 (2 * k + 1 + 1) (He.ga K "law") (fds 0) p_law (spM K p_law.length (runBody (m_law T (He.ga K "Fans") (He.ga K "Program")) N_law.length)) := by
  refine FunDG.ok (FD 0 d_law rfl) sc_law rfl fun cdv A outer s H E hgd hr1 => ?_
  have hr : Room (2 * k) (A.deeper (envOfC "law" (defScope s_law) s.heap.objs.size (He.ga K "law") cdv)) := hr1.mono (by omega)
  have hu := hr.units
  have B := G.bl
  have NS := G.ns
  exact (psm_cons (psm_new (ps_set (i := 1) sc_law.nd rfl (Or.inr rfl) (pm_def Fs.d__law_bag hgd hr (pam_cons (pm_var (pv 0)) pam_nil) (len_cons len_nil))))
      (psm_cons (psm_set (ps_set (i := 2) sc_law.nd rfl (Or.inl rfl) (pm_add (pm_comp (own := [("_law_k", 9)]) rfl sc_law.nd (pim_rng1 B (pam_cons pm_int pam_nil)) (blkOk_by (N := N_law) (sc := defScope s_law) (own := [("_law_k", 9)]) (by decide +kernel)) (by decide) (fun _ _ _ _ _ => (pgm_name (pg_name (i := 9) sc_law.nd rfl (Or.inl rfl)))) (fun _ _ _ _ _ => ptsm_nil) (fun _ _ _ _ _ => (pm_def Fs.d__law_some hgd hr (pam_cons (pm_var (pv 1)) pam_nil) (len_cons len_nil)))) (pm_lst (pam_cons (pm_mul (pm_lst (pam_cons pm_non pam_nil)) pm_int) (pam_cons (pm_mul (pm_lst (pam_cons pm_str pam_nil)) pm_int) (pam_cons (pm_make Fs.k_Program hgd hr1 (pam_cons (pm_lst pam_nil) (pam_cons (pm_lst pam_nil) pam_nil)) (fun ρ M ss M' h => congrArg (· + 1) ((len_cons (len_cons len_nil)) ρ M ss M' h))) pam_nil)))))))
      (psm_cons (psm_for PassesOwn.never rfl (pim_seq (pm_var (pv 2))) (pgm_name (pg_name (i := 3) sc_law.nd rfl (Or.inl rfl))) (psm_cons (psm_set (ps_set (i := 4) sc_law.nd rfl (Or.inl rfl) (pm_def Fs.d__law_take hgd hr (pam_cons (pm_var (pv 1)) (pam_cons pm_int pam_nil)) (len_cons (len_cons len_nil)))))
      (psm_cons (psm_set (ps_set (i := 5) sc_law.nd rfl (Or.inl rfl) (pm_lst (pam_cons (pm_def Fs.d__law_is_integer hgd hr (pam_cons (pm_var (pv 3)) pam_nil) (len_cons len_nil)) (pam_cons (pm_def Fs.d__law_is_name hgd hr (pam_cons (pm_var (pv 3)) pam_nil) (len_cons len_nil)) (pam_cons (pm_def Fs.d__law_is_address hgd hr (pam_cons (pm_var (pv 3)) pam_nil) (len_cons len_nil)) pam_nil))))))
      (psm_cons (psm_set (ps_set (i := 5) sc_law.nd rfl (Or.inl rfl) (pm_add (pm_var (pv 5)) (pm_lst (pam_cons (pm_def Fs.d__law_are_names hgd hr (pam_cons (pm_var (pv 3)) (pam_cons (pm_var (pv 4)) pam_nil)) (len_cons (len_cons len_nil))) (pam_cons (pm_def Fs.d__law_are_choices hgd hr (pam_cons (pm_var (pv 3)) pam_nil) (len_cons len_nil)) pam_nil))))))
      (psm_cons (psm_set (ps_set (i := 6) sc_law.nd rfl (Or.inl rfl) (pm_if (ptm_not (ptm_val (pm_isiC G.k_Program rfl (B _ (by decide +kernel)) rfl G.gc_Program (pm_var (pv 3))))) (pm_repr B NS hgd hu (pam_cons (pm_var (pv 3)) pam_nil)) pm_str)))
      (psm_one (psm_for PassesOwn.never rfl (pim_rng1 B (pam_cons pm_int pam_nil)) (pgm_name (pg_name (i := 7) sc_law.nd rfl (Or.inl rfl))) (psm_cons (psm_set (ps_set (i := 8) sc_law.nd rfl (Or.inl rfl) (pm_lst (pam_cons (pm_def Fs.d_is_integer hgd hr (pam_cons (pm_var (pv 3)) pam_nil) (len_cons len_nil)) (pam_cons (pm_def Fs.d_is_name hgd hr (pam_cons (pm_var (pv 3)) pam_nil) (len_cons len_nil)) (pam_cons (pm_def Fs.d_is_address hgd hr (pam_cons (pm_var (pv 3)) pam_nil) (len_cons len_nil)) (pam_cons (pm_def Fs.d_are_names hgd hr (pam_cons (pm_var (pv 3)) (pam_cons (pm_var (pv 4)) pam_nil)) (len_cons (len_cons len_nil))) (pam_cons (pm_def Fs.d_are_choices hgd hr (pam_cons (pm_var (pv 3)) pam_nil) (len_cons len_nil)) pam_nil))))))))
      (psm_cons (psm_if (ptm_not (ptm_val (pm_def Fs.d__law_alike hgd hr (pam_cons (pm_var (pv 8)) (pam_cons (pm_var (pv 5)) pam_nil)) (len_cons (len_cons len_nil))))) (psm_one (psm_ret pm_bl)) psm_nil)
      (psm_one (psm_if (PWm.t (pwm_and (ptm_not (ptm_val (pm_isiC G.k_Program rfl (B _ (by decide +kernel)) rfl G.gc_Program (pm_var (pv 3))))) (pwm_and1 (ptm_ne hu (pm_repr B NS hgd hu (pam_cons (pm_var (pv 3)) pam_nil)) (pm_var (pv 6)))))) (psm_one (psm_ret pm_bl)) psm_nil)))))))))))
      (psm_one (psm_ret pm_bl)))))
theorem ok__law_bag (G : Gs K mg) (FD : AllD K fds) {T : Nat → Fn} (Fs : Fns P w K mg base fds k T) : FnG P w K mg base CX0 (2 * k + 1 + 1) (He.ga K "_law_bag") (fds 1) p__law_bag (spM K p__law_bag.length (runBody (m__law_bag T (He.ga K "Fans") (He.ga K "Program")) N__law_bag.length)) := by
  refine FunDG.ok (FD 1 d__law_bag rfl) sc__law_bag rfl fun cdv A outer s H E hgd hr1 => ?_
  have hr : Room (2 * k) (A.deeper (envOfC "_law_bag" (defScope s__law_bag) s.heap.objs.size (He.ga K "_law_bag") cdv)) := hr1.mono (by omega)
  have hu := hr.units
  have B := G.bl
  have NS := G.ns
  exact (psm_one (psm_ret (pm_lst (pam_cons pm_int (pam_cons pm_int (pam_cons pm_int (pam_cons (pm_comp (own := [("_law_cell", 1)]) rfl sc__law_bag.nd (pim_seq (pm_slice (pm_var (pv 0)) pom_none (pom_some pm_int))) (blkOk_by (N := N__law_bag) (sc := defScope s__law_bag) (own := [("_law_cell", 1)]) (by decide +kernel)) (by decide) (fun _ _ _ _ _ => (pgm_name (pg_name (i := 1) sc__law_bag.nd rfl (Or.inl rfl)))) (fun _ _ _ _ _ => ptsm_nil) (fun _ _ _ _ _ => (pm_abs B (pam_cons (pm_var (pv 1)) pam_nil)))) pam_nil)))))))
theorem ok__law_some (G : Gs K mg) (FD : AllD K fds) {T : Nat → Fn} (Fs : Fns P w K mg base fds k T) : FnG P w K mg base CX0 (2 * k + 1 + 1) (He.ga K "_law_some") (fds 2) p__law_some (spM K p__law_some.length (runBody (m__law_some T (He.ga K "Fans") (He.ga K "Program")) N__law_some.length)) := by
  refine FunDG.ok (FD 2 d__law_some rfl) sc__law_some rfl fun cdv A outer s H E hgd hr1 => ?_
  have hr : Room (2 * k) (A.deeper (envOfC "_law_some" (defScope s__law_some) s.heap.objs.size (He.ga K "_law_some") cdv)) := hr1.mono (by omega)
  have hu := hr.units
  have B := G.bl
  have NS := G.ns
  exact (psm_cons (psm_set (ps_set (i := 1) sc__law_some.nd rfl (Or.inr rfl) (pm_def Fs.d__law_take hgd hr (pam_cons (pm_var (pv 0)) (pam_cons pm_int pam_nil)) (len_cons (len_cons len_nil)))))
      (psm_cons (psm_if (ptm_eq hu (pm_var (pv 1)) pm_int) (psm_one (psm_ret (pm_def Fs.d__law_odd hgd hr (pam_cons (pm_var (pv 0)) (pam_cons pm_str pam_nil)) (len_cons (len_cons len_nil))))) psm_nil)
      (psm_cons (psm_if (ptm_eq hu (pm_var (pv 1)) pm_int) (psm_one (psm_ret (pm_def Fs.d__law_near_name hgd hr (pam_cons (pm_var (pv 0)) pam_nil) (len_cons len_nil)))) psm_nil)
      (psm_cons (psm_if (ptm_eq hu (pm_var (pv 1)) pm_int) (psm_one (psm_ret (pm_def Fs.d__law_near_address hgd hr (pam_cons (pm_var (pv 0)) pam_nil) (len_cons len_nil)))) psm_nil)
      (psm_cons (psm_if (ptm_eq hu (pm_var (pv 1)) pm_int) (psm_cons (psm_set (ps_comp (own := [("_law_k", 4)]) (i := 2) rfl sc__law_some.nd rfl rfl (sw_true rfl rfl rfl (by decide +kernel)) (pim_rng1 B (pam_cons (pm_def Fs.d__law_take hgd hr (pam_cons (pm_var (pv 0)) (pam_cons pm_int pam_nil)) (len_cons (len_cons len_nil))) pam_nil)) (blkOk_by (N := N__law_some) (sc := defScope s__law_some) (own := [("_law_k", 4)]) (by decide +kernel)) (by decide) (fun _ _ _ _ _ => (pgm_name (pg_name (i := 4) sc__law_some.nd rfl (Or.inl rfl)))) (fun _ _ _ _ _ => ptsm_nil) (fun _ _ _ _ _ => (pm_def Fs.d__law_near_name hgd hr (pam_cons (pm_var (pv 0)) pam_nil) (len_cons len_nil)))))
      (psm_one (psm_ret (pm_if (ptm_eq hu (pm_def Fs.d__law_take hgd hr (pam_cons (pm_var (pv 0)) (pam_cons pm_int pam_nil)) (len_cons (len_cons len_nil))) pm_int) (pm_var (pv 2)) (pm_totuple B (pam_cons (pm_var (pv 2)) pam_nil)))))) psm_nil)
      (psm_cons (psm_set (ps_set (i := 3) sc__law_some.nd rfl (Or.inr rfl) (pm_lst (pam_cons pm_str (pam_cons pm_str (pam_cons pm_str (pam_cons pm_str (pam_cons pm_str (pam_cons pm_str (pam_cons pm_str (pam_cons pm_non (pam_cons pm_bl (pam_cons (pm_tup (pam_cons pm_str pam_nil)) (pam_cons (pm_lst (pam_cons pm_str pam_nil)) pam_nil))))))))))))))
      (psm_cons (psm_set (ps_comp (own := [("_law_k", 4)]) (i := 2) rfl sc__law_some.nd rfl rfl (sw_true rfl rfl rfl (by decide +kernel)) (pim_rng1 B (pam_cons (pm_def Fs.d__law_take hgd hr (pam_cons (pm_var (pv 0)) (pam_cons pm_int pam_nil)) (len_cons (len_cons len_nil))) pam_nil)) (blkOk_by (N := N__law_some) (sc := defScope s__law_some) (own := [("_law_k", 4)]) (by decide +kernel)) (by decide) (fun _ _ _ _ _ => (pgm_name (pg_name (i := 4) sc__law_some.nd rfl (Or.inl rfl)))) (fun _ _ _ _ _ => ptsm_nil) (fun _ _ _ _ _ => (pm_sub_ix (pm_var (pv 3)) (pm_def Fs.d__law_take hgd hr (pam_cons (pm_var (pv 0)) (pam_cons (pm_if (ptm_eq hu (pm_var (pv 1)) pm_int) pm_int pm_int) pam_nil)) (len_cons (len_cons len_nil)))))))
      (psm_one (psm_ret (pm_if (ptm_eq hu (pm_def Fs.d__law_take hgd hr (pam_cons (pm_var (pv 0)) (pam_cons pm_int pam_nil)) (len_cons (len_cons len_nil))) pm_int) (pm_var (pv 2)) (pm_totuple B (pam_cons (pm_var (pv 2)) pam_nil))))))))))))
theorem ok_Program___init__ (G : Gs K mg) (FD : AllD K fds) {T : Nat → Fn} (Fs : Fns P w K mg base fds k T) : FnG P w K mg base CX0 (2 * k + 1 + 1) (He.ma K (He.ga K "Program") "__init__") (fds 3) p_Program___init__ (spM K p_Program___init__.length (runBody (m_Program___init__ T (He.ga K "Fans") (He.ga K "Program")) N_Program___init__.length)) := by
  refine FunDG.ok (FD 3 d_Program___init__ rfl) sc_Program___init__ rfl fun cdv A outer s H E hgd hr1 => ?_
  have hr : Room (2 * k) (A.deeper (envOfC "Program.__init__" (defScope s_Program___init__) s.heap.objs.size (He.ma K (He.ga K "Program") "__init__") cdv)) := hr1.mono (by omega)
  have hu := hr.units
  have B := G.bl
  have NS := G.ns
  exact (psm_cons (psm_if (ptm_not (ptm_val (pm_def Fs.d_are_inputs hgd hr (pam_cons (pm_var (pv 1)) pam_nil) (len_cons len_nil)))) (psm_one psm_no) psm_nil)
      (psm_cons (psm_if (ptm_not (ptm_val (pm_def Fs.d_are_rows hgd hr (pam_cons (pm_var (pv 2)) pam_nil) (len_cons len_nil)))) (psm_one psm_no) psm_nil)
      (psm_cons (psm_if (ptm_gt (pm_def Fs.d_count hgd hr (pam_cons (pm_var (pv 2)) pam_nil) (len_cons len_nil)) (pm_gint G.c_MOST_ROWS)) (psm_one psm_no) psm_nil)
      (psm_cons (psm_if (ptm_gt (pm_def Fs.d_depth hgd hr (pam_cons (pm_var (pv 2)) pam_nil) (len_cons len_nil)) (pm_gint G.c_MOST_DEEP)) (psm_one psm_no) psm_nil)
      (psm_cons (psm_fldPut G.cl_Program G.na_Program_kept_inputs (pm_var (pv 0)) (pm_totuple B (pam_cons (pm_sorted0 B rfl (pam_cons (pm_var (pv 1)) pam_nil)) pam_nil)))
      (psm_cons (psm_fldPut G.cl_Program G.na_Program_kept_rows (pm_var (pv 0)) (pm_totuple B (pam_cons (pm_comp (own := [("row", 3)]) rfl sc_Program___init__.nd (pim_seq (pm_var (pv 2))) (blkOk_by (N := N_Program___init__) (sc := defScope s_Program___init__) (own := [("row", 3)]) (by decide +kernel)) (by decide) (fun _ _ _ _ _ => (pgm_name (pg_name (i := 3) sc_Program___init__.nd rfl (Or.inl rfl)))) (fun _ _ _ _ _ => ptsm_nil) (fun _ _ _ _ _ => pm_no)) pam_nil)))
      (psm_cons (psm_fldPut G.cl_Program G.na_Program_kept_at (pm_var (pv 0)) (pm_dictP B rfl (pam_cons (pm_def Fs.d_walked hgd hr (pam_cons (pm_fld G.cl_Program G.na_Program_kept_rows (pm_var (pv 0))) (pam_cons (pm_tup pam_nil) pam_nil)) (len_cons (len_cons len_nil))) pam_nil)))
      (psm_cons (psm_flds rfl (pm_tup (pam_cons pm_dict0 (pam_cons pm_dict0 (pam_cons (pm_lst pam_nil) pam_nil)))) (pfs_cons G.cl_Program G.na_Program_kept_makers (pm_var (pv 0)) (pfs_cons G.cl_Program G.na_Program_kept_ways (pm_var (pv 0)) (pfs_cons G.cl_Program G.na_Program_kept_forks (pm_var (pv 0)) pfs_nil))))
      (psm_cons (psm_expr (pm_meth0 Fs.m_Program_need_leaves rfl hgd hr (pm_var (pv 0))))
      (psm_cons (psm_expr (pm_meth0 Fs.m_Program_need_names rfl hgd hr (pm_var (pv 0))))
      (psm_cons (psm_expr (pm_meth0 Fs.m_Program_need_sight rfl hgd hr (pm_var (pv 0))))
      (psm_one (psm_expr (pm_meth0 Fs.m_Program_need_trees rfl hgd hr (pm_var (pv 0))))))))))))))))
theorem ok__law_take (G : Gs K mg) (FD : AllD K fds) {T : Nat → Fn} (Fs : Fns P w K mg base fds k T) : FnG P w K mg base CX0 (2 * k + 1 + 1) (He.ga K "_law_take") (fds 4) p__law_take (spM K p__law_take.length (runBody (m__law_take T (He.ga K "Fans") (He.ga K "Program")) N__law_take.length)) := by
  refine FunDG.ok (FD 4 d__law_take rfl) sc__law_take rfl fun cdv A outer s H E hgd hr1 => ?_
  have hr : Room (2 * k) (A.deeper (envOfC "_law_take" (defScope s__law_take) s.heap.objs.size (He.ga K "_law_take") cdv)) := hr1.mono (by omega)
  have hu := hr.units
  have B := G.bl
  have NS := G.ns
  exact (psm_cons (psm_if (ptm_eq hu (pm_sub_ix (pm_var (pv 0)) pm_int) pm_int) (psm_cons (psm_set (ps_set (i := 2) sc__law_take.nd rfl (Or.inl rfl) (pm_sub_ix (pm_add (pm_slice (pm_sub_ix (pm_var (pv 0)) pm_int) (pom_some (pm_sub_ix (pm_var (pv 0)) pm_int)) pom_none) (pm_lst (pam_cons pm_int pam_nil))) pm_int)))
      (psm_cons (psm_augPut ip_add (pm_var (pv 0)) pm_int pm_int)
      (psm_cons (psm_put (pm_mul (pm_var (pv 2)) (pm_toint B (pam_cons (pm_ge (pm_var (pv 2)) (pm_pow pm_int pm_int)) pam_nil))) (pm_var (pv 0)) pm_int)
      (psm_cons (psm_set (ps_set (i := 3) sc__law_take.nd rfl (Or.inl rfl) (pm_add (pm_add (pm_mul (pm_sub_ix (pm_var (pv 0)) pm_int) pm_int) (pm_mod (pm_toint B (pam_cons (pm_var (pv 2)) pam_nil)) pm_int)) (pm_mul pm_int (pm_sub_ix (pm_var (pv 0)) pm_int)))))
      (psm_one (psm_put (pm_mod (pm_toint B (pam_cons (pm_var (pv 3)) pam_nil)) pm_int) (pm_var (pv 0)) pm_int)))))) psm_nil)
      (psm_cons (psm_if (ptm_gt (pm_sub_ix (pm_var (pv 0)) pm_int) pm_int) (psm_cons (psm_namePut (j := 4) rfl (pm_tup (pam_cons (pm_mod (pm_toint B (pam_cons (pm_sub_ix (pm_var (pv 0)) pm_int) pam_nil)) (pm_var (pv 1))) (pam_cons (pm_fdiv (pm_toint B (pam_cons (pm_sub_ix (pm_var (pv 0)) pm_int) pam_nil)) (pm_var (pv 1))) pam_nil))) (pg_name (i := 4) sc__law_take.nd rfl (Or.inl rfl)) (pm_var (pv 0)) pm_int)
      (psm_one (psm_ret (pm_var (pv 4))))) psm_nil)
      (psm_cons (psm_set (ps_set (i := 5) sc__law_take.nd rfl (Or.inl rfl) (pm_mod (pm_toint B (pam_cons (pm_mul (pm_add (pm_sub_ix (pm_var (pv 0)) pm_int) pm_int) pm_int) pam_nil)) pm_int)))
      (psm_cons (psm_set (ps_set (i := 6) sc__law_take.nd rfl (Or.inl rfl) (pm_mod (pm_toint B (pam_cons (pm_mul (pm_mod (pm_toint B (pam_cons (pm_mul (pm_var (pv 5)) (pm_var (pv 5))) pam_nil)) pm_int) pm_int) pam_nil)) pm_int)))
      (psm_one (psm_ret (pm_mod (pm_toint B (pam_cons (pm_fdiv (pm_var (pv 6)) pm_int) pam_nil)) (pm_var (pv 1)))))))))
theorem ok__law_is_address (G : Gs K mg) (FD : AllD K fds) {T : Nat → Fn} (Fs : Fns P w K mg base fds k T) : FnG P w K mg base CX0 (2 * k + 1 + 1) (He.ga K "_law_is_address") (fds 5) p__law_is_address (spM K p__law_is_address.length (runBody (m__law_is_address T (He.ga K "Fans") (He.ga K "Program")) N__law_is_address.length)) := by
  refine FunDG.ok (FD 5 d__law_is_address rfl) sc__law_is_address rfl fun cdv A outer s H E hgd hr1 => ?_
  have hr : Room (2 * k) (A.deeper (envOfC "_law_is_address" (defScope s__law_is_address) s.heap.objs.size (He.ga K "_law_is_address") cdv)) := hr1.mono (by omega)
  have hu := hr.units
  have B := G.bl
  have NS := G.ns
  exact (psm_cons (psm_if (PWm.t (pwm_or (ptm_not (ptm_val (pm_isT B "tuple" (by decide) (by decide +kernel) PyProof.Rows.boot_tuple (pm_var (pv 0))))) (pwm_or1 (ptm_notIn (pm_len B (pam_cons (pm_var (pv 0)) pam_nil)) (pm_tup (pam_cons pm_int (pam_cons pm_int (pam_cons pm_int (pam_cons pm_int (pam_cons pm_int (pam_cons pm_int (pam_cons pm_int (pam_cons pm_int pam_nil))))))))))))) (psm_one (psm_ret pm_bl)) psm_nil)
      (psm_one (psm_ret (pm_eq hu (pm_comp (own := [("_law_part", 1)]) rfl sc__law_is_address.nd (pim_seq (pm_var (pv 0))) (blkOk_by (N := N__law_is_address) (sc := defScope s__law_is_address) (own := [("_law_part", 1)]) (by decide +kernel)) (by decide) (fun _ _ _ _ _ => (pgm_name (pg_name (i := 1) sc__law_is_address.nd rfl (Or.inl rfl)))) (fun _ _ _ _ _ => (ptsm_one (PWm.t (pwm_or (ptm_not (ptm_val (pm_def Fs.d__law_is_integer hgd hr (pam_cons (pm_var (pv 1)) pam_nil) (len_cons len_nil)))) (pwm_or1 (ptm_lt (pm_var (pv 1)) pm_int)))))) (fun _ _ _ _ _ => (pm_var (pv 1)))) (pm_lst pam_nil)))))
theorem ok__law_is_name (G : Gs K mg) (FD : AllD K fds) {T : Nat → Fn} (Fs : Fns P w K mg base fds k T) : FnG P w K mg base CX0 (2 * k + 1 + 1) (He.ga K "_law_is_name") (fds 6) p__law_is_name (spM K p__law_is_name.length (runBody (m__law_is_name T (He.ga K "Fans") (He.ga K "Program")) N__law_is_name.length)) := by
  refine FunDG.ok (FD 6 d__law_is_name rfl) sc__law_is_name rfl fun cdv A outer s H E hgd hr1 => ?_
  have hr : Room (2 * k) (A.deeper (envOfC "_law_is_name" (defScope s__law_is_name) s.heap.objs.size (He.ga K "_law_is_name") cdv)) := hr1.mono (by omega)
  have hu := hr.units
  have B := G.bl
  have NS := G.ns
  exact (psm_cons (psm_if (PWm.t (pwm_or (ptm_not (ptm_val (pm_isT B "str" (by decide) (by decide +kernel) PyProof.Rows.boot_str (pm_var (pv 0))))) (pwm_or1 (ptm_not (ptm_chain op_le opd_le op_le opd_le pm_int (pm_len B (pam_cons (pm_var (pv 0)) pam_nil)) pm_int))))) (psm_one (psm_ret pm_bl)) psm_nil)
      (psm_one (psm_ret (pm_eq hu (pm_comp (own := [("_law_letter", 1)]) rfl sc__law_is_name.nd (pim_seq (pm_var (pv 0))) (blkOk_by (N := N__law_is_name) (sc := defScope s__law_is_name) (own := [("_law_letter", 1)]) (by decide +kernel)) (by decide) (fun _ _ _ _ _ => (pgm_name (pg_name (i := 1) sc__law_is_name.nd rfl (Or.inl rfl)))) (fun _ _ _ _ _ => (ptsm_one (ptm_notIn (pm_var (pv 1)) pm_str))) (fun _ _ _ _ _ => (pm_var (pv 1)))) (pm_lst pam_nil)))))
theorem ok__law_is_integer (G : Gs K mg) (FD : AllD K fds) {T : Nat → Fn} (Fs : Fns P w K mg base fds k T) : FnG P w K mg base CX0 (2 * k + 1 + 1) (He.ga K "_law_is_integer") (fds 7) p__law_is_integer (spM K p__law_is_integer.length (runBody (m__law_is_integer T (He.ga K "Fans") (He.ga K "Program")) N__law_is_integer.length)) := by
  refine FunDG.ok (FD 7 d__law_is_integer rfl) sc__law_is_integer rfl fun cdv A outer s H E hgd hr1 => ?_
  have hr : Room (2 * k) (A.deeper (envOfC "_law_is_integer" (defScope s__law_is_integer) s.heap.objs.size (He.ga K "_law_is_integer") cdv)) := hr1.mono (by omega)
  have hu := hr.units
  have B := G.bl
  have NS := G.ns
  exact (psm_one (psm_ret (pm_and (pm_isT B "int" (by decide) (by decide +kernel) PyProof.Rows.boot_int (pm_var (pv 0))) (pm_one (pm_not (pm_isT B "bool" (by decide) (by decide +kernel) PyProof.Rows.boot_bool (pm_var (pv 0))))))))
theorem ok__law_are_choices (G : Gs K mg) (FD : AllD K fds) {T : Nat → Fn} (Fs : Fns P w K mg base fds k T) : FnG P w K mg base CX0 (2 * k + 1 + 1) (He.ga K "_law_are_choices") (fds 8) p__law_are_choices (spM K p__law_are_choices.length (runBody (m__law_are_choices T (He.ga K "Fans") (He.ga K "Program")) N__law_are_choices.length)) := by
  refine FunDG.ok (FD 8 d__law_are_choices rfl) sc__law_are_choices rfl fun cdv A outer s H E hgd hr1 => ?_
  have hr : Room (2 * k) (A.deeper (envOfC "_law_are_choices" (defScope s__law_are_choices) s.heap.objs.size (He.ga K "_law_are_choices") cdv)) := hr1.mono (by omega)
  have hu := hr.units
  have B := G.bl
  have NS := G.ns
  exact (psm_cons (psm_if (ptm_not (ptm_val (pm_isT2 B "list" "tuple" (by decide) (by decide +kernel) PyProof.Rows.boot_list (by decide) (by decide +kernel) PyProof.Rows.boot_tuple (pm_var (pv 0))))) (psm_one (psm_ret pm_bl)) psm_nil)
      (psm_one (psm_ret (pm_eq hu (pm_comp (own := [("_law_word", 1)]) rfl sc__law_are_choices.nd (pim_seq (pm_var (pv 0))) (blkOk_by (N := N__law_are_choices) (sc := defScope s__law_are_choices) (own := [("_law_word", 1)]) (by decide +kernel)) (by decide) (fun _ _ _ _ _ => (pgm_name (pg_name (i := 1) sc__law_are_choices.nd rfl (Or.inl rfl)))) (fun _ _ _ _ _ => (ptsm_one (PWm.t (pwm_or (ptm_not (ptm_val (pm_isT B "str" (by decide) (by decide +kernel) PyProof.Rows.boot_str (pm_var (pv 1))))) (pwm_or1 (ptm_notIn (pm_var (pv 1)) (pm_tup (pam_cons pm_str (pam_cons pm_str (pam_cons pm_str (pam_cons pm_str pam_nil))))))))))) (fun _ _ _ _ _ => (pm_var (pv 1)))) (pm_lst pam_nil)))))
theorem ok__law_are_names (G : Gs K mg) (FD : AllD K fds) {T : Nat → Fn} (Fs : Fns P w K mg base fds k T) : FnG P w K mg base CX0 (2 * k + 1 + 1) (He.ga K "_law_are_names") (fds 9) p__law_are_names (spM K p__law_are_names.length (runBody (m__law_are_names T (He.ga K "Fans") (He.ga K "Program")) N__law_are_names.length)) := by
  refine FunDG.ok (FD 9 d__law_are_names rfl) sc__law_are_names rfl fun cdv A outer s H E hgd hr1 => ?_
  have hr : Room (2 * k) (A.deeper (envOfC "_law_are_names" (defScope s__law_are_names) s.heap.objs.size (He.ga K "_law_are_names") cdv)) := hr1.mono (by omega)
  have hu := hr.units
  have B := G.bl
  have NS := G.ns
  exact (psm_cons (psm_if (PWm.t (pwm_or (ptm_not (ptm_val (pm_isT2 B "list" "tuple" (by decide) (by decide +kernel) PyProof.Rows.boot_list (by decide) (by decide +kernel) PyProof.Rows.boot_tuple (pm_var (pv 0))))) (pwm_or1 (ptm_gt (pm_len B (pam_cons (pm_var (pv 0)) pam_nil)) (pm_var (pv 1)))))) (psm_one (psm_ret pm_bl)) psm_nil)
      (psm_one (psm_ret (pm_eq hu (pm_comp (own := [("_law_one", 2)]) rfl sc__law_are_names.nd (pim_seq (pm_var (pv 0))) (blkOk_by (N := N__law_are_names) (sc := defScope s__law_are_names) (own := [("_law_one", 2)]) (by decide +kernel)) (by decide) (fun _ _ _ _ _ => (pgm_name (pg_name (i := 2) sc__law_are_names.nd rfl (Or.inl rfl)))) (fun _ _ _ _ _ => (ptsm_one (ptm_not (ptm_val (pm_def Fs.d__law_is_name hgd hr (pam_cons (pm_var (pv 2)) pam_nil) (len_cons len_nil)))))) (fun _ _ _ _ _ => (pm_var (pv 2)))) (pm_lst pam_nil)))))
theorem ok_are_choices (G : Gs K mg) (FD : AllD K fds) {T : Nat → Fn} (Fs : Fns P w K mg base fds k T) : FnG P w K mg base CX0 (2 * k + 1 + 1) (He.ga K "are_choices") (fds 10) p_are_choices (spM K p_are_choices.length (runBody (m_are_choices T (He.ga K "Fans") (He.ga K "Program")) N_are_choices.length)) := by
  refine FunDG.ok (FD 10 d_are_choices rfl) sc_are_choices rfl fun cdv A outer s H E hgd hr1 => ?_
  have hr : Room (2 * k) (A.deeper (envOfC "are_choices" (defScope s_are_choices) s.heap.objs.size (He.ga K "are_choices") cdv)) := hr1.mono (by omega)
  have hu := hr.units
  have B := G.bl
  have NS := G.ns
  exact (psm_cons (psm_if (ptm_not (ptm_val (pm_isT2 B "list" "tuple" (by decide) (by decide +kernel) PyProof.Rows.boot_list (by decide) (by decide +kernel) PyProof.Rows.boot_tuple (pm_var (pv 0))))) (psm_one (psm_ret pm_bl)) psm_nil)
      (psm_one (psm_ret (pm_all B rfl (pam_cons (pm_comp (own := [("word", 1)]) rfl sc_are_choices.nd (pim_seq (pm_var (pv 0))) (blkOk_by (N := N_are_choices) (sc := defScope s_are_choices) (own := [("word", 1)]) (by decide +kernel)) (by decide) (fun _ _ _ _ _ => (pgm_name (pg_name (i := 1) sc_are_choices.nd rfl (Or.inl rfl)))) (fun _ _ _ _ _ => ptsm_nil) (fun _ _ _ _ _ => (pm_and (pm_isT B "str" (by decide) (by decide +kernel) PyProof.Rows.boot_str (pm_var (pv 1))) (pm_one (pm_in (pm_var (pv 1)) (pm_gtup (zs := ["yes", "no", "round", "out"]) G.c_WORDS)))))) pam_nil)))))
theorem ok_are_names (G : Gs K mg) (FD : AllD K fds) {T : Nat → Fn} (Fs : Fns P w K mg base fds k T) : FnG P w K mg base CX0 (2 * k + 1 + 1) (He.ga K "are_names") (fds 11) p_are_names (spM K p_are_names.length (runBody (m_are_names T (He.ga K "Fans") (He.ga K "Program")) N_are_names.length)) := by
  refine FunDG.ok (FD 11 d_are_names rfl) sc_are_names rfl fun cdv A outer s H E hgd hr1 => ?_
  have hr : Room (2 * k) (A.deeper (envOfC "are_names" (defScope s_are_names) s.heap.objs.size (He.ga K "are_names") cdv)) := hr1.mono (by omega)
  have hu := hr.units
  have B := G.bl
  have NS := G.ns
  exact (psm_cons (psm_if (PWm.t (pwm_or (ptm_not (ptm_val (pm_isT2 B "list" "tuple" (by decide) (by decide +kernel) PyProof.Rows.boot_list (by decide) (by decide +kernel) PyProof.Rows.boot_tuple (pm_var (pv 0))))) (pwm_or1 (ptm_gt (pm_len B (pam_cons (pm_var (pv 0)) pam_nil)) (pm_var (pv 1)))))) (psm_one (psm_ret pm_bl)) psm_nil)
      (psm_one (psm_ret (pm_all B rfl (pam_cons (pm_comp (own := [("name", 2)]) rfl sc_are_names.nd (pim_seq (pm_var (pv 0))) (blkOk_by (N := N_are_names) (sc := defScope s_are_names) (own := [("name", 2)]) (by decide +kernel)) (by decide) (fun _ _ _ _ _ => (pgm_name (pg_name (i := 2) sc_are_names.nd rfl (Or.inl rfl)))) (fun _ _ _ _ _ => ptsm_nil) (fun _ _ _ _ _ => (pm_def Fs.d_is_name hgd hr (pam_cons (pm_var (pv 2)) pam_nil) (len_cons len_nil)))) pam_nil)))))
theorem ok_is_address (G : Gs K mg) (FD : AllD K fds) {T : Nat → Fn} (Fs : Fns P w K mg base fds k T) : FnG P w K mg base CX0 (2 * k + 1 + 1) (He.ga K "is_address") (fds 12) p_is_address (spM K p_is_address.length (runBody (m_is_address T (He.ga K "Fans") (He.ga K "Program")) N_is_address.length)) := by
  refine FunDG.ok (FD 12 d_is_address rfl) sc_is_address rfl fun cdv A outer s H E hgd hr1 => ?_
  have hr : Room (2 * k) (A.deeper (envOfC "is_address" (defScope s_is_address) s.heap.objs.size (He.ga K "is_address") cdv)) := hr1.mono (by omega)
  have hu := hr.units
  have B := G.bl
  have NS := G.ns
  exact (psm_cons (psm_if (PWm.t (pwm_or (ptm_not (ptm_val (pm_isT B "tuple" (by decide) (by decide +kernel) PyProof.Rows.boot_tuple (pm_var (pv 0))))) (pwm_or1 (ptm_eq hu (pm_mod (pm_toint B (pam_cons (pm_len B (pam_cons (pm_var (pv 0)) pam_nil)) pam_nil)) pm_int) pm_int)))) (psm_one (psm_ret pm_bl)) psm_nil)
      (psm_one (psm_ret (pm_all B rfl (pam_cons (pm_comp (own := [("part", 1)]) rfl sc_is_address.nd (pim_seq (pm_var (pv 0))) (blkOk_by (N := N_is_address) (sc := defScope s_is_address) (own := [("part", 1)]) (by decide +kernel)) (by decide) (fun _ _ _ _ _ => (pgm_name (pg_name (i := 1) sc_is_address.nd rfl (Or.inl rfl)))) (fun _ _ _ _ _ => ptsm_nil) (fun _ _ _ _ _ => (pm_and (pm_def Fs.d_is_integer hgd hr (pam_cons (pm_var (pv 1)) pam_nil) (len_cons len_nil)) (pm_one (pm_ge (pm_var (pv 1)) pm_int))))) pam_nil)))))
theorem ok_is_name (G : Gs K mg) (FD : AllD K fds) {T : Nat → Fn} (Fs : Fns P w K mg base fds k T) : FnG P w K mg base CX0 (2 * k + 1 + 1) (He.ga K "is_name") (fds 13) p_is_name (spM K p_is_name.length (runBody (m_is_name T (He.ga K "Fans") (He.ga K "Program")) N_is_name.length)) := by
  refine FunDG.ok (FD 13 d_is_name rfl) sc_is_name rfl fun cdv A outer s H E hgd hr1 => ?_
  have hr : Room (2 * k) (A.deeper (envOfC "is_name" (defScope s_is_name) s.heap.objs.size (He.ga K "is_name") cdv)) := hr1.mono (by omega)
  have hu := hr.units
  have B := G.bl
  have NS := G.ns
  exact (psm_cons (psm_if (PWm.t (pwm_or (ptm_not (ptm_val (pm_isT B "str" (by decide) (by decide +kernel) PyProof.Rows.boot_str (pm_var (pv 0))))) (pwm_or1 (ptm_not (ptm_chain op_le opd_le op_le opd_le pm_int (pm_len B (pam_cons (pm_var (pv 0)) pam_nil)) (pm_gint G.c_MOST_LETTERS)))))) (psm_one (psm_ret pm_bl)) psm_nil)
      (psm_one (psm_ret (pm_all B rfl (pam_cons (pm_comp (own := [("letter", 1)]) rfl sc_is_name.nd (pim_seq (pm_var (pv 0))) (blkOk_by (N := N_is_name) (sc := defScope s_is_name) (own := [("letter", 1)]) (by decide +kernel)) (by decide) (fun _ _ _ _ _ => (pgm_name (pg_name (i := 1) sc_is_name.nd rfl (Or.inl rfl)))) (fun _ _ _ _ _ => ptsm_nil) (fun _ _ _ _ _ => (pm_in (pm_var (pv 1)) (pm_gstr G.c_LETTERS)))) pam_nil)))))
theorem ok_is_integer (G : Gs K mg) (FD : AllD K fds) {T : Nat → Fn} (Fs : Fns P w K mg base fds k T) : FnG P w K mg base CX0 (2 * k + 1 + 1) (He.ga K "is_integer") (fds 14) p_is_integer (spM K p_is_integer.length (runBody (m_is_integer T (He.ga K "Fans") (He.ga K "Program")) N_is_integer.length)) := by
  refine FunDG.ok (FD 14 d_is_integer rfl) sc_is_integer rfl fun cdv A outer s H E hgd hr1 => ?_
  have hr : Room (2 * k) (A.deeper (envOfC "is_integer" (defScope s_is_integer) s.heap.objs.size (He.ga K "is_integer") cdv)) := hr1.mono (by omega)
  have hu := hr.units
  have B := G.bl
  have NS := G.ns
  exact (psm_one (psm_ret (pm_and (pm_isT B "int" (by decide) (by decide +kernel) PyProof.Rows.boot_int (pm_var (pv 0))) (pm_one (pm_not (pm_isT B "bool" (by decide) (by decide +kernel) PyProof.Rows.boot_bool (pm_var (pv 0))))))))
theorem ok__law_alike (G : Gs K mg) (FD : AllD K fds) {T : Nat → Fn} (Fs : Fns P w K mg base fds k T) : FnG P w K mg base CX0 (2 * k + 1 + 1) (He.ga K "_law_alike") (fds 15) p__law_alike (spM K p__law_alike.length (runBody (m__law_alike T (He.ga K "Fans") (He.ga K "Program")) N__law_alike.length)) := by
  refine FunDG.ok (FD 15 d__law_alike rfl) sc__law_alike rfl fun cdv A outer s H E hgd hr1 => ?_
  have hr : Room (2 * k) (A.deeper (envOfC "_law_alike" (defScope s__law_alike) s.heap.objs.size (He.ga K "_law_alike") cdv)) := hr1.mono (by omega)
  have hu := hr.units
  have B := G.bl
  have NS := G.ns
  exact (psm_one (psm_ret (pm_and (pm_eq hu (pm_var (pv 0)) (pm_var (pv 1))) (pm_one (pm_eq hu (pm_repr B NS hgd hu (pam_cons (pm_var (pv 0)) pam_nil)) (pm_repr B NS hgd hu (pam_cons (pm_var (pv 1)) pam_nil)))))))
theorem ok__law_odd (G : Gs K mg) (FD : AllD K fds) {T : Nat → Fn} (Fs : Fns P w K mg base fds k T) : FnG P w K mg base CX0 (2 * k + 1 + 1) (He.ga K "_law_odd") (fds 16) p__law_odd (spM K p__law_odd.length (runBody (m__law_odd T (He.ga K "Fans") (He.ga K "Program")) N__law_odd.length)) := by
  refine FunDG.ok (FD 16 d__law_odd rfl) sc__law_odd rfl fun cdv A outer s H E hgd hr1 => ?_
  have hr : Room (2 * k) (A.deeper (envOfC "_law_odd" (defScope s__law_odd) s.heap.objs.size (He.ga K "_law_odd") cdv)) := hr1.mono (by omega)
  have hu := hr.units
  have B := G.bl
  have NS := G.ns
  exact (psm_cons (psm_set (ps_set (i := 2) sc__law_odd.nd rfl (Or.inl rfl) (pm_lst (pam_cons pm_non (pam_cons pm_bl (pam_cons pm_bl (pam_cons pm_int (pam_cons pm_int (pam_cons (pm_neg pm_int) (pam_cons (pm_pow pm_int pm_int) (pam_cons pm_str (pam_cons (pm_var (pv 1)) (pam_cons (pm_upper (pm_var (pv 1))) (pam_cons (pm_add (pm_var (pv 1)) pm_str) (pam_cons pm_str (pam_cons pm_str (pam_cons pm_str pam_nil)))))))))))))))))
      (psm_cons (psm_set (ps_set (i := 2) sc__law_odd.nd rfl (Or.inl rfl) (pm_add (pm_var (pv 2)) (pm_lst (pam_cons (pm_tup pam_nil) (pam_cons (pm_lst pam_nil) (pam_cons pm_dict0 (pam_cons (pm_tup (pam_cons (pm_var (pv 1)) pam_nil)) (pam_cons (pm_lst (pam_cons (pm_var (pv 1)) pam_nil)) (pam_cons (pm_dict1 (pm_var (pv 1)) pm_int) (pam_cons (pm_tup (pam_cons pm_int pam_nil)) (pam_cons (pm_lst (pam_cons pm_int pam_nil)) (pam_cons (pm_tup (pam_cons pm_bl pam_nil)) (pam_cons (pm_tup (pam_cons (pm_neg pm_int) pam_nil)) (pam_cons (pm_tup (pam_cons pm_int (pam_cons pm_int pam_nil))) (pam_cons pm_str (pam_cons (pm_tup (pam_cons pm_str pam_nil)) pam_nil)))))))))))))))))
      (psm_one (psm_ret (pm_sub_ix (pm_var (pv 2)) (pm_def Fs.d__law_take hgd hr (pam_cons (pm_var (pv 0)) (pam_cons (pm_len B (pam_cons (pm_var (pv 2)) pam_nil)) pam_nil)) (len_cons (len_cons len_nil))))))))
theorem ok__law_near_name (G : Gs K mg) (FD : AllD K fds) {T : Nat → Fn} (Fs : Fns P w K mg base fds k T) : FnG P w K mg base CX0 (2 * k + 1 + 1) (He.ga K "_law_near_name") (fds 17) p__law_near_name (spM K p__law_near_name.length (runBody (m__law_near_name T (He.ga K "Fans") (He.ga K "Program")) N__law_near_name.length)) := by
  refine FunDG.ok (FD 17 d__law_near_name rfl) sc__law_near_name rfl fun cdv A outer s H E hgd hr1 => ?_
  have hr : Room (2 * k) (A.deeper (envOfC "_law_near_name" (defScope s__law_near_name) s.heap.objs.size (He.ga K "_law_near_name") cdv)) := hr1.mono (by omega)
  have hu := hr.units
  have B := G.bl
  have NS := G.ns
  exact (psm_cons (psm_set (ps_set (i := 1) sc__law_near_name.nd rfl (Or.inr rfl) pm_str))
      (psm_cons (psm_set (ps_set (i := 2) sc__law_near_name.nd rfl (Or.inl rfl) (pm_join pm_str (pam_cons (pm_comp (own := [("_law_k", 5)]) rfl sc__law_near_name.nd (pim_rng1 B (pam_cons (pm_add pm_int (pm_def Fs.d__law_take hgd hr (pam_cons (pm_var (pv 0)) (pam_cons pm_int pam_nil)) (len_cons (len_cons len_nil)))) pam_nil)) (blkOk_by (N := N__law_near_name) (sc := defScope s__law_near_name) (own := [("_law_k", 5)]) (by decide +kernel)) (by decide) (fun _ _ _ _ _ => (pgm_name (pg_name (i := 5) sc__law_near_name.nd rfl (Or.inl rfl)))) (fun _ _ _ _ _ => ptsm_nil) (fun _ _ _ _ _ => (pm_sub_ix (pm_var (pv 1)) (pm_def Fs.d__law_take hgd hr (pam_cons (pm_var (pv 0)) (pam_cons pm_int pam_nil)) (len_cons (len_cons len_nil)))))) pam_nil))))
      (psm_cons (psm_set (ps_set (i := 3) sc__law_near_name.nd rfl (Or.inl rfl) (pm_def Fs.d__law_take hgd hr (pam_cons (pm_var (pv 0)) (pam_cons (pm_len B (pam_cons (pm_var (pv 2)) pam_nil)) pam_nil)) (len_cons (len_cons len_nil)))))
      (psm_cons (psm_set (ps_set (i := 4) sc__law_near_name.nd rfl (Or.inl rfl) (pm_def Fs.d__law_take hgd hr (pam_cons (pm_var (pv 0)) (pam_cons pm_int pam_nil)) (len_cons (len_cons len_nil)))))
      (psm_cons (psm_if (ptm_eq hu (pm_var (pv 4)) pm_int) (psm_one (psm_ret (pm_add (pm_add (pm_slice (pm_var (pv 2)) pom_none (pom_some (pm_var (pv 3)))) (pm_sub_ix (pm_var (pv 1)) (pm_def Fs.d__law_take hgd hr (pam_cons (pm_var (pv 0)) (pam_cons (pm_len B (pam_cons (pm_var (pv 1)) pam_nil)) pam_nil)) (len_cons (len_cons len_nil))))) (pm_slice (pm_var (pv 2)) (pom_some (pm_add (pm_var (pv 3)) pm_int)) pom_none)))) psm_nil)
      (psm_cons (psm_if (ptm_eq hu (pm_var (pv 4)) pm_int) (psm_one (psm_ret (pm_add (pm_add (pm_slice (pm_var (pv 2)) pom_none (pom_some (pm_var (pv 3)))) (pm_sub_ix (pm_var (pv 1)) (pm_def Fs.d__law_take hgd hr (pam_cons (pm_var (pv 0)) (pam_cons (pm_len B (pam_cons (pm_var (pv 1)) pam_nil)) pam_nil)) (len_cons (len_cons len_nil))))) (pm_slice (pm_var (pv 2)) (pom_some (pm_var (pv 3))) pom_none)))) psm_nil)
      (psm_one (psm_ret (pm_var (pv 2))))))))))
theorem ok__law_near_address (G : Gs K mg) (FD : AllD K fds) {T : Nat → Fn} (Fs : Fns P w K mg base fds k T) : FnG P w K mg base CX0 (2 * k + 1 + 1) (He.ga K "_law_near_address") (fds 18) p__law_near_address (spM K p__law_near_address.length (runBody (m__law_near_address T (He.ga K "Fans") (He.ga K "Program")) N__law_near_address.length)) := by
  refine FunDG.ok (FD 18 d__law_near_address rfl) sc__law_near_address rfl fun cdv A outer s H E hgd hr1 => ?_
  have hr : Room (2 * k) (A.deeper (envOfC "_law_near_address" (defScope s__law_near_address) s.heap.objs.size (He.ga K "_law_near_address") cdv)) := hr1.mono (by omega)
  have hu := hr.units
  have B := G.bl
  have NS := G.ns
  exact (psm_cons (psm_new (ps_comp (own := [("_law_k", 2)]) (i := 1) rfl sc__law_near_address.nd rfl rfl (sw_true rfl rfl rfl (by decide +kernel)) (pim_rng1 B (pam_cons (pm_def Fs.d__law_take hgd hr (pam_cons (pm_var (pv 0)) (pam_cons pm_int pam_nil)) (len_cons (len_cons len_nil))) pam_nil)) (blkOk_by (N := N__law_near_address) (sc := defScope s__law_near_address) (own := [("_law_k", 2)]) (by decide +kernel)) (by decide) (fun _ _ _ _ _ => (pgm_name (pg_name (i := 2) sc__law_near_address.nd rfl (Or.inl rfl)))) (fun _ _ _ _ _ => ptsm_nil) (fun _ _ _ _ _ => (pm_sub_ix (pm_lst (pam_cons pm_int (pam_cons pm_int (pam_cons pm_int (pam_cons pm_int pam_nil))))) (pm_def Fs.d__law_take hgd hr (pam_cons (pm_var (pv 0)) (pam_cons pm_int pam_nil)) (len_cons (len_cons len_nil)))))))
      (psm_cons (psm_if (PWm.t (pwm_and (ptm_ne hu (pm_var (pv 1)) (pm_lst pam_nil)) (pwm_and1 (ptm_eq hu (pm_def Fs.d__law_take hgd hr (pam_cons (pm_var (pv 0)) (pam_cons pm_int pam_nil)) (len_cons (len_cons len_nil))) pm_int)))) (psm_one (psm_put (pm_sub_ix (pm_lst (pam_cons (pm_neg pm_int) (pam_cons pm_bl (pam_cons pm_bl (pam_cons pm_non (pam_cons pm_str (pam_cons (pm_pow pm_int pm_int) (pam_cons (pm_tup (pam_cons pm_int pam_nil)) (pam_cons (pm_lst pam_nil) pam_nil))))))))) (pm_def Fs.d__law_take hgd hr (pam_cons (pm_var (pv 0)) (pam_cons pm_int pam_nil)) (len_cons (len_cons len_nil)))) (pm_var (pv 1)) (pm_def Fs.d__law_take hgd hr (pam_cons (pm_var (pv 0)) (pam_cons (pm_len B (pam_cons (pm_var (pv 1)) pam_nil)) pam_nil)) (len_cons (len_cons len_nil))))) psm_nil)
      (psm_one (psm_ret (pm_if (ptm_gt (pm_def Fs.d__law_take hgd hr (pam_cons (pm_var (pv 0)) (pam_cons pm_int pam_nil)) (len_cons (len_cons len_nil))) pm_int) (pm_totuple B (pam_cons (pm_var (pv 1)) pam_nil)) (pm_var (pv 1)))))))
theorem ok_are_inputs (G : Gs K mg) (FD : AllD K fds) {T : Nat → Fn} (Fs : Fns P w K mg base fds k T) : FnG P w K mg base CX0 (2 * k + 1 + 1) (He.ga K "are_inputs") (fds 19) p_are_inputs (spM K p_are_inputs.length (runBody (m_are_inputs T (He.ga K "Fans") (He.ga K "Program")) N_are_inputs.length)) := by
  refine FunDG.ok (FD 19 d_are_inputs rfl) sc_are_inputs rfl fun cdv A outer s H E hgd hr1 => ?_
  have hr : Room (2 * k) (A.deeper (envOfC "are_inputs" (defScope s_are_inputs) s.heap.objs.size (He.ga K "are_inputs") cdv)) := hr1.mono (by omega)
  have hu := hr.units
  have B := G.bl
  have NS := G.ns
  exact (psm_one (psm_ret (pm_and (pm_def Fs.d_are_names hgd hr (pam_cons (pm_var (pv 0)) (pam_cons (pm_gint G.c_MOST_INPUTS) pam_nil)) (len_cons (len_cons len_nil))) (pm_one (pm_eq hu (pm_lenSet B rfl (pm_var (pv 0))) (pm_len B (pam_cons (pm_var (pv 0)) pam_nil)))))))
theorem ok_are_rows (G : Gs K mg) (FD : AllD K fds) {T : Nat → Fn} (Fs : Fns P w K mg base fds k T) : FnG P w K mg base CX0 (2 * k + 1 + 1) (He.ga K "are_rows") (fds 20) p_are_rows (spM K p_are_rows.length (runBody (m_are_rows T (He.ga K "Fans") (He.ga K "Program")) N_are_rows.length)) := by
  refine FunDG.ok (FD 20 d_are_rows rfl) sc_are_rows rfl fun cdv A outer s H E hgd hr1 => ?_
  have hr : Room (2 * k) (A.deeper (envOfC "are_rows" (defScope s_are_rows) s.heap.objs.size (He.ga K "are_rows") cdv)) := hr1.mono (by omega)
  have hu := hr.units
  have B := G.bl
  have NS := G.ns
  exact (psm_one (psm_ret (pm_and (pm_isT2 B "list" "tuple" (by decide) (by decide +kernel) PyProof.Rows.boot_list (by decide) (by decide +kernel) PyProof.Rows.boot_tuple (pm_var (pv 0))) (pm_one (pm_all B rfl (pam_cons (pm_comp (own := [("row", 1)]) rfl sc_are_rows.nd (pim_seq (pm_var (pv 0))) (blkOk_by (N := N_are_rows) (sc := defScope s_are_rows) (own := [("row", 1)]) (by decide +kernel)) (by decide) (fun _ _ _ _ _ => (pgm_name (pg_name (i := 1) sc_are_rows.nd rfl (Or.inl rfl)))) (fun _ _ _ _ _ => ptsm_nil) (fun _ _ _ _ _ => pm_no)) pam_nil))))))
theorem ok_count (G : Gs K mg) (FD : AllD K fds) {T : Nat → Fn} (Fs : Fns P w K mg base fds k T) : FnG P w K mg base CX0 (2 * k + 1 + 1) (He.ga K "count") (fds 21) p_count (spM K p_count.length (runBody (m_count T (He.ga K "Fans") (He.ga K "Program")) N_count.length)) := by
  refine FunDG.ok (FD 21 d_count rfl) sc_count rfl fun cdv A outer s H E hgd hr1 => ?_
  have hr : Room (2 * k) (A.deeper (envOfC "count" (defScope s_count) s.heap.objs.size (He.ga K "count") cdv)) := hr1.mono (by omega)
  have hu := hr.units
  have B := G.bl
  have NS := G.ns
  exact (psm_one (psm_ret (pm_add (pm_len B (pam_cons (pm_var (pv 0)) pam_nil)) (pm_sum B rfl (pam_cons (pm_comp20 (own := [("row", 1), ("some", 2)]) rfl sc_count.nd (pim_seq (pm_var (pv 0))) (blkOk_by (N := N_count) (sc := defScope s_count) (own := [("row", 1), ("some", 2)]) (by decide +kernel))) pam_nil)))))
theorem ok_depth (G : Gs K mg) (FD : AllD K fds) {T : Nat → Fn} (Fs : Fns P w K mg base fds k T) : FnG P w K mg base CX0 (2 * k + 1 + 1) (He.ga K "depth") (fds 22) p_depth (spM K p_depth.length (runBody (m_depth T (He.ga K "Fans") (He.ga K "Program")) N_depth.length)) := by
  refine FunDG.ok (FD 22 d_depth rfl) sc_depth rfl fun cdv A outer s H E hgd hr1 => ?_
  have hr : Room (2 * k) (A.deeper (envOfC "depth" (defScope s_depth) s.heap.objs.size (He.ga K "depth") cdv)) := hr1.mono (by omega)
  have hu := hr.units
  have B := G.bl
  have NS := G.ns
  exact (psm_one (psm_ret (pm_add pm_int (pm_max0 B rfl (pm_comp20 (own := [("row", 1), ("some", 2)]) rfl sc_depth.nd (pim_seq (pm_var (pv 0))) (blkOk_by (N := N_depth) (sc := defScope s_depth) (own := [("row", 1), ("some", 2)]) (by decide +kernel))) pm_int))))
theorem ok_walked (G : Gs K mg) (FD : AllD K fds) {T : Nat → Fn} (Fs : Fns P w K mg base fds k T) : FnG P w K mg base CX0 (2 * k + 1 + 1) (He.ga K "walked") (fds 23) p_walked (spM K p_walked.length (runBody (m_walked T (He.ga K "Fans") (He.ga K "Program")) N_walked.length)) := by
  refine FunDG.ok (FD 23 d_walked rfl) sc_walked rfl fun cdv A outer s H E hgd hr1 => ?_
  have hr : Room (2 * k) (A.deeper (envOfC "walked" (defScope s_walked) s.heap.objs.size (He.ga K "walked") cdv)) := hr1.mono (by omega)
  have hu := hr.units
  have B := G.bl
  have NS := G.ns
  exact (psm_cons (psm_new (ps_set (i := 2) sc_walked.nd rfl (Or.inl rfl) (pm_lst pam_nil)))
      (psm_cons (psm_for PassesOwn.never rfl (pim_enm B (pam_cons (pm_var (pv 0)) pam_nil)) (pgm_tup rfl (pgm_cons (pgm_name (pg_name (i := 3) sc_walked.nd rfl (Or.inl rfl))) (pgm_cons (pgm_name (pg_name (i := 4) sc_walked.nd rfl (Or.inl rfl))) pgm_nil))) pssm_no)
      (psm_one (psm_ret (pm_var (pv 2))))))
theorem ok_Program_need_leaves (G : Gs K mg) (FD : AllD K fds) {T : Nat → Fn} (Fs : Fns P w K mg base fds k T) : FnG P w K mg base CX0 (2 * k + 1 + 1) (He.ma K (He.ga K "Program") "need_leaves") (fds 24) p_Program_need_leaves (spM K p_Program_need_leaves.length (runBody (m_Program_need_leaves T (He.ga K "Fans") (He.ga K "Program")) N_Program_need_leaves.length)) := by
  refine FunDG.ok (FD 24 d_Program_need_leaves rfl) sc_Program_need_leaves rfl fun cdv A outer s H E hgd hr1 => ?_
  have hr : Room (2 * k) (A.deeper (envOfC "Program.need_leaves" (defScope s_Program_need_leaves) s.heap.objs.size (He.ma K (He.ga K "Program") "need_leaves") cdv)) := hr1.mono (by omega)
  have hu := hr.units
  have B := G.bl
  have NS := G.ns
  exact (psm_one (psm_forFld0 PassesOwn.never rfl G.cl_Program G.na_Program_kept_at (pv 0)))
theorem ok_Program_need_names (G : Gs K mg) (FD : AllD K fds) {T : Nat → Fn} (Fs : Fns P w K mg base fds k T) : FnG P w K mg base CX0 (2 * k + 1 + 1) (He.ma K (He.ga K "Program") "need_names") (fds 25) p_Program_need_names (spM K p_Program_need_names.length (runBody (m_Program_need_names T (He.ga K "Fans") (He.ga K "Program")) N_Program_need_names.length)) := by
  refine FunDG.ok (FD 25 d_Program_need_names rfl) sc_Program_need_names rfl fun cdv A outer s H E hgd hr1 => ?_
  have hr : Room (2 * k) (A.deeper (envOfC "Program.need_names" (defScope s_Program_need_names) s.heap.objs.size (He.ma K (He.ga K "Program") "need_names") cdv)) := hr1.mono (by omega)
  have hu := hr.units
  have B := G.bl
  have NS := G.ns
  exact (psm_cons (psm_new (ps_set (i := 1) sc_Program_need_names.nd rfl (Or.inl rfl) (pm_lst pam_nil)))
      (psm_cons (psm_forFld0 PassesOwn.never rfl G.cl_Program G.na_Program_kept_at (pv 0))
      (psm_one (psm_if (ptm_ne hu (pm_var (pv 1)) (pm_lst pam_nil)) (psm_one psm_no) psm_nil))))
theorem ok_Program_need_sight (G : Gs K mg) (FD : AllD K fds) {T : Nat → Fn} (Fs : Fns P w K mg base fds k T) : FnG P w K mg base CX0 (2 * k + 1 + 1) (He.ma K (He.ga K "Program") "need_sight") (fds 26) p_Program_need_sight (spM K p_Program_need_sight.length (runBody (m_Program_need_sight T (He.ga K "Fans") (He.ga K "Program")) N_Program_need_sight.length)) := by
  refine FunDG.ok (FD 26 d_Program_need_sight rfl) sc_Program_need_sight rfl fun cdv A outer s H E hgd hr1 => ?_
  have hr : Room (2 * k) (A.deeper (envOfC "Program.need_sight" (defScope s_Program_need_sight) s.heap.objs.size (He.ma K (He.ga K "Program") "need_sight") cdv)) := hr1.mono (by omega)
  have hu := hr.units
  have B := G.bl
  have NS := G.ns
  exact (psm_one (psm_forFld0 PassesOwn.never rfl G.cl_Program G.na_Program_kept_at (pv 0)))
theorem ok_Program_need_trees (G : Gs K mg) (FD : AllD K fds) {T : Nat → Fn} (Fs : Fns P w K mg base fds k T) : FnG P w K mg base CX0 (2 * k + 1 + 1) (He.ma K (He.ga K "Program") "need_trees") (fds 27) p_Program_need_trees (spM K p_Program_need_trees.length (runBody (m_Program_need_trees T (He.ga K "Fans") (He.ga K "Program")) N_Program_need_trees.length)) := by
  refine FunDG.ok (FD 27 d_Program_need_trees rfl) sc_Program_need_trees rfl fun cdv A outer s H E hgd hr1 => ?_
  have hr : Room (2 * k) (A.deeper (envOfC "Program.need_trees" (defScope s_Program_need_trees) s.heap.objs.size (He.ma K (He.ga K "Program") "need_trees") cdv)) := hr1.mono (by omega)
  have hu := hr.units
  have B := G.bl
  have NS := G.ns
  exact (psm_cons (psm_set (ps_set (i := 1) sc_Program_need_trees.nd rfl (Or.inl rfl) (pm_make Fs.k_Fans hgd hr1 (pam_cons (pm_fld G.cl_Program G.na_Program_kept_inputs (pm_var (pv 0))) (pam_cons (pm_fld G.cl_Program G.na_Program_kept_rows (pm_var (pv 0))) pam_nil)) (fun ρ M ss M' h => congrArg (· + 1) ((len_cons (len_cons len_nil)) ρ M ss M' h)))))
      (psm_one (psm_for PassesOwn.never rfl (pim_seq (pm_meth0 Fs.m_Program_names rfl hgd hr (pm_var (pv 0)))) (pgm_name (pg_name (i := 2) sc_Program_need_trees.nd rfl (Or.inl rfl))) pssm_no)))
theorem ok_Fans___init__ (G : Gs K mg) (FD : AllD K fds) {T : Nat → Fn} (Fs : Fns P w K mg base fds k T) : FnG P w K mg base CX0 (2 * k + 1 + 1) (He.ma K (He.ga K "Fans") "__init__") (fds 28) p_Fans___init__ (spM K p_Fans___init__.length (runBody (m_Fans___init__ T (He.ga K "Fans") (He.ga K "Program")) N_Fans___init__.length)) := by
  refine FunDG.ok (FD 28 d_Fans___init__ rfl) sc_Fans___init__ rfl fun cdv A outer s H E hgd hr1 => ?_
  have hr : Room (2 * k) (A.deeper (envOfC "Fans.__init__" (defScope s_Fans___init__) s.heap.objs.size (He.ma K (He.ga K "Fans") "__init__") cdv)) := hr1.mono (by omega)
  have hu := hr.units
  have B := G.bl
  have NS := G.ns
  exact (psm_cons (psm_flds rfl (pm_tup (pam_cons (pm_lst pam_nil) (pam_cons pm_dict0 (pam_cons pm_dict0 (pam_cons pm_int pam_nil))))) (pfs_cons G.cl_Fans G.na_Fans_nodes (pm_var (pv 0)) (pfs_cons G.cl_Fans G.na_Fans_numbers (pm_var (pv 0)) (pfs_cons G.cl_Fans G.na_Fans_makings (pm_var (pv 0)) (pfs_cons G.cl_Fans G.na_Fans_rank (pm_var (pv 0)) pfs_nil)))))
      (psm_cons (psm_fldPut G.cl_Fans G.na_Fans_node_of (pm_var (pv 0)) (pm_dcE (own := [("name", 3)]) rfl sc_Fans___init__.nd (pim_seq (pm_var (pv 1))) (blkOk_by (N := N_Fans___init__) (sc := defScope s_Fans___init__) (own := [("name", 3)]) (by decide +kernel))))
      (psm_one (psm_expr (pm_meth Fs.m_Fans_add hgd hr (pm_var (pv 0)) (pam_cons (pm_var (pv 2)) pam_nil) (fun ρ M ss M' h => congrArg (· + 1) ((len_cons len_nil) ρ M ss M' h)))))))
theorem ok_Program_names (G : Gs K mg) (FD : AllD K fds) {T : Nat → Fn} (Fs : Fns P w K mg base fds k T) : FnG P w K mg base CX0 (2 * k + 1 + 1) (He.ma K (He.ga K "Program") "names") (fds 29) p_Program_names (spM K p_Program_names.length (runBody (m_Program_names T (He.ga K "Fans") (He.ga K "Program")) N_Program_names.length)) := by
  refine FunDG.ok (FD 29 d_Program_names rfl) sc_Program_names rfl fun cdv A outer s H E hgd hr1 => ?_
  have hr : Room (2 * k) (A.deeper (envOfC "Program.names" (defScope s_Program_names) s.heap.objs.size (He.ma K (He.ga K "Program") "names") cdv)) := hr1.mono (by omega)
  have hu := hr.units
  have B := G.bl
  have NS := G.ns
  exact (psm_one (psm_ret (pm_sorted0 B rfl (pam_cons (pm_fld G.cl_Program G.na_Program_kept_makers (pm_var (pv 0))) pam_nil))))
theorem ok_Fans_add (G : Gs K mg) (FD : AllD K fds) {T : Nat → Fn} (Fs : Fns P w K mg base fds k T) : FnG P w K mg base CX0 (2 * k + 1 + 1) (He.ma K (He.ga K "Fans") "add") (fds 30) p_Fans_add (spM K p_Fans_add.length (runBody (m_Fans_add T (He.ga K "Fans") (He.ga K "Program")) N_Fans_add.length)) := by
  refine FunDG.ok (FD 30 d_Fans_add rfl) sc_Fans_add rfl fun cdv A outer s H E hgd hr1 => ?_
  have hr : Room (2 * k) (A.deeper (envOfC "Fans.add" (defScope s_Fans_add) s.heap.objs.size (He.ma K (He.ga K "Fans") "add") cdv)) := hr1.mono (by omega)
  have hu := hr.units
  have B := G.bl
  have NS := G.ns
  exact (psm_one (psm_for PassesOwn.never rfl (pim_seq (pm_var (pv 1))) (pgm_name (pg_name (i := 2) sc_Fans_add.nd rfl (Or.inl rfl))) pssm_no))
theorem fns0 (G : Gs K mg) (FD : AllD K fds) : Fns P w K mg base fds 0 (fun _ _ _ => none) := ⟨⟨G.gl_law, (FD 0 d_law rfl).kp, b_law FD, FnG.zero⟩, ⟨G.gl__law_bag, (FD 1 d__law_bag rfl).kp, b__law_bag FD, FnG.zero⟩, ⟨G.gl__law_some, (FD 2 d__law_some rfl).kp, b__law_some FD, FnG.zero⟩, ⟨G.gc_Program, G.ob_Program, G.mk_Program, b_Program___init__ FD, FnG.zero⟩, ⟨G.gl__law_take, (FD 4 d__law_take rfl).kp, b__law_take FD, FnG.zero⟩, ⟨G.gl__law_is_address, (FD 5 d__law_is_address rfl).kp, b__law_is_address FD, FnG.zero⟩, ⟨G.gl__law_is_name, (FD 6 d__law_is_name rfl).kp, b__law_is_name FD, FnG.zero⟩, ⟨G.gl__law_is_integer, (FD 7 d__law_is_integer rfl).kp, b__law_is_integer FD, FnG.zero⟩, ⟨G.gl__law_are_choices, (FD 8 d__law_are_choices rfl).kp, b__law_are_choices FD, FnG.zero⟩, ⟨G.gl__law_are_names, (FD 9 d__law_are_names rfl).kp, b__law_are_names FD, FnG.zero⟩, ⟨G.gl_are_choices, (FD 10 d_are_choices rfl).kp, b_are_choices FD, FnG.zero⟩, ⟨G.gl_are_names, (FD 11 d_are_names rfl).kp, b_are_names FD, FnG.zero⟩, ⟨G.gl_is_address, (FD 12 d_is_address rfl).kp, b_is_address FD, FnG.zero⟩, ⟨G.gl_is_name, (FD 13 d_is_name rfl).kp, b_is_name FD, FnG.zero⟩, ⟨G.gl_is_integer, (FD 14 d_is_integer rfl).kp, b_is_integer FD, FnG.zero⟩, ⟨G.gl__law_alike, (FD 15 d__law_alike rfl).kp, b__law_alike FD, FnG.zero⟩, ⟨G.gl__law_odd, (FD 16 d__law_odd rfl).kp, b__law_odd FD, FnG.zero⟩, ⟨G.gl__law_near_name, (FD 17 d__law_near_name rfl).kp, b__law_near_name FD, FnG.zero⟩, ⟨G.gl__law_near_address, (FD 18 d__law_near_address rfl).kp, b__law_near_address FD, FnG.zero⟩, ⟨G.gl_are_inputs, (FD 19 d_are_inputs rfl).kp, b_are_inputs FD, FnG.zero⟩, ⟨G.gl_are_rows, (FD 20 d_are_rows rfl).kp, b_are_rows FD, FnG.zero⟩, ⟨G.gl_count, (FD 21 d_count rfl).kp, b_count FD, FnG.zero⟩, ⟨G.gl_depth, (FD 22 d_depth rfl).kp, b_depth FD, FnG.zero⟩, ⟨G.gl_walked, (FD 23 d_walked rfl).kp, b_walked FD, FnG.zero⟩, ⟨G.cl_Program, G.mt_Program_need_leaves, b_Program_need_leaves FD, FnG.zero⟩, ⟨G.cl_Program, G.mt_Program_need_names, b_Program_need_names FD, FnG.zero⟩, ⟨G.cl_Program, G.mt_Program_need_sight, b_Program_need_sight FD, FnG.zero⟩, ⟨G.cl_Program, G.mt_Program_need_trees, b_Program_need_trees FD, FnG.zero⟩, ⟨G.gc_Fans, G.ob_Fans, G.mk_Fans, b_Fans___init__ FD, FnG.zero⟩, ⟨G.cl_Program, G.mt_Program_names, b_Program_names FD, FnG.zero⟩, ⟨G.cl_Fans, G.mt_Fans_add, b_Fans_add FD, FnG.zero⟩⟩
theorem fnsS (G : Gs K mg) (FD : AllD K fds) {T : Nat → Fn} (Fs : Fns P w K mg base fds k T) : Fns P w K mg base fds (k + 1) (step T (He.ga K "Fans") (He.ga K "Program")) := ⟨⟨G.gl_law, (FD 0 d_law rfl).kp, b_law FD, ok_law G FD Fs⟩, ⟨G.gl__law_bag, (FD 1 d__law_bag rfl).kp, b__law_bag FD, ok__law_bag G FD Fs⟩, ⟨G.gl__law_some, (FD 2 d__law_some rfl).kp, b__law_some FD, ok__law_some G FD Fs⟩, ⟨G.gc_Program, G.ob_Program, G.mk_Program, b_Program___init__ FD, ok_Program___init__ G FD Fs⟩, ⟨G.gl__law_take, (FD 4 d__law_take rfl).kp, b__law_take FD, ok__law_take G FD Fs⟩, ⟨G.gl__law_is_address, (FD 5 d__law_is_address rfl).kp, b__law_is_address FD, ok__law_is_address G FD Fs⟩, ⟨G.gl__law_is_name, (FD 6 d__law_is_name rfl).kp, b__law_is_name FD, ok__law_is_name G FD Fs⟩, ⟨G.gl__law_is_integer, (FD 7 d__law_is_integer rfl).kp, b__law_is_integer FD, ok__law_is_integer G FD Fs⟩, ⟨G.gl__law_are_choices, (FD 8 d__law_are_choices rfl).kp, b__law_are_choices FD, ok__law_are_choices G FD Fs⟩, ⟨G.gl__law_are_names, (FD 9 d__law_are_names rfl).kp, b__law_are_names FD, ok__law_are_names G FD Fs⟩, ⟨G.gl_are_choices, (FD 10 d_are_choices rfl).kp, b_are_choices FD, ok_are_choices G FD Fs⟩, ⟨G.gl_are_names, (FD 11 d_are_names rfl).kp, b_are_names FD, ok_are_names G FD Fs⟩, ⟨G.gl_is_address, (FD 12 d_is_address rfl).kp, b_is_address FD, ok_is_address G FD Fs⟩, ⟨G.gl_is_name, (FD 13 d_is_name rfl).kp, b_is_name FD, ok_is_name G FD Fs⟩, ⟨G.gl_is_integer, (FD 14 d_is_integer rfl).kp, b_is_integer FD, ok_is_integer G FD Fs⟩, ⟨G.gl__law_alike, (FD 15 d__law_alike rfl).kp, b__law_alike FD, ok__law_alike G FD Fs⟩, ⟨G.gl__law_odd, (FD 16 d__law_odd rfl).kp, b__law_odd FD, ok__law_odd G FD Fs⟩, ⟨G.gl__law_near_name, (FD 17 d__law_near_name rfl).kp, b__law_near_name FD, ok__law_near_name G FD Fs⟩, ⟨G.gl__law_near_address, (FD 18 d__law_near_address rfl).kp, b__law_near_address FD, ok__law_near_address G FD Fs⟩, ⟨G.gl_are_inputs, (FD 19 d_are_inputs rfl).kp, b_are_inputs FD, ok_are_inputs G FD Fs⟩, ⟨G.gl_are_rows, (FD 20 d_are_rows rfl).kp, b_are_rows FD, ok_are_rows G FD Fs⟩, ⟨G.gl_count, (FD 21 d_count rfl).kp, b_count FD, ok_count G FD Fs⟩, ⟨G.gl_depth, (FD 22 d_depth rfl).kp, b_depth FD, ok_depth G FD Fs⟩, ⟨G.gl_walked, (FD 23 d_walked rfl).kp, b_walked FD, ok_walked G FD Fs⟩, ⟨G.cl_Program, G.mt_Program_need_leaves, b_Program_need_leaves FD, ok_Program_need_leaves G FD Fs⟩, ⟨G.cl_Program, G.mt_Program_need_names, b_Program_need_names FD, ok_Program_need_names G FD Fs⟩, ⟨G.cl_Program, G.mt_Program_need_sight, b_Program_need_sight FD, ok_Program_need_sight G FD Fs⟩, ⟨G.cl_Program, G.mt_Program_need_trees, b_Program_need_trees FD, ok_Program_need_trees G FD Fs⟩, ⟨G.gc_Fans, G.ob_Fans, G.mk_Fans, b_Fans___init__ FD, ok_Fans___init__ G FD Fs⟩, ⟨G.cl_Program, G.mt_Program_names, b_Program_names FD, ok_Program_names G FD Fs⟩, ⟨G.cl_Fans, G.mt_Fans_add, b_Fans_add FD, ok_Fans_add G FD Fs⟩⟩
theorem fns (G : Gs K mg) (FD : AllD K fds) : ∀ k, Fns P w K mg base fds k (tab (He.ga K "Fans") (He.ga K "Program") k)
  | 0 => fns0 G FD
  | k + 1 => fnsS G FD (fns G FD k)
end
end K11

set_option Elab.async false
set_option linter.all false
set_option maxRecDepth 100000
set_option maxHeartbeats 4000000
namespace K11
open PySem L2 Dy
section
variable (aF aP : Addr)
/-- a datum that is no script, no record -/
def pl : D → Bool
  | .ins .. => false
  | .scr _ => false
  | _ => true
def intB : D → Bool
  | .int _ => true
  | _ => false
theorem is_integer_ok (k : Nat) (d : D) (M : MS) (h : pl d = true) : tab aF aP (k + 1) i_is_integer [.dt d] M = some (.sv (.dt (.bl (intB d))), M) := by
  show runBody (m_is_integer (tab aF aP k) aF aP) 1 [.dt d] M = _
  rw [runBody_eq]
  unfold m_is_integer
  cases d <;> first | (cases h; done) | (simp [eVar, isiS, tyS, isi1, intB])
theorem law_is_integer_ok (k : Nat) (d : D) (M : MS) (h : pl d = true) : tab aF aP (k + 1) i__law_is_integer [.dt d] M = some (.sv (.dt (.bl (intB d))), M) := is_integer_ok aF aP k d M h
def letters : List Nat := (Str.ofString "abcdefghijklmnopqrstuvwxyz").cps.toList
def inL : D → Bool
  | .str ⟨z⟩ => match z.toList with
    | [c] => decide (c ∈ letters)
    | _ => false
  | _ => false
def nameB : D → Bool
  | .str z => decide (1 ≤ z.length) && (decide (z.length ≤ 8) && (Dy.signs z).all inL)
  | _ => false
def strFit : D → Prop
  | .str z => okS z = true ∧ z.length ≤ 16777216
  | _ => True
theorem gIn_letters {M : MS} {z : Str} {d : D} (hd : d ∈ Dy.signs z) : gIn M (.dt d) (.dt (.str (Str.ofString "abcdefghijklmnopqrstuvwxyz"))) = some (.sv (.dt (.bl (inL d)))) := by
  unfold Dy.signs at hd
  rw [List.mem_map] at hd
  obtain ⟨c, _, rfl⟩ := hd
  rfl
theorem gNotIn_letters {M : MS} {z : Str} {d : D} (hd : d ∈ Dy.signs z) : gNotIn M (.dt d) (.dt (.str (Str.ofString "abcdefghijklmnopqrstuvwxyz"))) = some (.sv (.dt (.bl (!inL d)))) := by
  unfold Dy.signs at hd
  rw [List.mem_map] at hd
  obtain ⟨c, _, rfl⟩ := hd
  rfl
theorem signs_flat {z : Str} (h : okS z = true) : ∀ d ∈ Dy.signs z, Dy.flatB d = true ∧ dep d = 0 := fun d hd => by
  unfold Dy.signs at hd
  rw [List.mem_map] at hd
  obtain ⟨c, hc, rfl⟩ := hd
  unfold okS at h
  rw [← Array.all_toList] at h
  have := List.all_eq_true.mp h c hc
  exact ⟨by simp only [Dy.flatB, okS]; simpa using this, rfl⟩
theorem is_name_ok (k : Nat) (d : D) (M : MS) (h : pl d = true) (hs : strFit d) : tab aF aP (k + 1) i_is_name [.dt d] M = some (.sv (.dt (.bl (nameB d))), M) := by
  show runBody (m_is_name (tab aF aP k) aF aP) 2 [.dt d] M = _
  rw [runBody_eq]
  unfold m_is_name
  cases d with
  | str z =>
    obtain ⟨h1, h2⟩ := hs
    by_cases h3 : 1 ≤ z.length
    · by_cases h4 : z.length ≤ 8
      · have e3 : (1 : Int) ≤ (z.length : Int) := by omega
        have e4 : (z.length : Int) ≤ 8 := by omega
        have c := comp_str (m := eVar 0) (c := cYes) (el := eBin gIn (eVar 1) (eC (.str (Str.ofString "abcdefghijklmnopqrstuvwxyz")))) (j := 1) (ρ := [some (.dt (.str z)), none]) (M := M) (r := .sv (.dt (.str z))) (z := z) (fun _ => true) (fun d => .bl (inL d)) rfl rfl h2
          (fun d hd => ⟨rfl, fun _ => ⟨_, by simp [eVar, gIn_letters hd]; rfl, rfl⟩⟩)
        rw [List.filter_eq_self.mpr (fun _ _ => rfl)] at c
        simp [eVar, isiS, tyS, isi1, lenS, h2, e3, e4, c, all_ev, nameB, h3, h4]
      · have e3 : (1 : Int) ≤ (z.length : Int) := by omega
        have e4 : ¬ (z.length : Int) ≤ 8 := by omega
        simp [eVar, isiS, tyS, isi1, lenS, h2, e3, e4, nameB, h3, h4]
    · have e3 : ¬ (1 : Int) ≤ (z.length : Int) := by omega
      simp [eVar, isiS, tyS, isi1, lenS, h2, e3, nameB, h3]
  | ins C ns vs => cases h
  | scr ns => cases h
  | _ => simp [eVar, isiS, tyS, isi1, nameB]
theorem isEmpty_filter_not (p : D → Bool) (ds : List D) : (ds.filter fun d => !p d).isEmpty = ds.all p := by
  induction ds with
  | nil => rfl
  | cons d r ih =>
    by_cases h : p d = true
    · rw [List.filter_cons_of_neg (by simp [h]), ih, List.all_cons, h]
      rfl
    · rw [List.filter_cons_of_pos (by simp [h]), List.all_cons]
      simp [h]
theorem law_is_name_ok (k : Nat) (d : D) (M : MS) (h : pl d = true) (hs : strFit d) : tab aF aP (k + 1) i__law_is_name [.dt d] M = some (.sv (.dt (.bl (nameB d))), M) := by
  show runBody (m__law_is_name (tab aF aP k) aF aP) 2 [.dt d] M = _
  rw [runBody_eq]
  unfold m__law_is_name
  cases d with
  | str z =>
    obtain ⟨h1, h2⟩ := hs
    by_cases h3 : 1 ≤ z.length
    · by_cases h4 : z.length ≤ 8
      · have e3 : (1 : Int) ≤ (z.length : Int) := by omega
        have e4 : (z.length : Int) ≤ 8 := by omega
        have c := comp_str (m := eVar 0) (c := eBool (eBin gNotIn (eVar 1) (eC (.str (Str.ofString "abcdefghijklmnopqrstuvwxyz"))))) (el := eVar 1) (j := 1) (ρ := [some (.dt (.str z)), none]) (M := M) (r := .sv (.dt (.str z))) (z := z) (fun d => !inL d) (fun d => d) rfl rfl h2
          (fun d hd => ⟨by simp [eVar, gNotIn_letters hd], fun _ => ⟨_, rfl, rfl⟩⟩)
        have e := eq_nil (ds := ((Dy.signs z).filter fun d => !inL d).map fun d => d) M (flatL_of fun d hd => by simp at hd; exact (signs_flat h1 d hd.1).1) (depL_of fun d hd => by simp at hd; rw [(signs_flat h1 d hd.1).2]; omega)
        have e5 : (((Dy.signs z).filter fun d => !inL d).map fun d => d).isEmpty = (Dy.signs z).all inL := by rw [List.map_id', isEmpty_filter_not]
        rw [e5] at e
        simp [eVar, isiS, tyS, isi1, lenS, h2, e3, e4, c, nameB, h3, h4] at e ⊢
        simp [e]
      · have e3 : (1 : Int) ≤ (z.length : Int) := by omega
        have e4 : ¬ (z.length : Int) ≤ 8 := by omega
        simp [eVar, isiS, tyS, isi1, lenS, h2, e3, e4, nameB, h3, h4]
    · have e3 : ¬ (1 : Int) ≤ (z.length : Int) := by omega
      simp [eVar, isiS, tyS, isi1, lenS, h2, e3, nameB, h3]
  | ins C ns vs => cases h
  | scr ns => cases h
  | _ => simp [eVar, isiS, tyS, isi1, nameB]
/-- an item of a list -/
structure El (x : D) : Prop where
  p : pl x = true
  s : strFit x
  f : Dy.flatB x = true
  d : dep x ≤ 60
def nnB : D → Bool
  | .int i => decide (0 ≤ i)
  | _ => false
def addrB : D → Bool
  | .tup xs => decide (xs.length % 2 = 1) && xs.all nnB
  | _ => false
theorem is_address_ok (k : Nat) (d : D) (M : MS) (h : pl d = true) (hx : ∀ xs, d = .tup xs → xs.length ≤ 16 ∧ ∀ x ∈ xs, El x) : tab aF aP (k + 2) i_is_address [.dt d] M = some (.sv (.dt (.bl (addrB d))), M) := by
  show runBody (m_is_address (tab aF aP (k + 1)) aF aP) 2 [.dt d] M = _
  rw [runBody_eq]
  unfold m_is_address
  cases d with
  | tup xs =>
    obtain ⟨hl, hx⟩ := hx xs rfl
    have c := comp_lst (m := eVar 0) (c := cYes) (el := eAnd (eFn (tab aF aP (k + 1) i_is_integer) (eCons (eVar 1) eNil)) (eBin gGe (eVar 1) (eC (.int 0)))) (j := 1) (ρ := [some (.dt (.tup xs)), none]) (M := M) (r := .sv (.dt (.tup xs))) (ds := xs) (fun _ => true) (fun d => .bl (nnB d)) rfl (.inr rfl) (by omega)
      (fun d hd => ⟨rfl, fun _ => by
        have e := is_integer_ok aF aP k d M (hx d hd).p
        cases d <;> simp [eVar, e, intB, nnB]⟩)
    rw [List.filter_eq_self.mpr (fun _ _ => rfl)] at c
    by_cases h2 : xs.length % 2 = 1
    · have e : ¬ (xs.length : Int) % 2 = 0 := by omega
      simp [eVar, isiS, tyS, isi1, lenS, intS, gMod, int2, e, c, all_ev, addrB, h2]
    · have e : (xs.length : Int) % 2 = 0 := by omega
      simp [eVar, isiS, tyS, isi1, lenS, intS, gMod, int2, e, addrB, h2]
  | ins C ns vs => cases h
  | scr ns => cases h
  | _ => simp [eVar, isiS, tyS, isi1, addrB]
theorem neg_dec (i : Int) : decide (i < 0) = !decide (0 ≤ i) := by
  by_cases h : 0 ≤ i
  · have : ¬ i < 0 := by omega
    simp [h, this]
  · have : i < 0 := by omega
    simp [h, this]
theorem len_in (M : MS) (n : Nat) (h : n ≤ 16) : gNotIn M (.dt (.int n)) (.dt (.tup [.int 1, .int 3, .int 5, .int 7, .int 9, .int 11, .int 13, .int 15])) = some (.sv (.dt (.bl (!decide (n % 2 = 1))))) := by
  have key : ∀ m : Fin 17, inS [] (.dt (.int (m.val : Int))) (.dt (.tup [.int 1, .int 3, .int 5, .int 7, .int 9, .int 11, .int 13, .int 15])) = some (decide (m.val % 2 = 1)) := by decide +kernel
  have e := key ⟨n, by omega⟩
  have e2 : inS M (.dt (.int n)) (.dt (.tup [.int 1, .int 3, .int 5, .int 7, .int 9, .int 11, .int 13, .int 15])) = some (decide (n % 2 = 1)) := e
  unfold gNotIn
  rw [e2]
  rfl
theorem law_is_address_ok (k : Nat) (d : D) (M : MS) (h : pl d = true) (hx : ∀ xs, d = .tup xs → xs.length ≤ 16 ∧ ∀ x ∈ xs, El x) : tab aF aP (k + 2) i__law_is_address [.dt d] M = some (.sv (.dt (.bl (addrB d))), M) := by
  show runBody (m__law_is_address (tab aF aP (k + 1)) aF aP) 2 [.dt d] M = _
  rw [runBody_eq]
  unfold m__law_is_address
  cases d with
  | tup xs =>
    obtain ⟨hl, hx⟩ := hx xs rfl
    have c := comp_lst (m := eVar 0) (c := tOrB (tNotB (eTru (eFn (tab aF aP (k + 1) i__law_is_integer) (eCons (eVar 1) eNil)))) (eBool (eBin gLt (eVar 1) (eC (.int 0))))) (el := eVar 1) (j := 1) (ρ := [some (.dt (.tup xs)), none]) (M := M) (r := .sv (.dt (.tup xs))) (ds := xs) (fun d => !nnB d) (fun d => d) rfl (.inr rfl) (by omega)
      (fun d hd => ⟨by
        have e := law_is_integer_ok aF aP k d M (hx d hd).p
        cases d <;> simp [eVar, e, intB, nnB, neg_dec], fun _ => ⟨_, rfl, rfl⟩⟩)
    have e := eq_nil (ds := (xs.filter fun d => !nnB d).map fun d => d) M (flatL_of fun d hd => by simp at hd; exact (hx d hd.1).f) (depL_of fun d hd => by simp at hd; have := (hx d hd.1).d; omega)
    have e5 : ((xs.filter fun d => !nnB d).map fun d => d).isEmpty = xs.all nnB := by rw [List.map_id', isEmpty_filter_not]
    rw [e5] at e
    have ln := len_in M xs.length hl
    by_cases h2 : xs.length % 2 = 1
    · simp [eVar, isiS, tyS, isi1, lenS, ln, c, addrB, h2] at e ⊢
      simp [e]
    · simp [eVar, isiS, tyS, isi1, lenS, ln, addrB, h2]
  | ins C ns vs => cases h
  | scr ns => cases h
  | _ => simp [eVar, isiS, tyS, isi1, addrB]
/-- a list or a tuple -/
structure Sq (d : D) : Prop where
  p : pl d = true
  l : ∀ xs, d = .lst xs ∨ d = .tup xs → xs.length ≤ 16777216 ∧ ∀ x ∈ xs, El x
def namesB (most : Int) : D → Bool
  | .lst xs => !decide (most < xs.length) && xs.all nameB
  | .tup xs => !decide (most < xs.length) && xs.all nameB
  | _ => false
theorem are_names_ok (k : Nat) (d : D) (most : Int) (M : MS) (h : Sq d) : tab aF aP (k + 2) i_are_names [.dt d, .dt (.int most)] M = some (.sv (.dt (.bl (namesB most d))), M) := by
  show runBody (m_are_names (tab aF aP (k + 1)) aF aP) 3 [.dt d, .dt (.int most)] M = _
  rw [runBody_eq]
  unfold m_are_names
  have key : ∀ xs, (∀ x ∈ xs, El x) → xs.length ≤ 16777216 → ∀ s, s = D.lst xs ∨ s = D.tup xs → eComp (eSeq (eVar 0)) (bName 2) cYes (eFn (tab aF aP (k + 1) i_is_name) (eCons (eVar 2) eNil)) [2] [some (.dt s), some (.dt (.int most)), none] M = some (.fr (xs.map fun d => .bl (nameB d)), M) := fun xs hx hl s hs => by
    have c := comp_lst (m := eVar 0) (c := cYes) (el := eFn (tab aF aP (k + 1) i_is_name) (eCons (eVar 2) eNil)) (j := 2) (ρ := [some (.dt s), some (.dt (.int most)), none]) (M := M) (r := .sv (.dt s)) (ds := xs) (fun _ => true) (fun d => .bl (nameB d)) rfl (by rcases hs with rfl | rfl; exact .inl rfl; exact .inr rfl) hl
      (fun d hd => ⟨rfl, fun _ => by
        have e := is_name_ok aF aP k d M (hx d hd).p (hx d hd).s
        exact ⟨_, by simp [eVar, e]; rfl, rfl⟩⟩)
    rw [List.filter_eq_self.mpr (fun _ _ => rfl)] at c
    exact c
  cases d with
  | lst xs =>
    obtain ⟨hl, hx⟩ := h.l xs (.inl rfl)
    have c := key xs hx hl _ (.inl rfl)
    by_cases h2 : most < (xs.length : Int)
    · simp [eVar, isiS, tyS, isi1, lenS, h2, namesB]
    · simp [eVar, isiS, tyS, isi1, lenS, h2, namesB, c, all_ev]
  | tup xs =>
    obtain ⟨hl, hx⟩ := h.l xs (.inr rfl)
    have c := key xs hx hl _ (.inr rfl)
    by_cases h2 : most < (xs.length : Int)
    · simp [eVar, isiS, tyS, isi1, lenS, h2, namesB]
    · simp [eVar, isiS, tyS, isi1, lenS, h2, namesB, c, all_ev]
  | ins C ns vs => cases h.p
  | scr ns => cases h.p
  | _ => simp [eVar, isiS, tyS, isi1, namesB]
theorem law_are_names_ok (k : Nat) (d : D) (most : Int) (M : MS) (h : Sq d) : tab aF aP (k + 2) i__law_are_names [.dt d, .dt (.int most)] M = some (.sv (.dt (.bl (namesB most d))), M) := by
  show runBody (m__law_are_names (tab aF aP (k + 1)) aF aP) 3 [.dt d, .dt (.int most)] M = _
  rw [runBody_eq]
  unfold m__law_are_names
  have key : ∀ xs, (∀ x ∈ xs, El x) → xs.length ≤ 16777216 → ∀ s, s = D.lst xs ∨ s = D.tup xs → eComp (eSeq (eVar 0)) (bName 2) (tNotB (eTru (eFn (tab aF aP (k + 1) i__law_is_name) (eCons (eVar 2) eNil)))) (eVar 2) [2] [some (.dt s), some (.dt (.int most)), none] M = some (.fr ((xs.filter fun d => !nameB d).map fun d => d), M) ∧ gEq M (.dt (.lst ((xs.filter fun d => !nameB d).map fun d => d))) (.dt (.lst [])) = some (.sv (.dt (.bl (xs.all nameB)))) := fun xs hx hl s hs => by
    have c := comp_lst (m := eVar 0) (c := tNotB (eTru (eFn (tab aF aP (k + 1) i__law_is_name) (eCons (eVar 2) eNil)))) (el := eVar 2) (j := 2) (ρ := [some (.dt s), some (.dt (.int most)), none]) (M := M) (r := .sv (.dt s)) (ds := xs) (fun d => !nameB d) (fun d => d) rfl (by rcases hs with rfl | rfl; exact .inl rfl; exact .inr rfl) hl
      (fun d hd => ⟨by
        have e := law_is_name_ok aF aP k d M (hx d hd).p (hx d hd).s
        simp [eVar, e], fun _ => ⟨_, rfl, rfl⟩⟩)
    have e := eq_nil (ds := (xs.filter fun d => !nameB d).map fun d => d) M (flatL_of fun d hd => by simp at hd; exact (hx d hd.1).f) (depL_of fun d hd => by simp at hd; have := (hx d hd.1).d; omega)
    have e5 : ((xs.filter fun d => !nameB d).map fun d => d).isEmpty = xs.all nameB := by rw [List.map_id', isEmpty_filter_not]
    rw [e5] at e
    exact ⟨c, e⟩
  cases d with
  | lst xs =>
    obtain ⟨hl, hx⟩ := h.l xs (.inl rfl)
    obtain ⟨c, e⟩ := key xs hx hl _ (.inl rfl)
    by_cases h2 : most < (xs.length : Int)
    · simp [eVar, isiS, tyS, isi1, lenS, h2, namesB]
    · simp [eVar, isiS, tyS, isi1, lenS, h2, namesB, c] at e ⊢
      simp [e]
  | tup xs =>
    obtain ⟨hl, hx⟩ := h.l xs (.inr rfl)
    obtain ⟨c, e⟩ := key xs hx hl _ (.inr rfl)
    by_cases h2 : most < (xs.length : Int)
    · simp [eVar, isiS, tyS, isi1, lenS, h2, namesB]
    · simp [eVar, isiS, tyS, isi1, lenS, h2, namesB, c] at e ⊢
      simp [e]
  | ins C ns vs => cases h.p
  | scr ns => cases h.p
  | _ => simp [eVar, isiS, tyS, isi1, namesB]
def words : List D := [.str (Str.ofString "yes"), .str (Str.ofString "no"), .str (Str.ofString "round"), .str (Str.ofString "out")]
def wordB : D → Bool
  | .str x => inV (.str x) (words.map fV)
  | _ => false
def chB : D → Bool
  | .lst xs => xs.all wordB
  | .tup xs => xs.all wordB
  | _ => false
theorem in_words (M : MS) (x : Str) : gIn M (.dt (.str x)) (.dt (.tup words)) = some (.sv (.dt (.bl (wordB (.str x))))) := by
  unfold gIn inS
  simp only [itemsD_tup]
  rfl
theorem notin_words (M : MS) (x : Str) : gNotIn M (.dt (.str x)) (.dt (.tup words)) = some (.sv (.dt (.bl (!wordB (.str x))))) := by
  unfold gNotIn inS
  simp only [itemsD_tup]
  rfl
theorem are_choices_ok (k : Nat) (d : D) (M : MS) (h : Sq d) : tab aF aP (k + 1) i_are_choices [.dt d] M = some (.sv (.dt (.bl (chB d))), M) := by
  show runBody (m_are_choices (tab aF aP k) aF aP) 2 [.dt d] M = _
  rw [runBody_eq]
  unfold m_are_choices
  have key : ∀ xs, (∀ x ∈ xs, El x) → xs.length ≤ 16777216 → ∀ s, s = D.lst xs ∨ s = D.tup xs → eComp (eSeq (eVar 0)) (bName 1) cYes (eAnd (eIsi "str" (eVar 1)) (eBin gIn (eVar 1) (eC (.tup words)))) [1] [some (.dt s), none] M = some (.fr (xs.map fun d => .bl (wordB d)), M) := fun xs hx hl s hs => by
    have c := comp_lst (m := eVar 0) (c := cYes) (el := eAnd (eIsi "str" (eVar 1)) (eBin gIn (eVar 1) (eC (.tup words)))) (j := 1) (ρ := [some (.dt s), none]) (M := M) (r := .sv (.dt s)) (ds := xs) (fun _ => true) (fun d => .bl (wordB d)) rfl (by rcases hs with rfl | rfl; exact .inl rfl; exact .inr rfl) hl
      (fun d hd => ⟨rfl, fun _ => by
        have hp := (hx d hd).p
        cases d with
        | str x => exact ⟨_, by simp [eVar, isiS, tyS, isi1, in_words]; rfl, rfl⟩
        | ins C ns vs => cases hp
        | scr ns => cases hp
        | _ => exact ⟨.sv (.dt (.bl false)), by simp [eVar, isiS, tyS, isi1], rfl⟩⟩)
    rw [List.filter_eq_self.mpr (fun _ _ => rfl)] at c
    exact c
  have ew : D.tup (([Str.ofString "yes", Str.ofString "no", Str.ofString "round", Str.ofString "out"] : List Str).map D.str) = .tup words := rfl
  cases d with
  | lst xs =>
    obtain ⟨hl, hx⟩ := h.l xs (.inl rfl)
    have c := key xs hx hl _ (.inl rfl)
    rw [ew]
    simp [eVar, isiS, tyS, isi1, chB, c, all_ev]
  | tup xs =>
    obtain ⟨hl, hx⟩ := h.l xs (.inr rfl)
    have c := key xs hx hl _ (.inr rfl)
    rw [ew]
    simp [eVar, isiS, tyS, isi1, chB, c, all_ev]
  | ins C ns vs => cases h.p
  | scr ns => cases h.p
  | _ => simp [eVar, isiS, tyS, isi1, chB]
theorem law_are_choices_ok (k : Nat) (d : D) (M : MS) (h : Sq d) : tab aF aP (k + 1) i__law_are_choices [.dt d] M = some (.sv (.dt (.bl (chB d))), M) := by
  show runBody (m__law_are_choices (tab aF aP k) aF aP) 2 [.dt d] M = _
  rw [runBody_eq]
  unfold m__law_are_choices
  have key : ∀ xs, (∀ x ∈ xs, El x) → xs.length ≤ 16777216 → ∀ s, s = D.lst xs ∨ s = D.tup xs → eComp (eSeq (eVar 0)) (bName 1) (tOrB (tNotB (eTru (eIsi "str" (eVar 1)))) (eBool (eBin gNotIn (eVar 1) (eTup (eCons (eC (.str (Str.ofString "yes"))) (eCons (eC (.str (Str.ofString "no"))) (eCons (eC (.str (Str.ofString "round"))) (eCons (eC (.str (Str.ofString "out"))) eNil)))))))) (eVar 1) [1] [some (.dt s), none] M = some (.fr ((xs.filter fun d => !wordB d).map fun d => d), M) ∧ gEq M (.dt (.lst ((xs.filter fun d => !wordB d).map fun d => d))) (.dt (.lst [])) = some (.sv (.dt (.bl (xs.all wordB)))) := fun xs hx hl s hs => by
    have c := comp_lst (m := eVar 0) (c := (tOrB (tNotB (eTru (eIsi "str" (eVar 1)))) (eBool (eBin gNotIn (eVar 1) (eTup (eCons (eC (.str (Str.ofString "yes"))) (eCons (eC (.str (Str.ofString "no"))) (eCons (eC (.str (Str.ofString "round"))) (eCons (eC (.str (Str.ofString "out"))) eNil))))))))) (el := eVar 1) (j := 1) (ρ := [some (.dt s), none]) (M := M) (r := .sv (.dt s)) (ds := xs) (fun d => !wordB d) (fun d => d) rfl (by rcases hs with rfl | rfl; exact .inl rfl; exact .inr rfl) hl
      (fun d hd => ⟨by
        have hp := (hx d hd).p
        cases d with
        | str x =>
          have e := notin_words M x
          unfold words at e
          simp [eVar, isiS, tyS, isi1, e]
        | ins C ns vs => cases hp
        | scr ns => cases hp
        | _ => simp [eVar, isiS, tyS, isi1, wordB], fun _ => ⟨_, rfl, rfl⟩⟩)
    have e := eq_nil (ds := (xs.filter fun d => !wordB d).map fun d => d) M (flatL_of fun d hd => by simp at hd; exact (hx d hd.1).f) (depL_of fun d hd => by simp at hd; have := (hx d hd.1).d; omega)
    have e5 : ((xs.filter fun d => !wordB d).map fun d => d).isEmpty = xs.all wordB := by rw [List.map_id', isEmpty_filter_not]
    rw [e5] at e
    exact ⟨c, e⟩
  cases d with
  | lst xs =>
    obtain ⟨hl, hx⟩ := h.l xs (.inl rfl)
    obtain ⟨c, e⟩ := key xs hx hl _ (.inl rfl)
    simp [eVar, isiS, tyS, isi1, chB, c] at e ⊢
    simp [e]
  | tup xs =>
    obtain ⟨hl, hx⟩ := h.l xs (.inr rfl)
    obtain ⟨c, e⟩ := key xs hx hl _ (.inr rfl)
    simp [eVar, isiS, tyS, isi1, chB, c] at e ⊢
    simp [e]
  | ins C ns vs => cases h.p
  | scr ns => cases h.p
  | _ => simp [eVar, isiS, tyS, isi1, chB]
/-! ### alike -/
theorem alike_ok (k : Nat) (b1 b2 b3 b4 b5 : Bool) (M : MS) : tab aF aP (k + 1) i__law_alike [.dt (.lst [.bl b1, .bl b2, .bl b3, .bl b4, .bl b5]), .dt (.lst [.bl b1, .bl b2, .bl b3, .bl b4, .bl b5])] M = some (.sv (.dt (.bl true)), M) := by
  show runBody (m__law_alike (tab aF aP k) aF aP) 2 _ M = _
  rw [runBody_eq]
  unfold m__law_alike
  have e1 : gEq M (.dt (.lst [.bl b1, .bl b2, .bl b3, .bl b4, .bl b5])) (.dt (.lst [.bl b1, .bl b2, .bl b3, .bl b4, .bl b5])) = some (.sv (.dt (.bl true))) := by
    cases b1 <;> cases b2 <;> cases b3 <;> cases b4 <;> cases b5 <;> rfl
  obtain ⟨x, hx⟩ := repr_ok (d := .lst [.bl b1, .bl b2, .bl b3, .bl b4, .bl b5]) M rfl (by simp [swt, swtL]) (by simp [dep, depL])
  simp [eVar, e1, hx]
end
end K11

set_option Elab.async false
set_option linter.all false
set_option maxRecDepth 100000
set_option maxHeartbeats 4000000
namespace K11
open PySem L2 Dy
section
variable (aF aP : Addr)
theorem take_tab (k : Nat) {B : MO} {R : MS} {n : Int} (hB : BagO B) (hn : 0 < n) (hn2 : n < 1073741824) :
    ∃ r B', tab aF aP (k + 1) i__law_take [.mu 0, .dt (.int n)] (B :: R) = some (.sv (.dt (.int r)), B' :: R) ∧ BagO B' ∧ 0 ≤ r ∧ r < n := take_ok hB hn hn2
/-! ### values -/
def strFitB : D → Bool
  | .str z => okS z && decide (z.length ≤ 16777216)
  | _ => true
def elB (x : D) : Bool := pl x && (strFitB x && (Dy.flatB x && decide (dep x ≤ 60)))
def itemsB : D → List D
  | .lst xs => xs
  | .tup xs => xs
  | _ => []
def tupLen : D → Nat
  | .tup xs => xs.length
  | _ => 0
structure Val (d : D) : Prop where
  p : pl d = true
  s : strFit d
  l : (itemsB d).length ≤ 16777216
  i : ∀ x ∈ itemsB d, elB x = true
  t : tupLen d ≤ 16
  o : ∀ C, d ≠ .obj C
  g : goodD d = true
  w : swt d ≤ 16777216
  e : dep d ≤ 62
theorem strFit_of {d : D} (h : strFitB d = true) : strFit d := by
  cases d with
  | str z =>
    unfold strFitB at h
    rw [Bool.and_eq_true] at h
    exact ⟨h.1, of_decide_eq_true h.2⟩
  | _ => trivial
theorem El.of {x : D} (h : elB x = true) : El x := by
  unfold elB at h
  simp only [Bool.and_eq_true] at h
  exact ⟨h.1, strFit_of h.2.1, h.2.2.1, of_decide_eq_true h.2.2.2⟩
/-- what the five readings ask -/
structure It5 (d : D) : Prop where
  p : pl d = true
  s : strFit d
  q : Sq d
  t : ∀ xs, d = .tup xs → xs.length ≤ 16 ∧ ∀ x ∈ xs, El x
theorem Val.five {d : D} (h : Val d) : It5 d where
  p := h.p
  s := h.s
  q := ⟨h.p, fun xs hx => by
    have e : itemsB d = xs := by rcases hx with rfl | rfl <;> rfl
    have h1 := h.l
    have h2 := h.i
    rw [e] at h1 h2
    exact ⟨h1, fun x hx => El.of (h2 x hx)⟩⟩
  t := fun xs hx => by
    subst hx
    exact ⟨h.t, fun x hx => El.of (h.i x hx)⟩
theorem five_obj (C : Addr) : It5 (.obj C) := ⟨rfl, trivial, ⟨rfl, fun xs h => by rcases h with h | h <;> cases h⟩, fun xs h => by cases h⟩
def valB (d : D) : Bool := pl d && (strFitB d && (decide ((itemsB d).length ≤ 16777216) && ((itemsB d).all elB && (decide (tupLen d ≤ 16) && ((match d with
  | .obj _ => false
  | _ => true) && (goodD d && (decide (swt d ≤ 16777216) && decide (dep d ≤ 62))))))))
theorem Val.of {d : D} (h : valB d = true) : Val d := by
  unfold valB at h
  simp only [Bool.and_eq_true] at h
  obtain ⟨h1, h2, h3, h4, h5, h6, h7, h8, h9⟩ := h
  exact ⟨h1, strFit_of h2, of_decide_eq_true h3, List.all_eq_true.mp h4, of_decide_eq_true h5, (fun C e => by subst e; cases h6), h7, of_decide_eq_true h8, of_decide_eq_true h9⟩
/-- a short text -/
structure Sh (z : Str) : Prop where
  o : okS z = true
  l : z.length ≤ 40
theorem Sh.val {z : Str} (h : Sh z) : Val (.str z) where
  p := rfl
  s := ⟨h.o, by have := h.l; omega⟩
  l := by simp [itemsB]
  i := by simp [itemsB]
  t := by simp [tupLen]
  o := fun C e => by cases e
  g := h.o
  w := by have := h.l; simp only [swt]; omega
  e := by simp [dep]
theorem Sh.el {z : Str} (h : Sh z) : elB (.str z) = true := by
  have := h.l
  have h2 := h.o
  simp [elB, pl, strFitB, Dy.flatB, dep, h2]
  omega
/-! ### a list or a tuple of few items -/
theorem seq_val {ds : List D} (hl : ds.length ≤ 16) (hi : ∀ d ∈ ds, elB d = true ∧ goodD d = true ∧ swt d ≤ 2000) (s : D) (hs : s = .lst ds ∨ s = .tup ds) : Val s := by
  have g : goodL ds = true := goodL_of fun d hd => (hi d hd).2.1
  have w : swtL ds ≤ ds.length * 2002 := swtL_of fun d hd => (hi d hd).2.2
  have e : depL ds ≤ 60 := depL_of fun d hd => (El.of (hi d hd).1).d
  have hb : ds.length * 2002 ≤ 16 * 2002 := Nat.mul_le_mul_right _ hl
  have hi2 : ∀ x ∈ ds, elB x = true := fun x hx => (hi x hx).1
  rcases hs with rfl | rfl
  · exact ⟨rfl, trivial, by simp only [itemsB]; omega, hi2, by simp [tupLen], (fun C z => by cases z), by simp only [goodD]; exact g, by simp only [swt]; omega, by simp only [dep]; omega⟩
  · exact ⟨rfl, trivial, by simp only [itemsB]; omega, hi2, by simp only [tupLen]; exact hl, (fun C z => by cases z), by simp only [goodD]; exact g, by simp only [swt]; omega, by simp only [dep]; omega⟩
/-! ### odd values -/
def odds : List D := [.non, .bl true, .bl false, .int 0, .int 1, .int (-1), .int (10 ^ 40), .str (Str.ofString ""), .str (Str.ofString "ab"), .str (Txt.upper (Str.ofString "ab")), .str (Str.ofString "ab" ++ Str.ofString "_"),
  .str (Str.ofString "abcdefghi"), .str (Str.ofString "a b"), .str (Str.ofString "a1")] ++ [.tup [], .lst [], .dct [] [], .tup [.str (Str.ofString "ab")], .lst [.str (Str.ofString "ab")], .dct [.inr (Str.ofString "ab")] [.int 0], .tup [.int 0], .lst [.int 0], .tup [.bl true], .tup [.int (-1)], .tup [.int 0, .int 1], .str (Str.ofString "yes"), .tup [.str (Str.ofString "yes")]]
theorem odds_val : ∀ d ∈ odds, valB d = true := by
  have h : odds.all valB = true := by decide +kernel
  exact List.all_eq_true.mp h
theorem odd_ok (k : Nat) {B : MO} {R : MS} (hB : BagO B) : ∃ d B', tab aF aP (k + 2) i__law_odd [.mu 0, .dt (.str (Str.ofString "ab"))] (B :: R) = some (.sv (.dt d), B' :: R) ∧ d ∈ odds ∧ BagO B' := by
  show ∃ d B', runBody (m__law_odd (tab aF aP (k + 1)) aF aP) 3 [.mu 0, .dt (.str (Str.ofString "ab"))] (B :: R) = _ ∧ _
  obtain ⟨r, B1, e1, hB1, h0, h1⟩ := take_tab aF aP k (R := R) hB (n := 27) (by decide) (by decide)
  obtain ⟨d, hd, e2, _⟩ := gIx_lst (M := B1 :: R) (ds := odds) h0 (by simpa [odds] using h1)
  refine ⟨d, B1, ?_, hd, hB1⟩
  rw [runBody_eq]
  unfold m__law_odd
  have l1 : (Str.ofString "ab").length = 2 := by decide +kernel
  have l2 : (Str.ofString "_").length = 1 := by decide +kernel
  simp [odds] at e2
  simp [eVar, gPow, int2, isTyS, gUpper, gAdd, l1, l2, eDict0, eDict1, keyD, lenS, e1, e2]

/-! ### near names -/
theorem ones_join : ∀ {ds : List D}, (∀ d ∈ ds, ∃ c, d = .str ⟨#[c]⟩ ∧ c < 0x110000) → ∃ ys : List Str, dStrs ds = some ys ∧ (ys.map (·.length)).sum = ds.length ∧ ys.length = ds.length ∧ (∀ y ∈ ys, okS y = true)
  | [], _ => ⟨[], rfl, rfl, rfl, by simp⟩
  | d :: ds, h => by
    obtain ⟨c, rfl, hc⟩ := h d (by simp)
    obtain ⟨ys, h1, h2, h3, h4⟩ := ones_join (ds := ds) fun x hx => h x (by simp [hx])
    refine ⟨⟨#[c]⟩ :: ys, by simp [dStrs, h1], ?_, by simp [h3], ?_⟩
    · simp only [List.map_cons, List.sum_cons, h2, List.length_cons]
      have : (⟨#[c]⟩ : Str).length = 1 := rfl
      omega
    · intro y hy
      rcases List.mem_cons.mp hy with rfl | hy
      · exact okS_one hc
      · exact h4 y hy
theorem join_sh {ys : List Str} (h : ∀ y ∈ ys, okS y = true) : okS (Txt.join (Str.ofString "") ys) = true ∧ (Txt.join (Str.ofString "") ys).length = (ys.map (·.length)).sum := by
  have e := join_nil_tl ys
  constructor
  · rw [okS_iff, e]
    intro c hc
    rw [List.mem_flatten] at hc
    obtain ⟨l, hl, hc⟩ := hc
    rw [List.mem_map] at hl
    obtain ⟨y, hy, rfl⟩ := hl
    exact okS_iff.mp (h y hy) c hc
  · have e2 : (Txt.join (Str.ofString "") ys).length = (Txt.join (Str.ofString "") ys).cps.toList.length := by simp [Str.length]
    rw [e2, e, List.length_flatten, List.map_map]
    congr 1
theorem cut_len (z : Str) (lo hi : Option Int) : (cutS z lo hi).length ≤ z.length := cutS_length z lo hi
theorem app_len (x y : Str) : (x ++ y).length = x.length + y.length := strLen_append x y
theorem near_name_ok (k : Nat) {B : MO} {R : MS} (hB : BagO B) : ∃ z B', tab aF aP (k + 2) i__law_near_name [.mu 0] (B :: R) = some (.sv (.dt (.str z)), B' :: R) ∧ Sh z ∧ BagO B' := by
  show ∃ z B', runBody (m__law_near_name (tab aF aP (k + 1)) aF aP) 6 [.mu 0] (B :: R) = _ ∧ _
  rw [runBody_eq]
  unfold m__law_near_name
  have hS1 : (Str.ofString "abcdefghijklmnopqrstuvwxyz ABCXYZ0123456789_-+.,:;#()[]{}<>=/\\|!?*&$@^~`\"'\n\t").length = 76 := by decide +kernel
  have hS2 : okS (Str.ofString "abcdefghijklmnopqrstuvwxyz ABCXYZ0123456789_-+.,:;#()[]{}<>=/\\|!?*&$@^~`\"'\n\t") = true := by decide +kernel
  generalize (Str.ofString "abcdefghijklmnopqrstuvwxyz ABCXYZ0123456789_-+.,:;#()[]{}<>=/\\|!?*&$@^~`\"'\n\t") = S at hS1 hS2 ⊢
  obtain ⟨r1, B1, e1, hB1, h10, h11⟩ := take_tab aF aP k (R := R) hB (n := 9) (by decide) (by decide)
  have hr := isRange_of (i := 1 + r1) (by omega) (by omega)
  obtain ⟨ds, B2, e2, hB2, hd, hl⟩ := comp_draw (ms := eRng1 (eCons (eBin gAdd (eC (.int 1)) (eFn (tab aF aP (k + 1) i__law_take) (eCons (eVar 0) (eCons (eC (.int 9)) eNil)))) eNil)) (j := 5)
    (el := eBin gIx (eVar 1) (eFn (tab aF aP (k + 1) i__law_take) (eCons (eVar 0) (eCons (eC (.int 26)) eNil)))) (ρ := [some (.mu 0), some (.dt (.str S)), none, none, none, none]) (M := B :: R) (lo := 0) (n := (1 + r1).toNat) (B := B1) (R := R)
    (fun d => ∃ c, d = .str ⟨#[c]⟩ ∧ c < 0x110000) (by simp [eVar, e1, hr]) hB1 (by omega) (fun i hi B hB => by
      obtain ⟨r, B', e, hB', h0, h1⟩ := take_tab aF aP k (R := R) hB (n := 26) (by decide) (by decide)
      obtain ⟨c, hc, ec⟩ := gIx_str (M := B' :: R) (z := S) (by omega) h0 (by omega)
      exact ⟨.sv (.dt (.str ⟨#[c]⟩)), .str ⟨#[c]⟩, B', by simp [eVar, e, ec], rfl, ⟨c, rfl, okS_iff.mp hS2 c hc⟩, hB'⟩)
  obtain ⟨ys, y1, y2, y3, y4⟩ := ones_join hd
  obtain ⟨z1, z2⟩ := join_sh y4
  have hj : gJoin (B2 :: R) (.dt (.str (Str.ofString ""))) [.dt (.lst ds)] = some (.sv (.dt (.str (Txt.join (Str.ofString "") ys))), B2 :: R) := by
    unfold gJoin
    have l0 : (Str.ofString "").length = 0 := by decide +kernel
    simp [y1, y2, l0]
    omega
  generalize Txt.join (Str.ofString "") ys = z at z1 z2 hj
  have hz : 1 ≤ z.length ∧ z.length ≤ 9 := by omega
  obtain ⟨r3, B3, e3, hB3, h30, h31⟩ := take_tab aF aP k (R := R) hB2 (n := (z.length : Int)) (by omega) (by omega)
  obtain ⟨r4, B4, e4, hB4, h40, h41⟩ := take_tab aF aP k (R := R) hB3 (n := 5) (by decide) (by decide)
  obtain ⟨r5, B5, e5, hB5, h50, h51⟩ := take_tab aF aP k (R := R) hB4 (n := 76) (by decide) (by decide)
  obtain ⟨c, hc, ec⟩ := gIx_str (M := B5 :: R) (z := S) (by omega) h50 (by omega)
  have hc2 := okS_one (okS_iff.mp hS2 c hc)
  have hc3 : (⟨#[c]⟩ : Str).length = 1 := rfl
  have hzl : z.length ≤ 16777216 := by omega
  by_cases s0 : r4 = 0
  · subst s0
    have a1 := cut_len z none (some r3)
    have a2 := cut_len z (some (r3 + 1)) none
    have q1 : (cutS z none (some r3)).length + 1 ≤ 16777216 := by omega
    have q2 : (cutS z none (some r3)).length + 1 + (cutS z (some (r3 + 1)) none).length ≤ 16777216 := by omega
    refine ⟨cutS z none (some r3) ++ ⟨#[c]⟩ ++ cutS z (some (r3 + 1)) none, B5, ?_, ⟨okS_app (okS_app (okS_cut z1) hc2) (okS_cut z1), ?_⟩, hB5⟩
    · simp [eVar, isTyS, e2, hj, lenS, hzl, e3, e4, e5, gSl, hS1, ec, gAdd, hc3, app_len, q1, q2]
    · rw [app_len, app_len]; omega
  · by_cases s1 : r4 = 1
    · subst s1
      have a1 := cut_len z none (some r3)
      have a2 := cut_len z (some r3) none
      have q1 : (cutS z none (some r3)).length + 1 ≤ 16777216 := by omega
      have q2 : (cutS z none (some r3)).length + 1 + (cutS z (some r3) none).length ≤ 16777216 := by omega
      refine ⟨cutS z none (some r3) ++ ⟨#[c]⟩ ++ cutS z (some r3) none, B5, ?_, ⟨okS_app (okS_app (okS_cut z1) hc2) (okS_cut z1), ?_⟩, hB5⟩
      · simp [eVar, isTyS, e2, hj, lenS, hzl, e3, e4, e5, gSl, hS1, ec, gAdd, hc3, app_len, q1, q2]
      · rw [app_len, app_len]; omega
    · refine ⟨z, B4, ?_, ⟨z1, by omega⟩, hB4⟩
      simp [eVar, isTyS, e2, hj, lenS, hzl, e3, e4, s0, s1]
end
end K11

set_option Elab.async false
set_option linter.all false
set_option maxRecDepth 100000
set_option maxHeartbeats 4000000
namespace K11
open PySem L2 Dy
section
variable (aF aP : Addr)
/-! ### near addresses -/
def parts1 : List D := [.int 0, .int 1, .int 2, .int 30]
def parts2 : List D := [.int (-1), .bl true, .bl false, .non, .str (Str.ofString "0"), .int (10 ^ 39), .tup [.int 0], .lst []]
def okI (d : D) : Bool := elB d && (goodD d && decide (swt d ≤ 2000))
theorem parts1_ok : ∀ d ∈ parts1, okI d = true := List.all_eq_true.mp (by decide +kernel : parts1.all okI = true)
theorem parts2_ok : ∀ d ∈ parts2, okI d = true := List.all_eq_true.mp (by decide +kernel : parts2.all okI = true)
theorem okI_of {d : D} (h : okI d = true) : elB d = true ∧ goodD d = true ∧ swt d ≤ 2000 := by
  unfold okI at h
  simp only [Bool.and_eq_true] at h
  exact ⟨h.1, h.2.1, of_decide_eq_true h.2.2⟩
theorem near_address_ok (k : Nat) {B : MO} {R : MS} (hB : BagO B) : ∃ r d B', tab aF aP (k + 2) i__law_near_address [.mu 0] (B :: R) = some (r, B' :: R) ∧ r.toSV = .dt d ∧ Val d ∧ BagO B' := by
  show ∃ r d B', runBody (m__law_near_address (tab aF aP (k + 1)) aF aP) 3 [.mu 0] (B :: R) = _ ∧ _
  rw [runBody_eq]
  unfold m__law_near_address
  obtain ⟨r1, B1, e1, hB1, h10, h11⟩ := take_tab aF aP k (R := R) hB (n := 12) (by decide) (by decide)
  have hr := isRange_of (i := r1) (by omega) (by omega)
  obtain ⟨ds, B2, e2, hB2, hd, hl⟩ := comp_draw (ms := eRng1 (eCons (eFn (tab aF aP (k + 1) i__law_take) (eCons (eVar 0) (eCons (eC (.int 12)) eNil))) eNil)) (j := 2)
    (el := eBin gIx (eLst (eCons (eC (.int 0)) (eCons (eC (.int 1)) (eCons (eC (.int 2)) (eCons (eC (.int 30)) eNil))))) (eFn (tab aF aP (k + 1) i__law_take) (eCons (eVar 0) (eCons (eC (.int 4)) eNil)))) (ρ := [some (.mu 0), none, none]) (M := B :: R) (lo := 0) (n := r1.toNat) (B := B1) (R := R)
    (fun d => okI d = true) (by simp [eVar, e1, hr]) hB1 (by omega) (fun i hi B hB => by
      obtain ⟨r, B', e, hB', h0, h1⟩ := take_tab aF aP k (R := R) hB (n := 4) (by decide) (by decide)
      obtain ⟨d, hd, ed, _⟩ := gIx_lst (M := B' :: R) (ds := parts1) h0 (by simpa [parts1] using h1)
      unfold parts1 at ed
      exact ⟨.sv (.dt d), d, B', by simp [eVar, e, ed], rfl, parts1_ok d hd, hB'⟩)
  have hfl : flatL ds = true := flatL_of fun d h => (El.of (okI_of (hd d h)).1).f
  have hdp : depL ds ≤ 63 := depL_of fun d h => by have := (El.of (okI_of (hd d h)).1).d; omega
  -- behind the test: some list of as many
  have mid : ∃ (ds' : List D) (B3 : MO), ds'.length = ds.length ∧ (∀ d ∈ ds', okI d = true) ∧ BagO B3 ∧ (sIf (tAndB (eBool (eBin gNe (eVar 1) (eLst eNil))) (eBool (eBin gEq (eFn (tab aF aP (k + 1) i__law_take) (eCons (eVar 0) (eCons (eC (.int 3)) eNil))) (eC (.int 0))))) (sPut (eVar 1) (eFn (tab aF aP (k + 1) i__law_take) (eCons (eVar 0) (eCons (eCall (g1 lenS) (eCons (eVar 1) eNil)) eNil))) (eBin gIx (eLst (eCons (eNeg (eC (.int 1))) (eCons (eC (.bl true)) (eCons (eC (.bl false)) (eCons (eC .non) (eCons (eC (.str (Str.ofString "0"))) (eCons (eBin gPow (eC (.int 10)) (eC (.int 39))) (eCons (eTup (eCons (eC (.int 0)) eNil)) (eCons (eLst eNil) eNil))))))))) (eFn (tab aF aP (k + 1) i__law_take) (eCons (eVar 0) (eCons (eC (.int 8)) eNil))))) sNext)
      [some (.mu 0), some (.mu (R.length + 1)), none] (B2 :: (R ++ [.l (ds.map .dt)])) = some (.nx [some (.mu 0), some (.mu (R.length + 1)), none] (B3 :: (R ++ [.l (ds'.map .dt)]))) := by
    have hn := ne_nil_mu (M := B2 :: (R ++ [.l (ds.map .dt)])) (k := R.length + 1) (ds := ds) (by simp) hfl hdp
    cases ds with
    | nil =>
      refine ⟨[], B2, rfl, by simp, hB2, ?_⟩
      simp [eVar] at hn ⊢
      simp [hn]
    | cons d0 dt =>
      obtain ⟨r3, B3, e3, hB3, h30, h31⟩ := take_tab aF aP k (R := R ++ [.l ((d0 :: dt).map .dt)]) hB2 (n := 3) (by decide) (by decide)
      by_cases hz : r3 = 0
      · subst hz
        obtain ⟨r4, B4, e4, hB4, h40, h41⟩ := take_tab aF aP k (R := R ++ [.l ((d0 :: dt).map .dt)]) hB3 (n := 8) (by decide) (by decide)
        obtain ⟨d, hdm, ed, _⟩ := gIx_lst (M := B4 :: (R ++ [.l ((d0 :: dt).map .dt)])) (ds := parts2) h40 (by simpa [parts2] using h41)
        obtain ⟨r5, B5, e5, hB5, h50, h51⟩ := take_tab aF aP k (R := R ++ [.l ((d0 :: dt).map .dt)]) hB4 (n := ((d0 :: dt).length : Int)) (by simp) (by omega)
        have es := setAt_mu (M := B5 :: (R ++ [.l ((d0 :: dt).map .dt)])) (k := R.length + 1) (ds := d0 :: dt) (d := d) (by simp) h50 h51
        have el := lenS_mu (M := B4 :: (R ++ [.l ((d0 :: dt).map .dt)])) (k := R.length + 1) (ds := d0 :: dt) (by simp)
        refine ⟨(d0 :: dt).set r5.toNat d, B5, by simp, fun x hx => ?_, hB5, ?_⟩
        · rcases List.mem_or_eq_of_mem_set hx with h | h
          · exact hd x h
          · subst h; exact parts2_ok x hdm
        · simp [parts2] at ed
          simp [eVar] at hn e3 e4 e5 es el ed ⊢
          simp [hn, e3, e4, e5, es, el, ed, gPow, int2]
      · refine ⟨d0 :: dt, B3, rfl, hd, hB3, ?_⟩
        simp [eVar] at hn e3 ⊢
        simp [hn, e3, hz]
  obtain ⟨ds', B3, hl', hd', hB3, em⟩ := mid
  have hv := fun s hs => seq_val (ds := ds') (by omega) (fun d h => okI_of (hd' d h)) s hs
  obtain ⟨r4, B4, e4, hB4, h40, h41⟩ := take_tab aF aP k (R := R ++ [.l (ds'.map .dt)]) hB3 (n := 8) (by decide) (by decide)
  have hnew : sNew 1 (eComp (eRng1 (eCons (eFn (tab aF aP (k + 1) i__law_take) (eCons (eVar 0) (eCons (eC (.int 12)) eNil))) eNil)) (bName 2) cYes (eBin gIx (eLst (eCons (eC (.int 0)) (eCons (eC (.int 1)) (eCons (eC (.int 2)) (eCons (eC (.int 30)) eNil))))) (eFn (tab aF aP (k + 1) i__law_take) (eCons (eVar 0) (eCons (eC (.int 4)) eNil)))) [2]) [some (.mu 0), none, none] (B :: R) = some (.nx [some (.mu 0), some (.mu (R.length + 1)), none] (B2 :: (R ++ [.l (ds.map .dt)]))) := by
    rw [sNew_fr e2]
    simp
  by_cases hz : 0 < r4
  · have et := tupleS_mu (M := B4 :: (R ++ [.l (ds'.map .dt)])) (k := R.length + 1) (ds := ds') (by simp)
    refine ⟨.sv (.dt (.tup ds')), .tup ds', B4, ?_, rfl, hv _ (.inr rfl), hB4⟩
    simp only [List.map_cons, List.map_nil, List.length_cons, List.length_nil, List.cons_append, List.nil_append, List.replicate_succ, List.replicate_zero, sSeq_ev, hnew, outB_nx, em]
    simp [eVar, e4, hz, et]
  · have ec := close_mu (M := B4 :: (R ++ [.l (ds'.map .dt)])) (k := R.length + 1) (n := R.length + 1) (ds := ds') (by simp) (Nat.le_refl _)
    refine ⟨.fr ds', .lst ds', B4, ?_, rfl, hv _ (.inl rfl), hB4⟩
    simp only [List.map_cons, List.map_nil, List.length_cons, List.length_nil, List.cons_append, List.nil_append, List.replicate_succ, List.replicate_zero, sSeq_ev, hnew, outB_nx, em]
    simp [eVar, e4, hz] at ec ⊢
    simp [ec]
end
end K11

set_option Elab.async false
set_option linter.all false
set_option maxRecDepth 100000
set_option maxHeartbeats 4000000
namespace K11
open PySem L2 Dy
section
variable (aF aP : Addr)
theorem Sh.okI {z : Str} (h : Sh z) : okI (.str z) = true := by
  have := h.l
  have h2 := h.o
  have h3 := h.el
  simp [K11.okI, h3, goodD, h2, swt]
  omega
def wordsK : List D := [.str (Str.ofString "yes"), .str (Str.ofString "no"), .str (Str.ofString "round"), .str (Str.ofString "out"), .str (Str.ofString "Yes"), .str (Str.ofString ""), .str (Str.ofString "rounds"), .non, .bl true, .tup [.str (Str.ofString "out")], .lst [.str (Str.ofString "no")]]
theorem wordsK_ok : ∀ d ∈ wordsK, okI d = true := List.all_eq_true.mp (by decide +kernel : wordsK.all okI = true)
theorem some_ok (k : Nat) {B : MO} {R : MS} (hB : BagO B) : ∃ r d B', tab aF aP (k + 3) i__law_some [.mu 0] (B :: R) = some (r, B' :: R) ∧ r.toSV = .dt d ∧ Val d ∧ BagO B' := by
  show ∃ r d B', runBody (m__law_some (tab aF aP (k + 2)) aF aP) 5 [.mu 0] (B :: R) = _ ∧ _
  rw [runBody_eq]
  unfold m__law_some
  obtain ⟨r0, B0, e0, hB0, h00, h01⟩ := take_tab aF aP (k + 1) (R := R) hB (n := 6) (by decide) (by decide)
  by_cases s0 : r0 = 0
  · subst s0
    obtain ⟨d, B1, e1, hd, hB1⟩ := odd_ok aF aP k (R := R) hB0
    exact ⟨.sv (.dt d), d, B1, by simp [eVar, e0, e1], rfl, Val.of (odds_val d hd), hB1⟩
  by_cases s1 : r0 = 1
  · subst s1
    obtain ⟨z, B1, e1, hz, hB1⟩ := near_name_ok aF aP k (R := R) hB0
    exact ⟨.sv (.dt (.str z)), .str z, B1, by simp [eVar, e0, e1], rfl, hz.val, hB1⟩
  by_cases s2 : r0 = 2
  · subst s2
    obtain ⟨r, d, B1, e1, er, hz, hB1⟩ := near_address_ok aF aP k (R := R) hB0
    refine ⟨r, d, B1, ?_, er, hz, hB1⟩
    have hc : close r (B1 :: R) (R.length + 1) = some (r, B1 :: R) := by
      cases r with
      | sv s =>
        have : s = .dt d := er
        subst this
        simp
      | fr ds => simp
      | fd ks ds => simp
    simp [eVar, e0, e1, hc]
  have fin : ∀ (ds : List D) (B2 : MO), BagO B2 → ds.length ≤ 16 → (∀ d ∈ ds, okI d = true) → ∀ x1 x3 x4, ∃ r d B', sRet (eIf (eBool (eBin gEq (eFn (tab aF aP (k + 2) i__law_take) (eCons (eVar 0) (eCons (eC (.int 2)) eNil))) (eC (.int 0)))) (eVar 2) (eCall (g1 tupleS) (eCons (eVar 2) eNil))) [some (.mu 0), x1, some (.dt (.lst ds)), x3, x4] (B2 :: R) = some (.rt r (B' :: R)) ∧ r.toSV = .dt d ∧ Val d ∧ BagO B' ∧ close r (B' :: R) (R.length + 1) = some (r, B' :: R) := by
    intro ds B2 hB2 hl hd x1 x3 x4
    have hv := fun s hs => seq_val (ds := ds) hl (fun d h => okI_of (hd d h)) s hs
    obtain ⟨r4, B4, e4, hB4, h40, h41⟩ := take_tab aF aP (k + 1) (R := R) hB2 (n := 2) (by decide) (by decide)
    by_cases hz : r4 = 0
    · exact ⟨.sv (.dt (.lst ds)), .lst ds, B4, by simp [eVar, e4, hz], rfl, hv _ (.inl rfl), hB4, by simp⟩
    · exact ⟨.sv (.dt (.tup ds)), .tup ds, B4, by simp [eVar, e4, hz], rfl, hv _ (.inr rfl), hB4, by simp⟩
  by_cases s3 : r0 = 3
  · subst s3
    obtain ⟨r1, B1, e1, hB1, h10, h11⟩ := take_tab aF aP (k + 1) (R := R) hB0 (n := 10) (by decide) (by decide)
    have hr := isRange_of (i := r1) (by omega) (by omega)
    obtain ⟨ds, B2, e2, hB2, hd, hl⟩ := comp_draw (ms := eRng1 (eCons (eFn (tab aF aP (k + 2) i__law_take) (eCons (eVar 0) (eCons (eC (.int 10)) eNil))) eNil)) (j := 4)
      (el := eFn (tab aF aP (k + 2) i__law_near_name) (eCons (eVar 0) eNil)) (ρ := [some (.mu 0), some (.dt (.int 3)), none, none, none]) (M := B0 :: R) (lo := 0) (n := r1.toNat) (B := B1) (R := R)
      (fun d => okI d = true) (by simp [eVar, e1, hr]) hB1 (by omega) (fun i hi B hB => by
        obtain ⟨z, B', e, hz, hB'⟩ := near_name_ok aF aP k (R := R) hB
        exact ⟨.sv (.dt (.str z)), .str z, B', by simp [eVar, e], rfl, hz.okI, hB'⟩)
    obtain ⟨r, d, B', f1, f2, f3, f4, f5⟩ := fin ds B2 hB2 (by omega) hd (some (.dt (.int 3))) none none
    refine ⟨r, d, B', ?_, f2, f3, f4⟩
    simp [-sRet_ev, eVar, e0, e2, f1, f5]
  obtain ⟨r1, B1, e1, hB1, h10, h11⟩ := take_tab aF aP (k + 1) (R := R) hB0 (n := 7) (by decide) (by decide)
  have hr := isRange_of (i := r1) (by omega) (by omega)
  obtain ⟨ds, B2, e2, hB2, hd, hl⟩ := comp_draw (ms := eRng1 (eCons (eFn (tab aF aP (k + 2) i__law_take) (eCons (eVar 0) (eCons (eC (.int 7)) eNil))) eNil)) (j := 4)
    (el := eBin gIx (eVar 3) (eFn (tab aF aP (k + 2) i__law_take) (eCons (eVar 0) (eCons (eIf (eBool (eBin gEq (eVar 1) (eC (.int 4)))) (eC (.int 4)) (eC (.int 11))) eNil)))) (ρ := [some (.mu 0), some (.dt (.int r0)), none, some (.dt (.lst wordsK)), none]) (M := B0 :: R) (lo := 0) (n := r1.toNat) (B := B1) (R := R)
    (fun d => okI d = true) (by simp [eVar, e1, hr]) hB1 (by omega) (fun i hi B hB => by
      by_cases h4 : r0 = 4
      · subst h4
        obtain ⟨r, B', e, hB', h0, h1⟩ := take_tab aF aP (k + 1) (R := R) hB (n := 4) (by decide) (by decide)
        obtain ⟨d, hd, ed, _⟩ := gIx_lst (M := B' :: R) (ds := wordsK) h0 (by simp [wordsK]; omega)
        exact ⟨.sv (.dt d), d, B', by simp [eVar, e, ed], rfl, wordsK_ok d hd, hB'⟩
      · obtain ⟨r, B', e, hB', h0, h1⟩ := take_tab aF aP (k + 1) (R := R) hB (n := 11) (by decide) (by decide)
        obtain ⟨d, hd, ed, _⟩ := gIx_lst (M := B' :: R) (ds := wordsK) h0 (by simpa [wordsK] using h1)
        exact ⟨.sv (.dt d), d, B', by simp [eVar, e, ed, h4], rfl, wordsK_ok d hd, hB'⟩)
  obtain ⟨r, d, B', f1, f2, f3, f4, f5⟩ := fin ds B2 hB2 (by omega) hd (some (.dt (.int r0))) (some (.dt (.lst wordsK))) none
  refine ⟨r, d, B', ?_, f2, f3, f4⟩
  unfold wordsK at f1 e2
  simp [-sRet_ev, eVar, e0, s0, s1, s2, s3, e2, f1, f5]
end
end K11

set_option Elab.async false
set_option linter.all false
set_option maxRecDepth 100000
set_option maxHeartbeats 4000000
namespace K11
open PySem L2 Dy
section
variable (aF aP : Addr)
/-! ### Program([], []) -/
theorem sq_nil : Sq (.lst []) := ⟨rfl, fun xs h => by
  rcases h with h | h
  · cases h; exact ⟨by simp, by simp⟩
  · cases h⟩
theorem are_inputs_nil (k : Nat) (M : MS) : tab aF aP (k + 3) i_are_inputs [.dt (.lst [])] M = some (.sv (.dt (.bl true)), M) := by
  show runBody (m_are_inputs (tab aF aP (k + 2)) aF aP) 1 [.dt (.lst [])] M = _
  rw [runBody_eq]
  unfold m_are_inputs
  have e := are_names_ok aF aP k (.lst []) 4 M sq_nil
  have e2 : lenSetS M (.dt (.lst [])) = some (.int 0) := rfl
  have e3 : namesB 4 (.lst []) = true := rfl
  simp [eVar, e, e3, eLenSet, e2, lenS]
theorem comp_nil {m : EM R} {b : Bnd} {c : EM Bool} {el : EM R} {vs : List Nat} {ρ : Dy.Env} {M : MS} {r : R} (hm : m ρ M = some (r, M)) (hr : r.toSV = .dt (.lst []) ∨ r.toSV = .dt (.tup [])) : eComp (eSeq m) b c el vs ρ M = some (.fr [], M) := by
  unfold eComp
  rw [eSeq_ev, hm]
  rcases hr with hr | hr <;> simp [hr, seqSrc, compGo]
theorem are_rows_nil (k : Nat) (M : MS) : tab aF aP (k + 1) i_are_rows [.dt (.lst [])] M = some (.sv (.dt (.bl true)), M) := by
  show runBody (m_are_rows (tab aF aP k) aF aP) 2 [.dt (.lst [])] M = _
  rw [runBody_eq]
  unfold m_are_rows
  have e := comp_nil (m := eVar 0) (b := bName 1) (c := cYes) (el := eNo) (vs := [1]) (ρ := [some (.dt (.lst [])), none]) (M := M) (r := .sv (.dt (.lst []))) rfl (.inl rfl)
  simp [eVar, isiS, tyS, isi1, e, allS, dBools, rB]
theorem count_nil (k : Nat) (M : MS) : tab aF aP (k + 1) i_count [.dt (.lst [])] M = some (.sv (.dt (.int 0)), M) := by
  show runBody (m_count (tab aF aP k) aF aP) 3 [.dt (.lst [])] M = _
  rw [runBody_eq]
  unfold m_count
  simp [eVar, lenS, eComp20, seqSrc, sumS, dInts]
theorem depth_nil (k : Nat) (M : MS) : tab aF aP (k + 1) i_depth [.dt (.lst [])] M = some (.sv (.dt (.int 1)), M) := by
  show runBody (m_depth (tab aF aP k) aF aP) 3 [.dt (.lst [])] M = _
  rw [runBody_eq]
  unfold m_depth
  simp [eVar, eComp20, seqSrc, eMax0]
theorem walked_nil (k : Nat) (M : MS) : tab aF aP (k + 1) i_walked [.dt (.tup []), .dt (.tup [])] M = some (.fr [], M) := by
  show runBody (m_walked (tab aF aP k) aF aP) 7 [.dt (.tup []), .dt (.tup [])] M = _
  rw [runBody_eq]
  unfold m_walked
  simp [eVar, sNew, sFor, eEnum, enumT, forGo, close]

theorem set_last {α : Type} (M : List α) (x y : α) : (M ++ [x]).set M.length y = M ++ [y] := by
  induction M with
  | nil => rfl
  | cons a M ih => simp [ih]
theorem take_last {α : Type} (M : List α) (x : α) : (M ++ [x]).take (M.length + 1) = M ++ [x] := List.take_of_length_le (by simp)
theorem set_last1 {α : Type} (M : List α) (x y z : α) : (M ++ [x, z]).set M.length y = M ++ [y, z] := by
  induction M with
  | nil => rfl
  | cons a M ih => simp [ih]
def fldNs : List Str := [Str.ofString "kept_inputs", Str.ofString "kept_rows", Str.ofString "kept_at", Str.ofString "kept_makers", Str.ofString "kept_ways", Str.ofString "kept_forks"]
def fldDs : List D := [.tup [], .tup [], .dct [] [], .dct [] [], .dct [] [], .lst []]
theorem look_at : lookF (Str.ofString "kept_at") fldNs fldDs = some (.dct [] []) := by rfl
theorem look_makers : lookF (Str.ofString "kept_makers") fldNs fldDs = some (.dct [] []) := by rfl
theorem look_inputs : lookF (Str.ofString "kept_inputs") fldNs fldDs = some (.tup []) := by rfl
theorem look_rows : lookF (Str.ofString "kept_rows") fldNs fldDs = some (.tup []) := by rfl
section
variable {ρ : Dy.Env} {M : MS}
theorem muI_of {j : Nat} {C : Addr} {ns : List Str} {ds : List D} (h : M[j]? = some (.i C ns ds)) : muI M (.mu j) = some (j, C, ns, ds) := by
  unfold muI
  simp only [h]
theorem fldS_of {j : Nat} {C : Addr} {f : Str} {ns : List Str} {ds : List D} {d : D} (h : M[j]? = some (.i C ns ds)) (hd : lookF f ns ds = some d) : fldS C f M (.mu j) = some d := by
  unfold fldS
  rw [muI_of h]
  simp [hd]
@[simp] theorem eFld_ev (C : Addr) (f : Str) (m : EM R) : eFld C f m ρ M = (m ρ M).bind fun p => (fldS C f p.2 p.1.toSV).bind fun d => some (.sv (.dt d), p.2) := by
  unfold eFld
  rw [seq_ev, fz_ev]
  cases m ρ M with
  | none => rfl
  | some p =>
    simp only [Option.bind_some]
    cases fldS C f p.2 p.1.toSV <;> rfl
@[simp] theorem eMeth_ev (C : Addr) (mn : Str) (g : Fn) (mo : EM R) (ms : EM (List SV)) : eMeth C mn g mo ms ρ M = (mo ρ M).bind fun p => (muI p.2 p.1.toSV).bind fun q => if q.2.1 = C ∧ q.2.2.1.contains mn = false then ((ms ρ p.2).bind fun z => g (p.1.toSV :: z.1) z.2) else none := by
  unfold eMeth
  rw [seq_ev, fz_ev]
  cases mo ρ M with
  | none => rfl
  | some p =>
    simp only [Option.bind_some]
    cases muI p.2 p.1.toSV with
    | none => rfl
    | some q =>
      obtain ⟨a, b, c, d⟩ := q
      simp only [Option.bind_some]
      split
      · rw [seq_ev]
      · rfl
@[simp] theorem sFldPut_ev (C : Addr) (f : Str) (mo me : EM R) : sFldPut C f mo me ρ M = (me ρ M).bind fun p => (dOf p.1.toSV).bind fun d => (mo ρ p.2).bind fun q => (putFld C f q.2 q.1.toSV d).bind fun M3 => some (.nx ρ M3) := by
  unfold sFldPut
  rw [fz_ev]
  cases me ρ M with
  | none => rfl
  | some p =>
    simp only [Option.bind_some]
    cases p.1.toSV with
    | mu k => rfl
    | dt d =>
      simp only [dOf, Option.bind_some, fz_ev]
      cases mo ρ p.2 with
      | none => rfl
      | some q =>
        simp only [Option.bind_some]
        cases putFld C f q.2 q.1.toSV d <;> rfl
end
theorem leaves_nil (k : Nat) (M : MS) (j : Nat) (h : M[j]? = some (.i aP fldNs fldDs)) : tab aF aP (k + 1) i_Program_need_leaves [.mu j] M = some (.sv (.dt .non), M) := by
  show runBody (m_Program_need_leaves (tab aF aP k) aF aP) 3 [.mu j] M = _
  rw [runBody_eq]
  unfold m_Program_need_leaves
  simp [eVar, sForFld0, fldS_of h look_at]
theorem sight_nil (k : Nat) (M : MS) (j : Nat) (h : M[j]? = some (.i aP fldNs fldDs)) : tab aF aP (k + 1) i_Program_need_sight [.mu j] M = some (.sv (.dt .non), M) := by
  show runBody (m_Program_need_sight (tab aF aP k) aF aP) 9 [.mu j] M = _
  rw [runBody_eq]
  unfold m_Program_need_sight
  simp [eVar, sForFld0, fldS_of h look_at]
theorem getM {M : MS} {j : Nat} {o : MO} (h : M[j]? = some o) (x : MO) : (M ++ [x])[j]? = some o := by
  have := (List.getElem?_eq_some_iff.mp h).1
  rw [List.getElem?_append_left this]
  exact h
theorem neednames_nil (k : Nat) (M : MS) (j : Nat) (h : M[j]? = some (.i aP fldNs fldDs)) : tab aF aP (k + 1) i_Program_need_names [.mu j] M = some (.sv (.dt .non), M) := by
  show runBody (m_Program_need_names (tab aF aP k) aF aP) 5 [.mu j] M = _
  rw [runBody_eq]
  unfold m_Program_need_names
  have e := ne_nil_mu (M := M ++ [.l []]) (k := M.length) (ds := []) (by simp) rfl (by decide)
  simp [eVar, sNew, sForFld0, fldS_of (getM h _) look_at] at e ⊢
  simp [e]
theorem names_nil (k : Nat) (M : MS) (j : Nat) (h : M[j]? = some (.i aP fldNs fldDs)) : tab aF aP (k + 1) i_Program_names [.mu j] M = some (.fr [], M) := by
  show runBody (m_Program_names (tab aF aP k) aF aP) 1 [.mu j] M = _
  rw [runBody_eq]
  unfold m_Program_names
  simp [eVar, fldS_of h look_makers, sorted0S, listD, Dy.listOf]

theorem add_nil (k : Nat) (M : MS) (s : SV) : tab aF aP (k + 1) i_Fans_add [s, .dt (.tup [])] M = some (.sv (.dt .non), M) := by
  show runBody (m_Fans_add (tab aF aP k) aF aP) 8 [s, .dt (.tup [])] M = _
  rw [runBody_eq]
  unfold m_Fans_add
  simp [eVar, sFor, seqSrc, forGo]
def fanNs : List Str := [Str.ofString "nodes", Str.ofString "numbers", Str.ofString "makings", Str.ofString "rank", Str.ofString "node_of"]
def fanDs : List D := [.lst [], .dct [] [], .dct [] [], .int 0, .dct [] []]
theorem fans_nil (k : Nat) (M : MS) : tab aF aP (k + 2) i_Fans___init__ [.mu M.length, .dt (.tup []), .dt (.tup [])] (M ++ [.i aF [] []]) = some (.sv (.dt .non), M ++ [.i aF fanNs fanDs]) := by
  show runBody (m_Fans___init__ (tab aF aP (k + 1)) aF aP) 4 [.mu M.length, .dt (.tup []), .dt (.tup [])] (M ++ [.i aF [] []]) = _
  rw [runBody_eq]
  unfold m_Fans___init__ fanNs fanDs
  have n1 : ¬ Str.ofString "nodes" = Str.ofString "numbers" := by decide +kernel
  have n2 : ¬ Str.ofString "nodes" = Str.ofString "makings" := by decide +kernel
  have n3 : ¬ Str.ofString "nodes" = Str.ofString "rank" := by decide +kernel
  have n4 : ¬ Str.ofString "nodes" = Str.ofString "node_of" := by decide +kernel
  have n5 : ¬ Str.ofString "numbers" = Str.ofString "makings" := by decide +kernel
  have n6 : ¬ Str.ofString "numbers" = Str.ofString "rank" := by decide +kernel
  have n7 : ¬ Str.ofString "numbers" = Str.ofString "node_of" := by decide +kernel
  have n8 : ¬ Str.ofString "makings" = Str.ofString "rank" := by decide +kernel
  have n9 : ¬ Str.ofString "makings" = Str.ofString "node_of" := by decide +kernel
  have n10 : ¬ Str.ofString "rank" = Str.ofString "node_of" := by decide +kernel
  have m1 : ¬ Str.ofString "add" = Str.ofString "nodes" := by decide +kernel
  have m2 : ¬ Str.ofString "add" = Str.ofString "numbers" := by decide +kernel
  have m3 : ¬ Str.ofString "add" = Str.ofString "makings" := by decide +kernel
  have m4 : ¬ Str.ofString "add" = Str.ofString "rank" := by decide +kernel
  have m5 : ¬ Str.ofString "add" = Str.ofString "node_of" := by decide +kernel
  simp [eVar, sFlds, fsCons, fsNil, eDict0, putFld, muI, set_last, putN, eDcE, seqSrc, dOf, add_nil, n1, n2, n3, n4, n5, n6, n7, n8, n9, n10, m1, m2, m3, m4, m5, take_last]
theorem trees_nil (k : Nat) (M : MS) (j : Nat) (h : M[j]? = some (.i aP fldNs fldDs)) : tab aF aP (k + 3) i_Program_need_trees [.mu j] M = some (.sv (.dt .non), M) := by
  show runBody (m_Program_need_trees (tab aF aP (k + 2)) aF aP) 3 [.mu j] M = _
  rw [runBody_eq]
  unfold m_Program_need_trees
  have e := fans_nil aF aP k M
  have en := names_nil aF aP (k + 1) M j h
  have hc : ¬ Str.ofString "names" ∈ fldNs := by decide +kernel
  simp [eVar, eMake, fldS_of h look_inputs, fldS_of h look_rows, e, sFor, muI_of h, en, hc, seqSrc, forGo]
theorem init_nil (k : Nat) (M : MS) : tab aF aP (k + 4) i_Program___init__ [.mu M.length, .dt (.lst []), .dt (.lst [])] (M ++ [.i aP [] []]) = some (.sv (.dt .non), M ++ [.i aP fldNs fldDs]) := by
  show runBody (m_Program___init__ (tab aF aP (k + 3)) aF aP) 4 [.mu M.length, .dt (.lst []), .dt (.lst [])] (M ++ [.i aP [] []]) = _
  rw [runBody_eq]
  unfold m_Program___init__
  have e1 := are_inputs_nil aF aP k
  have e2 := are_rows_nil aF aP (k + 2)
  have e3 := count_nil aF aP (k + 2)
  have e4 := depth_nil aF aP (k + 2)
  have e5 := walked_nil aF aP (k + 2)
  have e6 := comp_nil (m := eVar 2) (b := bName 3) (c := cYes) (el := eNo) (vs := [3]) (ρ := [some (.mu M.length), some (.dt (.lst [])), some (.dt (.lst [])), none]) (M := M ++ [.i aP [Str.ofString "kept_inputs"] [.tup []]]) (r := .sv (.dt (.lst []))) rfl (.inl rfl)
  have f1 := leaves_nil aF aP (k + 2) (M ++ [.i aP fldNs fldDs]) M.length (by simp)
  have f2 := neednames_nil aF aP (k + 2) (M ++ [.i aP fldNs fldDs]) M.length (by simp)
  have f3 := sight_nil aF aP (k + 2) (M ++ [.i aP fldNs fldDs]) M.length (by simp)
  have f4 := trees_nil aF aP k (M ++ [.i aP fldNs fldDs]) M.length (by simp)
  have c1 : ¬ Str.ofString "need_leaves" ∈ fldNs := by decide +kernel
  have c2 : ¬ Str.ofString "need_names" ∈ fldNs := by decide +kernel
  have c3 : ¬ Str.ofString "need_sight" ∈ fldNs := by decide +kernel
  have c4 : ¬ Str.ofString "need_trees" ∈ fldNs := by decide +kernel
  have n1 : ¬ Str.ofString "kept_inputs" = Str.ofString "kept_rows" := by decide +kernel
  have n2 : ¬ Str.ofString "kept_inputs" = Str.ofString "kept_at" := by decide +kernel
  have n3 : ¬ Str.ofString "kept_inputs" = Str.ofString "kept_makers" := by decide +kernel
  have n4 : ¬ Str.ofString "kept_inputs" = Str.ofString "kept_ways" := by decide +kernel
  have n5 : ¬ Str.ofString "kept_inputs" = Str.ofString "kept_forks" := by decide +kernel
  have n6 : ¬ Str.ofString "kept_rows" = Str.ofString "kept_at" := by decide +kernel
  have n7 : ¬ Str.ofString "kept_rows" = Str.ofString "kept_makers" := by decide +kernel
  have n8 : ¬ Str.ofString "kept_rows" = Str.ofString "kept_ways" := by decide +kernel
  have n9 : ¬ Str.ofString "kept_rows" = Str.ofString "kept_forks" := by decide +kernel
  have n10 : ¬ Str.ofString "kept_at" = Str.ofString "kept_makers" := by decide +kernel
  have n11 : ¬ Str.ofString "kept_at" = Str.ofString "kept_ways" := by decide +kernel
  have n12 : ¬ Str.ofString "kept_at" = Str.ofString "kept_forks" := by decide +kernel
  have n13 : ¬ Str.ofString "kept_makers" = Str.ofString "kept_ways" := by decide +kernel
  have n14 : ¬ Str.ofString "kept_makers" = Str.ofString "kept_forks" := by decide +kernel
  have n15 : ¬ Str.ofString "kept_ways" = Str.ofString "kept_forks" := by decide +kernel
  have n16 : ¬ Str.ofString "kept_rows" = Str.ofString "kept_inputs" := by decide +kernel
  unfold fldNs fldDs at f1 f2 f3 f4 ⊢
  unfold fldNs at c1 c2 c3 c4
  simp at c1 c2 c3 c4
  simp [eVar, e1, e2, e3, e4, e5, e6, sorted0S, putFld, muI, putN, set_last, dOf, fldS, lookF, dictPS, pairsD, mergeD, sFlds, fsCons, fsNil, eDict0, f1, f2, f3, f4, c1, c2, c3, c4, n1, n2, n3, n4, n5, n6, n7, n8, n9, n10, n11, n12, n13, n14, n15, n16, take_last]
theorem make_ok (k : Nat) (M : MS) (ρ : Dy.Env) : eMake aP (tab aF aP (k + 4) i_Program___init__) (eCons (eLst eNil) (eCons (eLst eNil) eNil)) ρ M = some (.sv (.dt (.obj aP)), M) := by
  unfold eMake
  have e := init_nil aF aP k M
  simp [e]
end
end K11

set_option Elab.async false
set_option linter.all false
set_option maxRecDepth 100000
set_option maxHeartbeats 4000000
namespace K11
open PySem L2 Dy
section
variable (aF aP : Addr)
/-- an item of the law's list -/
structure Itm (d : D) : Prop where
  f : It5 d
  v : Val d ∨ d = .obj aP
theorem tyS_val {d : D} (h : Val d) (M : MS) : isiCS aP M (.dt d) = some false := by
  have hp := h.p
  have ho := h.o
  cases d with
  | ins C ns vs => cases hp
  | scr ns => cases hp
  | obj C => exact absurd rfl (ho C)
  | _ => rfl
def inner : SM := (sFor (eRng1 (eCons (eC (.int 2)) eNil)) (bName 7) (sSeq (sSet 8 (eLst (eCons (eFn (tab aF aP 9 i_is_integer) (eCons (eVar 3) eNil)) (eCons (eFn (tab aF aP 9 i_is_name) (eCons (eVar 3) eNil)) (eCons (eFn (tab aF aP 9 i_is_address) (eCons (eVar 3) eNil)) (eCons (eFn (tab aF aP 9 i_are_names) (eCons (eVar 3) (eCons (eVar 4) eNil))) (eCons (eFn (tab aF aP 9 i_are_choices) (eCons (eVar 3) eNil)) eNil)))))))
    (sSeq (sIf (tNotB (eTru (eFn (tab aF aP 9 i__law_alike) (eCons (eVar 8) (eCons (eVar 5) eNil))))) (sRet (eC (.bl false))) sNext)
    (sIf (tAndB (tNotB (eTru (eIsiC aP (eVar 3)))) (eBool (eBin gNe (eCall (g1 reprS) (eCons (eVar 3) eNil)) (eVar 6)))) (sRet (eC (.bl false))) sNext))))
def due (d : D) (most : Int) : List D := [.bl (intB d), .bl (nameB d), .bl (addrB d), .bl (namesB most d), .bl (chB d)]
theorem shown_ok {d : D} (h : Itm aP d) (M : MS) : ∃ x : Str, (isiCS aP M (.dt d) = some false ∧ reprS M (.dt d) = some (.sv (.dt (.str x)))) ∨ (isiCS aP M (.dt d) = some true ∧ x = Str.ofString "") := by
  rcases h.v with hv | rfl
  · obtain ⟨x, hx⟩ := repr_ok M hv.g hv.w (by have := hv.e; omega)
    exact ⟨x, .inl ⟨tyS_val aP hv M, hx⟩⟩
  · exact ⟨_, .inr ⟨by simp [isiCS], rfl⟩⟩
theorem inner_ok {d : D} (h : Itm aP d) {B : MO} {x : Str} (hx : (isiCS aP [B] (.dt d) = some false ∧ reprS [B] (.dt d) = some (.sv (.dt (.str x)))) ∨ (isiCS aP [B] (.dt d) = some true ∧ x = Str.ofString "")) (most : Int) (x0 x1 x2 x7 x8 x9 : Option SV) :
    ∃ y7 y8, inner aF aP [x0, x1, x2, some (.dt d), some (.dt (.int most)), some (.dt (.lst (due d most))), some (.dt (.str x)), x7, x8, x9] [B] = some (.nx [x0, x1, x2, some (.dt d), some (.dt (.int most)), some (.dt (.lst (due d most))), some (.dt (.str x)), y7, y8, x9] [B]) := by
  have e1 : tab aF aP 9 i_is_integer [.dt d] [B] = _ := is_integer_ok aF aP 8 d [B] h.f.p
  have e2 : tab aF aP 9 i_is_name [.dt d] [B] = _ := is_name_ok aF aP 8 d [B] h.f.p h.f.s
  have e3 : tab aF aP 9 i_is_address [.dt d] [B] = _ := is_address_ok aF aP 7 d [B] h.f.p h.f.t
  have e4 : tab aF aP 9 i_are_names [.dt d, .dt (.int most)] [B] = _ := are_names_ok aF aP 7 d most [B] h.f.q
  have e5 : tab aF aP 9 i_are_choices [.dt d] [B] = _ := are_choices_ok aF aP 8 d [B] h.f.q
  have e6 : tab aF aP 9 i__law_alike [.dt (.lst (due d most)), .dt (.lst (due d most))] [B] = _ := alike_ok aF aP 8 (intB d) (nameB d) (addrB d) (namesB most d) (chB d) [B]
  obtain ⟨ρ', M', e, y7, y8, rfl, rfl⟩ := for_inv (ms := eRng1 (eCons (eC (.int 2)) eNil)) (b := bName 7) (ρ := [x0, x1, x2, some (.dt d), some (.dt (.int most)), some (.dt (.lst (due d most))), some (.dt (.str x)), x7, x8, x9]) (M := [B]) (M0 := [B])
    (body := (sSeq (sSet 8 (eLst (eCons (eFn (tab aF aP 9 i_is_integer) (eCons (eVar 3) eNil)) (eCons (eFn (tab aF aP 9 i_is_name) (eCons (eVar 3) eNil)) (eCons (eFn (tab aF aP 9 i_is_address) (eCons (eVar 3) eNil)) (eCons (eFn (tab aF aP 9 i_are_names) (eCons (eVar 3) (eCons (eVar 4) eNil))) (eCons (eFn (tab aF aP 9 i_are_choices) (eCons (eVar 3) eNil)) eNil)))))))
    (sSeq (sIf (tNotB (eTru (eFn (tab aF aP 9 i__law_alike) (eCons (eVar 8) (eCons (eVar 5) eNil))))) (sRet (eC (.bl false))) sNext)
    (sIf (tAndB (tNotB (eTru (eIsiC aP (eVar 3)))) (eBool (eBin gNe (eCall (g1 reprS) (eCons (eVar 3) eNil)) (eVar 6)))) (sRet (eC (.bl false))) sNext))))
    (fun ρ M => ∃ y7 y8, ρ = [x0, x1, x2, some (.dt d), some (.dt (.int most)), some (.dt (.lst (due d most))), some (.dt (.str x)), y7, y8, x9] ∧ M = [B]) (by simp [isRange_of]) (isSrc_rng 0 2) ⟨x7, x8, rfl, rfl⟩ (by
      rintro z hz ρ M ⟨y7, y8, rfl, rfl⟩
      refine ⟨_, rfl, [x0, x1, x2, some (.dt d), some (.dt (.int most)), some (.dt (.lst (due d most))), some (.dt (.str x)), some z, some (.dt (.lst (due d most))), x9], [B], ?_, some z, some (.dt (.lst (due d most))), rfl, rfl⟩
      unfold due at e6
      rcases hx with ⟨h1, h2⟩ | ⟨h1, h2⟩
      · simp [eVar, e1, e2, e3, e4, e5, e6, h1, h2, due]
      · simp [eVar, e1, e2, e3, e4, e5, e6, h1, h2, due])
  exact ⟨y7, y8, e⟩

def bodyL : SM := (sSeq (sSet 4 (eFn (tab aF aP 9 i__law_take) (eCons (eVar 1) (eCons (eC (.int 10)) eNil))))
    (sSeq (sSet 5 (eLst (eCons (eFn (tab aF aP 9 i__law_is_integer) (eCons (eVar 3) eNil)) (eCons (eFn (tab aF aP 9 i__law_is_name) (eCons (eVar 3) eNil)) (eCons (eFn (tab aF aP 9 i__law_is_address) (eCons (eVar 3) eNil)) eNil)))))
    (sSeq (sSet 5 (eBin gAdd (eVar 5) (eLst (eCons (eFn (tab aF aP 9 i__law_are_names) (eCons (eVar 3) (eCons (eVar 4) eNil))) (eCons (eFn (tab aF aP 9 i__law_are_choices) (eCons (eVar 3) eNil)) eNil)))))
    (sSeq (sSet 6 (eIf (tNotB (eTru (eIsiC aP (eVar 3)))) (eCall (g1 reprS) (eCons (eVar 3) eNil)) (eC (.str (Str.ofString "")))))
    (inner aF aP)))))
def InvL (ρ : Dy.Env) (M : MS) : Prop := ∃ x0 x2 x3 x4 x5 x6 x7 x8 x9 B, ρ = [x0, some (.mu 0), x2, x3, x4, x5, x6, x7, x8, x9] ∧ M = [B] ∧ BagO B
theorem body_ok {d : D} (h : Itm aP d) (ρ : Dy.Env) (M : MS) (hI : InvL ρ M) : ∃ ρ1, bName 3 (.dt d) ρ = some ρ1 ∧ ∃ ρ2 M2, bodyL aF aP ρ1 M = some (.nx ρ2 M2) ∧ InvL ρ2 M2 := by
  obtain ⟨x0, x2, x3, x4, x5, x6, x7, x8, x9, B, rfl, rfl, hB⟩ := hI
  refine ⟨_, rfl, ?_⟩
  obtain ⟨most, B1, e0, hB1, h0, h1⟩ := take_tab aF aP 8 (R := []) hB (n := 10) (by decide) (by decide)
  have e0 : tab aF aP 9 i__law_take [.mu 0, .dt (.int 10)] [B] = _ := e0
  have e1 : tab aF aP 9 i__law_is_integer [.dt d] [B1] = _ := law_is_integer_ok aF aP 8 d [B1] h.f.p
  have e2 : tab aF aP 9 i__law_is_name [.dt d] [B1] = _ := law_is_name_ok aF aP 8 d [B1] h.f.p h.f.s
  have e3 : tab aF aP 9 i__law_is_address [.dt d] [B1] = _ := law_is_address_ok aF aP 7 d [B1] h.f.p h.f.t
  have e4 : tab aF aP 9 i__law_are_names [.dt d, .dt (.int most)] [B1] = _ := law_are_names_ok aF aP 7 d most [B1] h.f.q
  have e5 : tab aF aP 9 i__law_are_choices [.dt d] [B1] = _ := law_are_choices_ok aF aP 8 d [B1] h.f.q
  obtain ⟨x, hx⟩ := shown_ok aP h [B1]
  obtain ⟨y7, y8, e⟩ := inner_ok aF aP h hx most x0 (some (.mu 0)) x2 x7 x8 x9
  refine ⟨_, _, ?_, x0, x2, some (.dt d), some (.dt (.int most)), some (.dt (.lst (due d most))), some (.dt (.str x)), y7, y8, x9, B1, rfl, rfl, hB1⟩
  unfold bodyL
  unfold due at e
  rcases hx with ⟨h1, h2⟩ | ⟨h1, h2⟩
  · simp [eVar, e0, e1, e2, e3, e4, e5, h1, h2, gAdd, e, due]
  · subst h2
    simp [eVar, e0, e1, e2, e3, e4, e5, h1, gAdd, e, due]
theorem val_reps (n : Nat) (hn : n ≤ 19000) (d : D) (h1 : elB d = true) (h2 : goodD d = true) (h3 : swt d ≤ 40) (h4 : dep d = 0) : Val (.lst (List.replicate n d)) := by
  have hi : ∀ x ∈ List.replicate n d, x = d := fun x hx => (List.mem_replicate.mp hx).2
  refine ⟨rfl, trivial, ?_, fun x hx => by rw [hi x hx]; exact h1, Nat.zero_le _, (fun C z => by cases z), ?_, ?_, ?_⟩
  · show (List.replicate n d).length ≤ _
    rw [List.length_replicate]
    omega
  · show goodL (List.replicate n d) = true
    exact goodL_of fun x hx => by rw [hi x hx]; exact h2
  · have := swtL_of (ds := List.replicate n d) (n := 40) fun x hx => by rw [hi x hx]; exact h3
    rw [List.length_replicate] at this
    show swtL (List.replicate n d) + 3 ≤ _
    have h5 : n * (40 + 2) ≤ 19000 * 42 := Nat.mul_le_mul_right _ hn
    omega
  · have := depL_of (ds := List.replicate n d) (n := 0) fun x hx => by rw [hi x hx]; omega
    show depL (List.replicate n d) + 1 ≤ _
    omega
theorem rep_one {α : Type} (n : Nat) (x : α) : (List.replicate n [x]).flatten = List.replicate n x := by
  induction n with
  | zero => rfl
  | succ n ih => simp [List.replicate_succ, ih]
theorem gMul_rep (M : MS) (d : D) (n : Nat) (h : n ≤ 100000) : gMul M (.dt (.lst [d])) (.dt (.int n)) = some (.fr (List.replicate n d)) := by
  unfold gMul
  simp [repD, rep_one]
  omega
theorem reps_ok (M : MS) (n : Nat) (hn : n ≤ 19000) (d : D) (h1 : elB d = true) (h2 : goodD d = true) (h3 : swt d ≤ 40) (h4 : dep d = 0) : ∃ L, gMul M (.dt (.lst [d])) (.dt (.int n)) = some (.fr L) ∧ Val (.lst L) :=
  ⟨_, gMul_rep M d n (by omega), val_reps n hn d h1 h2 h3 h4⟩
theorem nones_ok (M : MS) : ∃ L, gMul M (.dt (.lst [.non])) (.dt (.int 19000)) = some (.fr L) ∧ Val (.lst L) := reps_ok M 19000 (Nat.le_refl _) .non rfl rfl (by simp [swt]) (by simp [dep])
theorem yeses_ok (M : MS) : ∃ L, gMul M (.dt (.lst [.str (Str.ofString "yes")])) (.dt (.int 200)) = some (.fr L) ∧ Val (.lst L) := reps_ok M 200 (by omega) (.str (Str.ofString "yes")) (by decide +kernel) (by decide +kernel) (by decide +kernel) (by simp [dep])
theorem main (ns : List Int) (hl : ns.length ≤ 63) : tab aF aP 10 i_law [.dt (.scr ns)] [] = some (.sv (.dt (.bl true)), []) := by
  show runBody (m_law (tab aF aP 9) aF aP) 10 [.dt (.scr ns)] [] = _
  rw [runBody_eq]
  unfold m_law
  obtain ⟨cells, eb, hB⟩ := bag_ok hl []
  have eb : tab aF aP 9 i__law_bag [.dt (.scr ns)] [] = _ := eb
  obtain ⟨ds, B2, e2, hB2, hd, hlen⟩ := comp_draw (ms := eRng1 (eCons (eC (.int 20)) eNil)) (j := 9)
    (el := eFn (tab aF aP 9 i__law_some) (eCons (eVar 1) eNil)) (ρ := [some (.dt (.scr ns)), some (.mu 0), none, none, none, none, none, none, none, none]) (M := [bagL 0 1234567891 0 cells]) (lo := 0) (n := 20) (B := bagL 0 1234567891 0 cells) (R := [])
    (fun d => Val d) (by simp [isRange_of]) hB (by omega) (fun i hi B hB => by
      obtain ⟨r, d, B', e, er, hv, hB'⟩ := some_ok aF aP 6 (R := []) hB
      have e : tab aF aP 9 i__law_some [.mu 0] [B] = _ := e
      exact ⟨r, d, B', by simp [eVar, e], er, hv, hB'⟩)
  have em : ∀ ρ, eMake aP (tab aF aP 9 i_Program___init__) (eCons (eLst eNil) (eCons (eLst eNil) eNil)) ρ [B2] = some (.sv (.dt (.obj aP)), [B2]) := fun ρ => make_ok aF aP 5 [B2] ρ
  obtain ⟨LA, g1', v1⟩ := nones_ok [B2]
  obtain ⟨LB, g2', v2⟩ := yeses_ok [B2]
  obtain ⟨src, es, hs⟩ := isSrc_lst (M := [B2]) (ds := ds ++ [.lst LA, .lst LB, .obj aP])
  obtain ⟨ρ', M', ef, hI⟩ := for_inv (ms := eSeq (eVar 2)) (b := bName 3) (body := bodyL aF aP) (ρ := [some (.dt (.scr ns)), some (.mu 0), some (.dt (.lst (ds ++ [.lst LA, .lst LB, .obj aP]))), none, none, none, none, none, none, none]) (M := [B2]) (M0 := [B2])
    InvL (by simp [eVar, es]) hs ⟨_, _, _, _, _, _, _, _, _, B2, rfl, rfl, hB2⟩ (by
      intro x hx ρ M hI
      rw [List.mem_map] at hx
      obtain ⟨d, hd2, rfl⟩ := hx
      refine body_ok aF aP ?_ ρ M hI
      rcases List.mem_append.mp hd2 with h | h
      · exact ⟨(hd d h).five, .inl (hd d h)⟩
      · simp only [List.mem_cons, List.not_mem_nil, or_false] at h
        rcases h with rfl | rfl | rfl
        · exact ⟨v1.five, .inl v1⟩
        · exact ⟨v2.five, .inl v2⟩
        · exact ⟨five_obj _, .inr rfl⟩)
  obtain ⟨x0, x2, x3, x4, x5, x6, x7, x8, x9, B', rfl, rfl, hB'⟩ := hI
  have hn : sNew 1 (eFn (tab aF aP 9 i__law_bag) (eCons (eVar 0) eNil)) [some (.dt (.scr ns)), none, none, none, none, none, none, none, none, none] [] = some (.nx [some (.dt (.scr ns)), some (.mu 0), none, none, none, none, none, none, none, none] [bagL 0 1234567891 0 cells]) := by
    rw [sNew_fr (ds := [.int 0, .int 1234567891, .int 0, .lst (cells.map .int)]) (M' := []) (by simp [eVar, eb])]
    rfl
  unfold bodyL inner at ef
  have hz : ds.length + 3 ≤ 16777216 := by omega
  simp only [List.map_cons, List.map_nil, List.length_cons, List.length_nil, List.cons_append, List.nil_append, List.replicate_succ, List.replicate_zero, sSeq_ev, hn, outB_nx]
  simp [eVar, e2, g1', g2', em, gAdd, hz, ef]
end
end K11

set_option Elab.async false
set_option linter.all false
set_option maxRecDepth 100000
set_option maxHeartbeats 0
namespace K11
open PySem PySem.Spec PyProof.Rows L2 Dy
abbrev R : PySem.W.OpenRow := PySem.W.OpenLaw.row PySem.Challenge.rw_movedchecks_k11_kinds
abbrev hk : PySem.W.Hook := hookX 5 chk fn
def ob (s : PySem.W.SharedT) : He.AlD := obsX 5 chk fn (HandSHeadRun.getT s)
theorem ob_eq (s : PySem.W.SharedT) : ob s = hk.obs s.abs := obsX_eq (HandSHeadRun.getT_eq s)
theorem run (w : PySem.World) : HandSHeadRun.RunEq R (PySem.W.view R.prog [65]) hk ob 8000 loose w := by
  intro os
  kernel_rfl
end K11

set_option Elab.async false
set_option linter.all false
set_option maxRecDepth 100000
set_option maxHeartbeats 0
namespace K11
end K11
open PySem PySem.W PySem.Calls PyProof.Rows
theorem PySem.Challenge.cw_movedchecks_k11_kinds_holds : PySem.Challenge.rw_movedchecks_k11_kinds.Holds := by
  w_on; o_law
  refine HandSHeadRun.head_any (r := OpenLaw.row PySem.Challenge.rw_movedchecks_k11_kinds) (q := view (OpenLaw.row PySem.Challenge.rw_movedchecks_k11_kinds).prog [65]) (H := K11.hk) (ob := K11.ob) (M := 8000) (loose := K11.loose) (d := HandSHeadRun.topDef (OpenLaw.row PySem.Challenge.rw_movedchecks_k11_kinds).prog 65) (kwd := []) K11.ob_eq
    (by kernel_rfl) (fun s => by kernel_rfl) K11.run (by kernel_rfl) (by kernel_rfl) (by kernel_rfl) (by rfl) (by first | assumption | decide +kernel) (by decide +kernel) ⟨rfl, rfl, rfl, rfl, rfl, by decide +kernel⟩ ?hw ?hc
  case hw => w_witness2
  case hc =>
    refine Dy.walk_end (l := PySem.Challenge.rw_movedchecks_k11_kinds) (n := 63) (k := 2 * 10) (x := "_law_script") (CX := L2.CX0) rfl (by decide) (by kernel_rfl) ⟨rfl, by decide, by decide⟩ ?F (fun _ _ _ _ z => z)
    intro w mg fa h Y G hmg0
    obtain ⟨K, KX, c⟩ := Y
    have hmg : mg ("law" : PySem.Str) = some (.ref fa) := by
      have e : (HandSHeadRun.topDef (OpenLaw.row PySem.Challenge.rw_movedchecks_k11_kinds).prog 65).name = ("law" : PySem.Str) := by kernel_rfl
      rw [← e]
      exact hmg0
    obtain ⟨fds, FD⟩ := c.all
    have Gx := K11.Gs.of KX G c.yes
    have e := hmg.symm.trans Gx.gl_law
    cases e
    exact ⟨K, fds 0, _, KX, fun s u => (FD 0 K11.d_law rfl).bindsA (ps := K11.p_law) (fun _ _ _ _ _ _ us hl => match us, hl with | [_], _ => rfl) s [u] rfl, fun H a ns hl _ hS => Dy.law_sp hS (K11.main _ _ ns hl), fun base _ _ => (K11.fns Gx FD 10).d_law.ok⟩
