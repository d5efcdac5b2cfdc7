import PyProof.Rows.All
import Wide.All
import OpenK.AllK
import Wide.FinOn
import HandS.ForMost
import HandS.Flow
import HandS.IsInst
import HandS.TupAny
import HandS.TupMul
import HandS.Style
import HandS.Deep
import HandS.NoneIn
import HandS.Iter
import KE.GoesEnum
import HandS.Zip
import HandS.Conv
import HandS.More
import HandS.RaiseMore
import HandS.HeadEnd
import HandS.Defaults
import HandS.Head0
import HandS.Head1
import HandS.Head2
import HandS.HeadHook1
import HandS.HeadHook2
import HandS.Strs
import HandS.SortKw
import HandS.Comp
import HandS.DictComp
import KE.SortCalls
import KE.SortData
import PyProof.P3Eq
import KE.KStateDown
import KE.DataEq
import PySem.Challenge.RW_movedchecks_k24_results
set_option Elab.async false
set_option linter.all false
set_option maxRecDepth 100000
set_option maxHeartbeats 4000000
/-! Layer Dy, part 1: plain data over the hand layer. -/
namespace Dy
open PySem L2

/-- a plain datum -/
inductive D where
  | non | bl (b : Bool) | int (i : Int) | str (s : Str)
  | lst (xs : List D) | tup (xs : List D)
  | dct (ks : List Key) (vs : List D)
  | ins (C : Addr) (ns : List Str) (vs : List D)
  | scr (ns : List Int)
  | obj (C : Addr)

def tysB : List String := ["int", "str", "bool", "list", "tuple", "dict"]
/-- an own class whose instances are no built-in things -/
structure ObjC (K : PySem.W.Frag) (C : Addr) : Prop where
  cl : Cls K C
  ha : PySem.W.findIn K (.ref C) "__class__" = some (some (.builtin "object.__class__"))
  hn : PySem.W.specialIn K (.builtin "object.__class__") "__get__" = some (some (.builtin "getset_descriptor.__get__"))
  htk : PySem.W.takesIn K (.builtin "object.__class__") = some true
  hm : PySem.W.mroIn K C (.type "object") = some true
  no : ∀ T ∈ tysB, PySem.W.kitOne K (.ref C) (.type T) = some false
mutual
/-- the value v is the datum d in the heap H -/
inductive Rp (K : PySem.W.Frag) (H : Hp) : V → D → Prop
  | non : Rp K H .non .non
  | bl (b : Bool) : Rp K H (.bl b) (.bl b)
  | int (i : Int) : Rp K H (.int i) (.int i)
  | str (x : Str) : Rp K H (.str x) (.str x)
  | lst {a : Addr} {xs : List V} {ds : List D} : H a = some (.lst xs) → RpA K H xs ds → Rp K H (.ref a) (.lst ds)
  | tup {a : Addr} {xs : List V} {ds : List D} : SqT K H a xs → RpA K H xs ds → Rp K H (.ref a) (.tup ds)
  | dct {a : Addr} {kvs : List (Key × V)} {ks : List Key} {xs : List V} {ds : List D} : H a = some (.dK kvs) → kvs.map (·.1) = ks → kvs.map (·.2) = xs → RpA K H xs ds → Rp K H (.ref a) (.dct ks ds)
  | ins {a C dx : Addr} {fs : List (Str × V)} {ns : List Str} {xs : List V} {ds : List D} : H a = some (.ins C dx fs) → fs.map (·.1) = ns → fs.map (·.2) = xs → RpA K H xs ds → Rp K H (.ref a) (.ins C ns ds)
  | scr {a : Addr} {ns : List Int} : SqL K H a (ns.map V.int) → Rp K H (.ref a) (.scr ns)
  | obj {a C dx : Addr} {fs : List (Str × V)} : H a = some (.ins C dx fs) → ObjC K C → Rp K H (.ref a) (.obj C)
inductive RpA (K : PySem.W.Frag) (H : Hp) : List V → List D → Prop
  | nil : RpA K H [] []
  | cons {v : V} {vs : List V} {d : D} {ds : List D} : Rp K H v d → RpA K H vs ds → RpA K H (v :: vs) (d :: ds)
end

theorem same_rd {H H' : Hp} {a : Addr} {u : HO} (e : Same H H') (h : Rd H a u) : Rd H' a u := by
  rcases h with h | ⟨o, h⟩
  · exact Or.inl (e a _ h)
  · exact Or.inr ⟨o, e a _ h⟩
theorem same_l {K : PySem.W.Frag} {H H' : Hp} {a : Addr} {xs : List V} (e : Same H H') (h : SqL K H a xs) : SqL K H' a xs := by
  rcases h with h | h
  · exact Or.inl (same_rd e h)
  · exact Or.inr h
theorem same_t {K : PySem.W.Frag} {H H' : Hp} {a : Addr} {xs : List V} (e : Same H H') (h : SqT K H a xs) : SqT K H' a xs := by
  rcases h with h | h
  · exact Or.inl (same_rd e h)
  · exact Or.inr h
section
variable {K : PySem.W.Frag} {H H' : Hp}
mutual
theorem Rp.mono (e : Same H H') : ∀ {v : V} {d : D}, Rp K H v d → Rp K H' v d
  | _, _, .non => .non
  | _, _, .bl b => .bl b
  | _, _, .int i => .int i
  | _, _, .str x => .str x
  | _, _, .lst h a => .lst (e _ _ h) (RpA.mono e a)
  | _, _, .tup h a => .tup (same_t e h) (RpA.mono e a)
  | _, _, .dct h k x a => .dct (e _ _ h) k x (RpA.mono e a)
  | _, _, .ins h k x a => .ins (e _ _ h) k x (RpA.mono e a)
  | _, _, .scr h => .scr (same_l e h)
  | _, _, .obj h c => .obj (e _ _ h) c
theorem RpA.mono (e : Same H H') : ∀ {vs : List V} {ds : List D}, RpA K H vs ds → RpA K H' vs ds
  | _, _, .nil => .nil
  | _, _, .cons h t => .cons (Rp.mono e h) (RpA.mono e t)
end
theorem RpA.length : ∀ {vs : List V} {ds : List D}, RpA K H vs ds → vs.length = ds.length
  | _, _, .nil => rfl
  | _, _, .cons _ t => congrArg (· + 1) (RpA.length t)
theorem RpA.get : ∀ {vs : List V} {ds : List D} {i : Nat} {d : D}, RpA K H vs ds → ds[i]? = some d → ∃ v, vs[i]? = some v ∧ Rp K H v d
  | _, _, _, _, .nil, e => by simp at e
  | _, _, 0, _, .cons r _, e => by simp at e; subst e; exact ⟨_, rfl, r⟩
  | _, _, i + 1, d, .cons _ t, e => by
    obtain ⟨u, h1, h2⟩ := RpA.get (i := i) (d := d) t (by simpa using e)
    exact ⟨u, by simpa using h1, h2⟩
theorem RpA.getV : ∀ {vs : List V} {ds : List D} {i : Nat} {v : V}, RpA K H vs ds → vs[i]? = some v → ∃ d, ds[i]? = some d ∧ Rp K H v d
  | _, _, _, _, .nil, e => by simp at e
  | _, _, 0, _, .cons r _, e => by simp at e; subst e; exact ⟨_, rfl, r⟩
  | _, _, i + 1, d, .cons _ t, e => by
    obtain ⟨u, h1, h2⟩ := RpA.getV (i := i) (v := d) t (by simpa using e)
    exact ⟨u, by simpa using h1, h2⟩
theorem RpA.append : ∀ {vs us : List V} {ds es : List D}, RpA K H vs ds → RpA K H us es → RpA K H (vs ++ us) (ds ++ es)
  | _, _, _, _, .nil, s => s
  | _, _, _, _, .cons r t, s => .cons r (RpA.append t s)
theorem RpA.take : ∀ {vs : List V} {ds : List D} (n : Nat), RpA K H vs ds → RpA K H (vs.take n) (ds.take n)
  | _, _, 0, _ => .nil
  | _, _, _ + 1, .nil => .nil
  | _, _, n + 1, .cons r t => .cons r (RpA.take n t)
theorem RpA.drop : ∀ {vs : List V} {ds : List D} (n : Nat), RpA K H vs ds → RpA K H (vs.drop n) (ds.drop n)
  | _, _, 0, r => r
  | _, _, _ + 1, .nil => .nil
  | _, _, n + 1, .cons _ t => RpA.drop n t
theorem RpA.set {v : V} {d : D} (r : Rp K H v d) : ∀ {vs : List V} {ds : List D} (i : Nat), RpA K H vs ds → RpA K H (vs.set i v) (ds.set i d)
  | _, _, _, .nil => .nil
  | _, _, 0, .cons _ t => .cons r t
  | _, _, i + 1, .cons q t => .cons q (RpA.set r i t)
theorem RpA.eraseIdx : ∀ {vs : List V} {ds : List D} (i : Nat), RpA K H vs ds → RpA K H (vs.eraseIdx i) (ds.eraseIdx i)
  | _, _, _, .nil => .nil
  | _, _, 0, .cons _ t => t
  | _, _, i + 1, .cons q t => .cons q (RpA.eraseIdx i t)
end

/-! ### slots, the store of mutable things, results -/
/-- a slot's content: a datum, or a handle of a mutable thing -/
inductive SV where
  | dt (d : D) | mu (k : Nat)
/-- a mutable thing -/
inductive MO where
  | l (xs : List SV) | d (ks : List Key) (vs : List SV) | i (C : Addr) (ns : List Str) (vs : List D)
abbrev MS := List MO
/-- a result: a slot's content, a fresh list, a fresh dict -/
inductive R where
  | sv (s : SV) | fr (xs : List D) | fd (ks : List Key) (vs : List D)
abbrev Env := List (Option SV)
abbrev EM (α : Type) := Env → MS → Option (α × MS)
def R.toSV : R → SV
  | .sv s => s
  | .fr xs => .dt (.lst xs)
  | .fd ks vs => .dt (.dct ks vs)

def SVr (K : PySem.W.Frag) (Hk : Hp) (ls : List Addr) (n : Nat) (v : V) : SV → Prop
  | .dt d => Rp K Hk v d
  | .mu k => k < n ∧ ∃ l, ls[k]? = some l ∧ v = .ref l
inductive SVs (K : PySem.W.Frag) (Hk : Hp) (ls : List Addr) (n : Nat) : List V → List SV → Prop
  | nil : SVs K Hk ls n [] []
  | cons {v : V} {vs : List V} {s : SV} {ss : List SV} : SVr K Hk ls n v s → SVs K Hk ls n vs ss → SVs K Hk ls n (v :: vs) (s :: ss)
def MOr (K : PySem.W.Frag) (Hk H : Hp) (ls : List Addr) (k : Nat) (l : Addr) : MO → Prop
  | .l xs => ∃ vs, H l = some (.lst vs) ∧ SVs K Hk ls k vs xs
  | .d ks xs => ∃ kvs : List (Key × V), H l = some (.dK kvs) ∧ kvs.map (·.1) = ks ∧ SVs K Hk ls k (kvs.map (·.2)) xs
  | .i C ns xs => ∃ (dx : Addr) (fs : List (Str × V)), H l = some (.ins C dx fs) ∧ fs.map (·.1) = ns ∧ RpA K Hk (fs.map (·.2)) xs
structure World (K : PySem.W.Frag) (Hk H : Hp) (M : MS) (ls : List Addr) : Prop where
  sub : Same Hk H
  len : M.length = ls.length
  nd : ls.Nodup
  dj : ∀ l ∈ ls, Hk l = none
  ms : ∀ (k : Nat) (o : MO), M[k]? = some o → ∃ l, ls[k]? = some l ∧ MOr K Hk H ls k l o
/-- what an expression's run may change -/
structure Ext (ls : List Addr) (Hk H Hk' H' : Hp) : Prop where
  kk : Same Hk Hk'
  fr : ∀ a o, H a = some o → a ∉ ls → H' a = some o
  gr : ∀ a, Hk' a ≠ none → Hk a ≠ none ∨ H a = none
  st : ∀ a, H a ≠ none → H' a ≠ none
def EnvR (K : PySem.W.Frag) (Hk : Hp) (ls : List Addr) (σ : St) (ρ : Env) : Prop :=
  ρ.length = σ.length ∧ ∀ (i : Nat) (s : SV), ρ[i]? = some (some s) → ∃ v, σ[i]? = some (some v) ∧ SVr K Hk ls ls.length v s
/-- a result, from the heap H0 on -/
def Rr (K : PySem.W.Frag) (H0 Hk H : Hp) (ls : List Addr) (v : V) : R → Prop
  | .sv s => SVr K Hk ls ls.length v s
  | .fr ds => ∃ l vs, v = .ref l ∧ H0 l = none ∧ Hk l = none ∧ l ∉ ls ∧ H l = some (.lst vs) ∧ RpA K Hk vs ds
  | .fd ks ds => ∃ l kvs, v = .ref l ∧ H0 l = none ∧ Hk l = none ∧ l ∉ ls ∧ H l = some (.dK kvs) ∧ kvs.map (·.1) = ks ∧ RpA K Hk (kvs.map (·.2)) ds

section
variable {K : PySem.W.Frag} {Hk H Hk' H' Hk2 H2 : Hp} {M M' : MS} {ls : List Addr}
theorem Ext.refl (ls : List Addr) (Hk H : Hp) : Ext ls Hk H Hk H := ⟨fun _ _ h => h, fun _ _ h _ => h, fun _ h => .inl h, fun _ h => h⟩
theorem Ext.trans (a : Ext ls Hk H Hk' H') (b : Ext ls Hk' H' Hk2 H2) : Ext ls Hk H Hk2 H2 where
  kk := fun x o h => b.kk x o (a.kk x o h)
  fr := fun x o h hn => b.fr x o (a.fr x o h hn) hn
  gr := fun x h => by
    rcases b.gr x h with h | h
    · exact a.gr x h
    · right
      cases e : H x with
      | none => rfl
      | some o => exact absurd h (a.st x (by rw [e]; simp))
  st := fun x h => b.st x (a.st x h)
theorem SVr.mono {n : Nat} {v : V} {s : SV} (e : Same Hk Hk') (h : SVr K Hk ls n v s) : SVr K Hk' ls n v s := by
  cases s with
  | dt d => exact Rp.mono e h
  | mu k => exact h
theorem SVs.mono {n : Nat} (e : Same Hk Hk') : ∀ {vs : List V} {ss : List SV}, SVs K Hk ls n vs ss → SVs K Hk' ls n vs ss
  | _, _, .nil => .nil
  | _, _, .cons h t => .cons (h.mono e) (SVs.mono e t)
theorem SVs.length {n : Nat} : ∀ {vs : List V} {ss : List SV}, SVs K Hk ls n vs ss → vs.length = ss.length
  | _, _, .nil => rfl
  | _, _, .cons _ t => congrArg (· + 1) (SVs.length t)
theorem SVs.get {n : Nat} : ∀ {vs : List V} {ss : List SV} {i : Nat} {s : SV}, SVs K Hk ls n vs ss → ss[i]? = some s → ∃ v, vs[i]? = some v ∧ SVr K Hk ls n v s
  | _, _, _, _, .nil, e => by simp at e
  | _, _, 0, _, .cons r _, e => by simp at e; subst e; exact ⟨_, rfl, r⟩
  | _, _, i + 1, d, .cons _ t, e => by
    obtain ⟨u, h1, h2⟩ := SVs.get (i := i) (s := d) t (by simpa using e)
    exact ⟨u, by simpa using h1, h2⟩
theorem SVs.append {n : Nat} : ∀ {vs us : List V} {ss ts : List SV}, SVs K Hk ls n vs ss → SVs K Hk ls n us ts → SVs K Hk ls n (vs ++ us) (ss ++ ts)
  | _, _, _, _, .nil, s => s
  | _, _, _, _, .cons r t, s => .cons r (SVs.append t s)
theorem SVs.set {n : Nat} {v : V} {d : SV} (r : SVr K Hk ls n v d) : ∀ {vs : List V} {ds : List SV} (i : Nat), SVs K Hk ls n vs ds → SVs K Hk ls n (vs.set i v) (ds.set i d)
  | _, _, _, .nil => .nil
  | _, _, 0, .cons _ t => .cons r t
  | _, _, i + 1, .cons q t => .cons q (SVs.set r i t)
theorem SVs.eraseIdx {n : Nat} : ∀ {vs : List V} {ds : List SV} (i : Nat), SVs K Hk ls n vs ds → SVs K Hk ls n (vs.eraseIdx i) (ds.eraseIdx i)
  | _, _, _, .nil => .nil
  | _, _, 0, .cons _ t => t
  | _, _, i + 1, .cons q t => .cons q (SVs.eraseIdx i t)
theorem SVs.dropLast {n : Nat} : ∀ {vs : List V} {ds : List SV}, SVs K Hk ls n vs ds → SVs K Hk ls n vs.dropLast ds.dropLast
  | _, _, .nil => .nil
  | _, _, .cons r .nil => .nil
  | _, _, .cons r (.cons q t) => .cons r (SVs.dropLast (.cons q t))
theorem SVs.ofA {n : Nat} : ∀ {vs : List V} {ds : List D}, RpA K Hk vs ds → SVs K Hk ls n vs (ds.map .dt)
  | _, _, .nil => .nil
  | _, _, .cons r t => .cons r (SVs.ofA t)
/-- all items data -/
def allD : List SV → Option (List D)
  | [] => some []
  | .dt d :: r => match allD r with
    | some ds => some (d :: ds)
    | none => none
  | .mu _ :: _ => none
theorem allD_map (ds : List D) : allD (ds.map .dt) = some ds := by
  induction ds with
  | nil => rfl
  | cons d r ih => simp [allD, ih]
theorem SVs.toA {n : Nat} : ∀ {vs : List V} {ss : List SV} {ds : List D}, SVs K Hk ls n vs ss → allD ss = some ds → RpA K Hk vs ds
  | _, _, _, .nil, e => by cases e; exact .nil
  | _, _ :: ss, _, .cons (s := s) r t, e => by
    cases s with
    | mu k => cases e
    | dt d =>
      unfold allD at e
      cases h : allD ss with
      | none => rw [h] at e; cases e
      | some es =>
        rw [h] at e
        cases e
        exact .cons r (SVs.toA t h)
theorem EnvR.mono {σ : St} {ρ : Env} (e : Same Hk Hk') (h : EnvR K Hk ls σ ρ) : EnvR K Hk' ls σ ρ :=
  ⟨h.1, fun i s q => let ⟨v, a, b⟩ := h.2 i s q; ⟨v, a, b.mono e⟩⟩
theorem same_upd {l : Addr} {o : HO} (h : Hk l = none) : Same Hk (upd Hk l o) := fun b u e => by
  rw [upd_ne (ne_of_none e h)]
  exact e
theorem MOr.mono {k : Nat} {l : Addr} {o : MO} (e : Same Hk Hk') (h : MOr K Hk H ls k l o) : MOr K Hk' H ls k l o := by
  cases o with
  | l xs => obtain ⟨vs, a, b⟩ := h; exact ⟨vs, a, b.mono e⟩
  | d ks xs => obtain ⟨vs, a, b, c⟩ := h; exact ⟨vs, a, b, c.mono e⟩
  | i C ns xs => obtain ⟨dx, fs, a, b, c⟩ := h; exact ⟨dx, fs, a, b, RpA.mono e c⟩
/-- a thing that is known to nobody else is frozen -/
theorem World.freeze {l : Addr} {o : HO} (w : World K Hk H M ls) (hl : l ∉ ls) (h : H l = some o) (hn : Hk l = none) : World K (upd Hk l o) H M ls where
  sub := fun b u e => by
    by_cases hb : b = l
    · subst hb; rw [upd_same] at e; cases e; exact h
    · rw [upd_ne hb] at e; exact w.sub b u e
  len := w.len
  nd := w.nd
  dj := fun b hb => by
    have nb : b ≠ l := fun z => hl (z ▸ hb)
    rw [upd_ne nb]; exact w.dj b hb
  ms := fun k o e => let ⟨l, a, b⟩ := w.ms k o e; ⟨l, a, b.mono (same_upd hn)⟩
theorem Ext.freeze {H0 Hk0 : Hp} {l : Addr} {o : HO} (x : Ext ls Hk0 H0 Hk H) (h0 : H0 l = none) (hn : Hk l = none) : Ext ls Hk0 H0 (upd Hk l o) H where
  kk := fun b u e => same_upd hn b u (x.kk b u e)
  fr := x.fr
  gr := fun a h => by
    by_cases hb : a = l
    · subst hb; exact .inr h0
    · rw [upd_ne hb] at h; exact x.gr a h
  st := x.st
/-- a result becomes a slot's content -/
theorem Rr.freeze {H0 Hk0 : Hp} {v : V} {r : R} (w : World K Hk H M ls) (x : Ext ls Hk0 H0 Hk H) (h : Rr K H0 Hk H ls v r) :
    ∃ Hk', World K Hk' H M ls ∧ Ext ls Hk0 H0 Hk' H ∧ SVr K Hk' ls ls.length v r.toSV := by
  cases r with
  | sv s => exact ⟨Hk, w, x, h⟩
  | fr ds =>
    obtain ⟨l, vs, rfl, h0, hn, hl, hh, ha⟩ := h
    exact ⟨upd Hk l (.lst vs), w.freeze hl hh hn, x.freeze h0 hn, Rp.lst upd_same (RpA.mono (same_upd hn) ha)⟩
  | fd ks ds =>
    obtain ⟨l, kvs, rfl, h0, hn, hl, hh, hk, ha⟩ := h
    exact ⟨upd Hk l (.dK kvs), w.freeze hl hh hn, x.freeze h0 hn, Rp.dct upd_same hk rfl (RpA.mono (same_upd hn) ha)⟩
end

/-! ### the readings -/
def Res (K : PySem.W.Frag) (ls : List Addr) (Hk H : Hp) (r : R) (M' : MS) (Q : VK) : Prop :=
  ∀ v Hk' H', World K Hk' H' M' ls → Ext ls Hk H Hk' H' → Rr K H Hk' H' ls v r → Q v H'
def ResV (K : PySem.W.Frag) (ls : List Addr) (Hk H : Hp) (s : SV) (M' : MS) (Q : VK) : Prop :=
  ∀ v Hk' H', World K Hk' H' M' ls → Ext ls Hk H Hk' H' → SVr K Hk' ls ls.length v s → Q v H'
def tM (K : PySem.W.Frag) (m : EM R) : TE := fun σ H Q => ∃ Hk ls ρ M r M', World K Hk H M ls ∧ EnvR K Hk ls σ ρ ∧ m ρ M = some (r, M') ∧ Res K ls Hk H r M' Q
def tV (K : PySem.W.Frag) (m : EM SV) : TE := fun σ H Q => ∃ Hk ls ρ M r M', World K Hk H M ls ∧ EnvR K Hk ls σ ρ ∧ m ρ M = some (r, M') ∧ ResV K ls Hk H r M' Q
def tA (K : PySem.W.Frag) (m : EM (List SV)) : TA := fun σ H Q => ∃ Hk ls ρ M r M', World K Hk H M ls ∧ EnvR K Hk ls σ ρ ∧ m ρ M = some (r, M') ∧
  ∀ vs Hk' H', World K Hk' H' M' ls → Ext ls Hk H Hk' H' → SVs K Hk' ls ls.length vs r → Q vs H'
def tT (K : PySem.W.Frag) (m : EM Bool) : TT := fun σ H Q => ∃ Hk ls ρ M r M', World K Hk H M ls ∧ EnvR K Hk ls σ ρ ∧ m ρ M = some (r, M') ∧
  ∀ Hk' H', World K Hk' H' M' ls → Ext ls Hk H Hk' H' → Q r H'
abbrev PM (X : Cx) (e : Expr) (m : EM R) : Prop := PE X e (tM X.K m)
abbrev PV (X : Cx) (e : Expr) (m : EM SV) : Prop := PE X e (tV X.K m)
abbrev PAm (X : Cx) (es : List Expr) (m : EM (List SV)) : Prop := PA X es (tA X.K m)
abbrev PTm (X : Cx) (e : Expr) (m : EM Bool) : Prop := PT X e (tT X.K m)
theorem PE.imp {X : Cx} {e : Expr} {t u : TE} (h : PE X e t) (i : ∀ σ H Q, u σ H Q → t σ H Q) : PE X e u := ⟨fun pins s σ H Q I q => h.run pins s σ H Q I (i σ H Q q)⟩
theorem PT.imp {X : Cx} {e : Expr} {t u : TT} (h : PT X e t) (i : ∀ σ H Q, u σ H Q → t σ H Q) : PT X e u := ⟨fun pins s σ H Q I q => h.run pins s σ H Q I (i σ H Q q)⟩
theorem PA.imp {X : Cx} {e : List Expr} {t u : TA} (h : PA X e t) (i : ∀ σ H Q, u σ H Q → t σ H Q) : PA X e u := ⟨fun pos pins s σ H Q I q => h.run pos pins s σ H Q I (i σ H Q q)⟩
theorem PS.imp {X : Cx} {e : Stmt} {t u : TS} (h : PS X e t) (i : ∀ D σ H, u D σ H → t D σ H) : PS X e u := ⟨fun pins s σ H D I q => h.run pins s σ H D I (i D σ H q)⟩
theorem PSs.imp {X : Cx} {e : List Stmt} {t u : TS} (h : PSs X e t) (i : ∀ D σ H, u D σ H → t D σ H) : PSs X e u := ⟨fun pins s σ H D I q => h.run pins s σ H D I (i D σ H q)⟩

/-! ### mirrors' combinators -/
def EM.ret {α : Type} (a : α) : EM α := fun _ M => some (a, M)
def EM.seq {α β : Type} (m : EM α) (f : α → EM β) : EM β := fun ρ M => match m ρ M with
  | some (a, M') => f a ρ M'
  | none => none
/-- a result taken as a slot's content -/
def fz (m : EM R) : EM SV := m.seq fun r => EM.ret r.toSV
def sv (m : EM SV) : EM R := m.seq fun s => EM.ret (.sv s)
theorem seq_some {α β : Type} {m : EM α} {f : α → EM β} {ρ : Env} {M : MS} {z : β × MS} (h : m.seq f ρ M = some z) : ∃ a M', m ρ M = some (a, M') ∧ f a ρ M' = some z := by
  unfold EM.seq at h
  cases e : m ρ M with
  | none => rw [e] at h; cases h
  | some p =>
    obtain ⟨a, M'⟩ := p
    rw [e] at h
    exact ⟨a, M', rfl, h⟩
theorem PM.v {X : Cx} {e : Expr} {m : EM R} (h : PM X e m) : PV X e (fz m) := PE.imp h fun σ H Q ⟨Hk, ls, ρ, M, r, M', w, en, hm, q⟩ => by
  obtain ⟨a, M1, h1, h2⟩ := seq_some hm
  cases h2
  refine ⟨Hk, ls, ρ, M, a, _, w, en, h1, fun v Hk1 H1 w1 x1 r1 => ?_⟩
  obtain ⟨Hk2, w2, x2, s2⟩ := r1.freeze w1 x1
  exact q v Hk2 H1 w2 x2 s2
theorem PV.m {X : Cx} {e : Expr} {m : EM SV} (h : PV X e m) : PM X e (sv m) := PE.imp h fun σ H Q ⟨Hk, ls, ρ, M, r, M', w, en, hm, q⟩ => by
  obtain ⟨a, M1, h1, h2⟩ := seq_some hm
  cases h2
  exact ⟨Hk, ls, ρ, M, a, _, w, en, h1, fun v Hk1 H1 w1 x1 r1 => q v Hk1 H1 w1 x1 r1⟩

/-! ### names, constants -/
def eVar (i : Nat) : EM R := fun ρ M => match ρ[i]? with
  | some (some s) => some (.sv s, M)
  | _ => none
def eC (d : D) : EM R := EM.ret (.sv (.dt d))
section
variable {X : Cx} {a b c e : Expr} {es : List Expr} {ma mb mc m : EM R} {pos : Pos}
theorem eVar_some {i : Nat} {ρ : Env} {M : MS} {z : R × MS} (h : eVar i ρ M = some z) : ∃ s, ρ[i]? = some (some s) ∧ z = (.sv s, M) := by
  unfold eVar at h
  split at h
  · rename_i s hs
    cases h
    exact ⟨s, hs, rfl⟩
  · cases h
theorem pm_var {i : Nat} {e : Expr} (h : PE X e (tVar i)) : PM X e (eVar i) := PE.imp h fun σ H Q ⟨Hk, ls, ρ, M, r, M', w, en, hm, q⟩ => by
  obtain ⟨s, hs, e⟩ := eVar_some hm
  cases e
  obtain ⟨v, hv, hr⟩ := en.2 i s hs
  exact ⟨v, hv, q v Hk H w (Ext.refl _ _ _) hr⟩
theorem pm_const {v : V} {d : D} (h : PE X e (tC v)) (hr : ∀ H, Rp X.K H v d) : PM X e (eC d) := PE.imp h fun σ H Q ⟨Hk, ls, ρ, M, r, M', w, en, hm, q⟩ => by
  cases hm
  exact q v Hk H w (Ext.refl _ _ _) (hr Hk)
theorem pm_int {i : Int} {j} : PM X (.Constant (.int i) j pos) (eC (.int i)) := pm_const pe_int fun _ => .int i
theorem pm_bl {i : Bool} {j} : PM X (.Constant (.bool i) j pos) (eC (.bl i)) := pm_const pe_bl fun _ => .bl i
theorem pm_non {j} : PM X (.Constant .none j pos) (eC .non) := pm_const pe_non fun _ => .non
theorem pm_str {x : Str} {j} : PM X (.Constant (.str x) j pos) (eC (.str x)) := pm_const pe_str fun _ => .str x

/-! ### argument lists -/
def eNil : EM (List SV) := EM.ret []
def eCons (m : EM R) (ms : EM (List SV)) : EM (List SV) := (fz m).seq fun s => ms.seq fun ss => EM.ret (s :: ss)
theorem pam_nil : PAm X [] eNil := PA.imp pa_nil fun σ H Q ⟨Hk, ls, ρ, M, r, M', w, en, hm, q⟩ => by
  cases hm
  exact q [] Hk H w (Ext.refl _ _ _) .nil
theorem pam_cons {ms : EM (List SV)} (h : PM X e m) (hs : PAm X es ms) (hst : starEach (e :: es) X.env = (false, eval e X.env) :: starEach es X.env := by rfl) : PAm X (e :: es) (eCons m ms) :=
  PA.imp (pa_cons (PM.v h) hs hst) fun σ H Q ⟨Hk, ls, ρ, M, r, M', w, en, hm, q⟩ => by
  obtain ⟨s, M1, h1, h2⟩ := seq_some hm
  obtain ⟨ss, M2, h3, h4⟩ := seq_some h2
  cases h4
  refine ⟨Hk, ls, ρ, M, s, M1, w, en, h1, fun v Hk1 H1 w1 x1 r1 => ?_⟩
  refine ⟨Hk1, ls, ρ, M1, ss, _, w1, en.mono x1.kk, h3, fun vs Hk2 H2 w2 x2 r2 => ?_⟩
  exact q (v :: vs) Hk2 H2 w2 (x1.trans x2) (.cons (r1.mono x2.kk) r2)

/-! ### two operands -/
/-- an operation by values keeps to a function of slots' contents -/
def OpD (K : PySem.W.Frag) (r : R2) (g : MS → SV → SV → Option R) : Prop := ∀ (Hk H : Hp) (M : MS) (ls : List Addr) (x y : V) (s t : SV) (z : R) (Q : VK), World K Hk H M ls → SVr K Hk ls ls.length x s → SVr K Hk ls ls.length y t → g M s t = some z → Res K ls Hk H z M Q → r x y H Q
def eBin (g : MS → SV → SV → Option R) (ma mb : EM R) : EM R := (fz ma).seq fun s => (fz mb).seq fun t => fun _ M => match g M s t with
  | some z => some (z, M)
  | none => none
theorem ebin_go {r : R2} {g : MS → SV → SV → Option R} (hd : OpD X.K r g) : ∀ σ H Q, tM X.K (eBin g ma mb) σ H Q → tOp r (tV X.K (fz ma)) (tV X.K (fz mb)) σ H Q := fun σ H Q ⟨Hk, ls, ρ, M, z, M', w, en, hm, q⟩ => by
  obtain ⟨s, M1, h1, h2⟩ := seq_some hm
  obtain ⟨t, M2, h3, h4⟩ := seq_some h2
  refine ⟨Hk, ls, ρ, M, s, M1, w, en, h1, fun v Hk1 H1 w1 x1 r1 => ?_⟩
  refine ⟨Hk1, ls, ρ, M1, t, M2, w1, en.mono x1.kk, h3, fun u Hk2 H2 w2 x2 r2 => ?_⟩
  cases hg : g M2 s t with
  | none => rw [hg] at h4; cases h4
  | some z' =>
    rw [hg] at h4
    cases h4
    refine hd Hk2 H2 _ ls v u s t _ Q w2 (r1.mono x2.kk) r2 hg fun y Hk3 H3 w3 x3 r3 => ?_
    refine q y Hk3 H3 w3 ((x1.trans x2).trans x3) ?_
    exact rr_back (x1.trans x2) r3
where
  rr_back {K : PySem.W.Frag} {ls : List Addr} {H0 Hk0 H1 Hk1 H2 Hk2 : Hp} {v : V} {r : R} (x : Ext ls Hk0 H0 Hk1 H1) (h : Rr K H1 Hk2 H2 ls v r) : Rr K H0 Hk2 H2 ls v r := by
    have back : ∀ l, H1 l = none → H0 l = none := fun l h => by
      cases e : H0 l with
      | none => rfl
      | some o => exact absurd h (x.st l (by rw [e]; simp))
    cases r with
    | sv s => exact h
    | fr ds => obtain ⟨l, vs, a, b, c⟩ := h; exact ⟨l, vs, a, back l b, c⟩
    | fd ks ds => obtain ⟨l, vs, a, b, c⟩ := h; exact ⟨l, vs, a, back l b, c⟩
theorem pm_bin {op : Operator} {r : R2} {g : MS → SV → SV → Option R} (ho : OpR X (binaryOp op) r) (hd : OpD X.K r g) (ha : PM X a ma) (hb : PM X b mb) : PM X (.BinOp a op b pos) (eBin g ma mb) :=
  PE.imp (pe_op ho (PM.v ha) (PM.v hb)) (ebin_go hd)
theorem pm_cmp {op : CmpOp} {r : R2} {g : MS → SV → SV → Option R} (ho : OpR X (compareOp op) r) (hd : OpD X.K r g) (ha : PM X a ma) (hb : PM X b mb) (hm : behindInMarks op b = false := by first | exact nomark _ | rfl) : PM X (.Compare a [op] [b] pos) (eBin g ma mb) :=
  PE.imp (pe_cmpR ho (PM.v ha) (PM.v hb) hm) (ebin_go hd)
theorem pm_ix {r : R2} {g : MS → SV → SV → Option R} (ho : IxR X r) (hd : OpD X.K r g) (ha : PM X a ma) (hb : PM X b mb) (hs : PlainIx b := by exact fun _ _ => rfl) : PM X (.Subscript a b pos) (eBin g ma mb) :=
  PE.imp (pe_ix ho (PM.v ha) (PM.v hb) hs) (ebin_go hd)
end
end Dy

set_option Elab.async false
set_option linter.all false
set_option maxRecDepth 100000
set_option maxHeartbeats 4000000
namespace Dy
open PySem L2

/-! ### looking at a slot's content -/
def peeks (f : SV → Option D) : List SV → Option (List D)
  | [] => some []
  | s :: r => match f s, peeks f r with
    | some d, some ds => some (d :: ds)
    | _, _ => none
def peekN : Nat → MS → SV → Option D
  | _, _, .dt d => some d
  | 0, _, .mu _ => none
  | n + 1, M, .mu k => match M[k]? with
    | some (.l xs) => match peeks (peekN n M) xs with
      | some ds => some (.lst ds)
      | none => none
    | some (.d ks vs) => match peeks (peekN n M) vs with
      | some ds => some (.dct ks ds)
      | none => none
    | _ => none
abbrev peek : MS → SV → Option D := peekN 3
theorem peek_dt (n : Nat) (M : MS) (d : D) : peekN n M (.dt d) = some d := by cases n <;> rfl
section
variable {K : PySem.W.Frag} {Hk H : Hp} {M : MS} {ls : List Addr}
theorem SVr.up {n m : Nat} {v : V} {s : SV} (h : n ≤ m) (r : SVr K Hk ls n v s) : SVr K Hk ls m v s := by
  cases s with
  | dt d => exact r
  | mu k => exact ⟨Nat.lt_of_lt_of_le r.1 h, r.2⟩
theorem SVs.up {n m : Nat} (h : n ≤ m) : ∀ {vs : List V} {ss : List SV}, SVs K Hk ls n vs ss → SVs K Hk ls m vs ss
  | _, _, .nil => .nil
  | _, _, .cons r t => .cons (r.up h) (SVs.up h t)
theorem peeks_ok {n : Nat} {f : SV → Option D} (hf : ∀ v s d, SVr K Hk ls n v s → f s = some d → Rp K H v d) : ∀ {vs : List V} {ss : List SV} {ds : List D}, SVs K Hk ls n vs ss → peeks f ss = some ds → RpA K H vs ds
  | _, _, _, .nil, e => by cases e; exact .nil
  | _, s :: ss, _, .cons r t, e => by
    unfold peeks at e
    cases h1 : f s with
    | none => rw [h1] at e; cases e
    | some d =>
      cases h2 : peeks f ss with
      | none => rw [h1, h2] at e; cases e
      | some es =>
        rw [h1, h2] at e
        cases e
        exact .cons (hf _ _ _ r h1) (peeks_ok hf t h2)
theorem peek_ok (w : World K Hk H M ls) : ∀ (n m : Nat) (v : V) (s : SV) (d : D), SVr K Hk ls m v s → peekN n M s = some d → Rp K H v d := by
  intro n
  induction n with
  | zero =>
    intro m v s d r e
    cases s with
    | dt d' => cases e; exact Rp.mono w.sub r
    | mu k => cases e
  | succ n ih =>
    intro m v s d r e
    cases s with
    | dt d' => cases e; exact Rp.mono w.sub r
    | mu k =>
      obtain ⟨_, l, hl, rfl⟩ := r
      unfold peekN at e
      cases hM : M[k]? with
      | none => rw [hM] at e; cases e
      | some o =>
        rw [hM] at e
        obtain ⟨l', hl', ho⟩ := w.ms k o hM
        rw [hl] at hl'
        cases hl'
        cases o with
        | l xs =>
          obtain ⟨vs, hH, hs⟩ := ho
          simp only at e
          cases hp : peeks (peekN n M) xs with
          | none => rw [hp] at e; cases e
          | some ds =>
            rw [hp] at e
            cases e
            exact .lst hH (peeks_ok (fun v s d => ih k v s d) hs hp)
        | d ks xs =>
          obtain ⟨kvs, hH, hk, hs⟩ := ho
          simp only at e
          cases hp : peeks (peekN n M) xs with
          | none => rw [hp] at e; cases e
          | some ds =>
            rw [hp] at e
            cases e
            exact .dct hH hk rfl (peeks_ok (fun v s d => ih k v s d) hs hp)
        | i C ns xs => cases e

/-- the items of a list, of a tuple -/
def listOf (M : MS) : SV → Option (List SV)
  | .dt (.lst ds) => some (ds.map .dt)
  | .mu k => match M[k]? with
    | some (.l xs) => some xs
    | _ => none
  | _ => none
def itemsOf (M : MS) : SV → Option (List SV)
  | .dt (.tup ds) => some (ds.map .dt)
  | s => listOf M s
theorem listOf_ok {v : V} {s : SV} {xs : List SV} (w : World K Hk H M ls) (r : SVr K Hk ls ls.length v s) (e : listOf M s = some xs) : ∃ a vs, v = .ref a ∧ H a = some (.lst vs) ∧ SVs K Hk ls ls.length vs xs := by
  cases s with
  | dt d =>
    cases d with
    | lst ds =>
      cases e
      cases r with
      | lst h a => exact ⟨_, _, rfl, w.sub _ _ h, SVs.ofA a⟩
    | _ => cases e
  | mu k =>
    obtain ⟨hk, l, hl, rfl⟩ := r
    unfold listOf at e
    dsimp only at e
    cases hM : M[k]? with
    | none => rw [hM] at e; cases e
    | some o =>
      rw [hM] at e
      obtain ⟨l', hl', ho⟩ := w.ms k o hM
      rw [hl] at hl'
      cases hl'
      cases o with
      | l ys =>
        cases e
        obtain ⟨vs, hH, hs⟩ := ho
        exact ⟨l, vs, rfl, hH, hs.up (Nat.le_of_lt hk)⟩
      | d ks ys => cases e
      | i C ns ys => cases e
theorem itemsOf_ok {v : V} {s : SV} {xs : List SV} (w : World K Hk H M ls) (r : SVr K Hk ls ls.length v s) (e : itemsOf M s = some xs) : ∃ a vs, v = .ref a ∧ (SqL K H a vs ∨ SqT K H a vs) ∧ SVs K Hk ls ls.length vs xs := by
  by_cases ht : ∃ ds, s = .dt (.tup ds)
  · obtain ⟨ds, rfl⟩ := ht
    cases e
    cases r with
    | tup h a => exact ⟨_, _, rfl, .inr (same_t w.sub h), SVs.ofA a⟩
  · have e' : listOf M s = some xs := by
      unfold itemsOf at e
      split at e
      · exact absurd ⟨_, rfl⟩ ht
      · exact e
    obtain ⟨a, vs, h1, h2, h3⟩ := listOf_ok w r e'
    exact ⟨a, vs, h1, .inl (SqL.of h2), h3⟩
end

theorem OpR.or {X : Cx} {f : Value → Value → Sem Value} {r r' : R2} (h : OpR X f r) (h' : OpR X f r') : OpR X f (fun x y H Q => r x y H Q ∨ r' x y H Q) := by
  intro pins s σ H x y v u Q I rx ry q
  rcases q with q | q
  · exact h pins s σ H x y v u Q I rx ry q
  · exact h' pins s σ H x y v u Q I rx ry q
theorem CallR.or {X : Cx} {f : Value} {r r' : List V → Hp → VK → Prop} (h : CallR X f r) (h' : CallR X f r') : CallR X f (fun xs H Q => r xs H Q ∨ r' xs H Q) := by
  intro pins s σ H xs us Q I rx q
  rcases q with q | q
  · exact h pins s σ H xs us Q I rx q
  · exact h' pins s σ H xs us Q I rx q

section
variable {K : PySem.W.Frag} {Hk H : Hp} {M : MS} {ls : List Addr}
/-- the result is a datum that is there already (or flat) -/
theorem Res.dt {d : D} {Q : VK} (w : World K Hk H M ls) (q : Res K ls Hk H (.sv (.dt d)) M Q) {v : V} (r : Rp K Hk v d) : Q v H := q v Hk H w (Ext.refl _ _ _) r
theorem World.upd_new {p : Addr} {o : HO} (w : World K Hk H M ls) (h : H p = none) : World K Hk (upd H p o) M ls where
  sub := fun b u e => by rw [upd_ne (ne_of_none (w.sub b u e) h)]; exact w.sub b u e
  len := w.len
  nd := w.nd
  dj := w.dj
  ms := fun k x e => by
    obtain ⟨l, hl, ho⟩ := w.ms k x e
    refine ⟨l, hl, ?_⟩
    cases x with
    | l xs => obtain ⟨vs, a, b⟩ := ho; exact ⟨vs, by rw [upd_ne (ne_of_none a h)]; exact a, b⟩
    | d ks xs => obtain ⟨vs, a, b, c⟩ := ho; exact ⟨vs, by rw [upd_ne (ne_of_none a h)]; exact a, b, c⟩
    | i C ns xs => obtain ⟨dx, vs, a, b, c⟩ := ho; exact ⟨dx, vs, by rw [upd_ne (ne_of_none a h)]; exact a, b, c⟩
theorem Ext.upd_new {p : Addr} {o : HO} (h : H p = none) : Ext ls Hk H Hk (upd H p o) where
  kk := fun _ _ e => e
  fr := fun a u e _ => by rw [upd_ne (ne_of_none e h)]; exact e
  gr := fun a e => .inl e
  st := fun a e => by
    by_cases z : a = p
    · subst z; exact absurd h e
    · rw [upd_ne z]; exact e
theorem World.fresh {p : Addr} (w : World K Hk H M ls) (h : H p = none) : Hk p = none ∧ p ∉ ls := by
  constructor
  · cases e : Hk p with
    | none => rfl
    | some o => rw [w.sub p o e] at h; cases h
  · intro hp
    obtain ⟨k, hk, e⟩ := List.getElem_of_mem hp
    have hk' : k < M.length := by rw [w.len]; exact hk
    obtain ⟨l, hl, ho⟩ := w.ms k M[k] (by simp [hk'])
    rw [List.getElem?_eq_getElem hk] at hl
    have el : l = p := by rw [← e]; exact (Option.some.inj hl).symm
    subst el
    cases hm : M[k] with
    | l xs => rw [hm] at ho; obtain ⟨vs, a, _⟩ := ho; rw [h] at a; cases a
    | d ks xs => rw [hm] at ho; obtain ⟨vs, a, _⟩ := ho; rw [h] at a; cases a
    | i C ns xs => rw [hm] at ho; obtain ⟨dx, vs, a, _⟩ := ho; rw [h] at a; cases a
/-- a new list -/
theorem Res.newL {ds : List D} {Q : VK} {vs : List V} {p : Addr} (w : World K Hk H M ls) (q : Res K ls Hk H (.fr ds) M Q) (h : H p = none) (r : RpA K Hk vs ds) : Q (.ref p) (upd H p (.lst vs)) :=
  q (.ref p) Hk (upd H p (.lst vs)) (w.upd_new h) (Ext.upd_new h) ⟨p, vs, rfl, h, (w.fresh h).1, (w.fresh h).2, upd_same, r⟩
/-- a new tuple: frozen at once -/
theorem Res.newT {ds : List D} {Q : VK} {vs : List V} {p : Addr} (w : World K Hk H M ls) (q : Res K ls Hk H (.sv (.dt (.tup ds))) M Q) (h : H p = none) (r : RpA K Hk vs ds) : Q (.ref p) (upd H p (.tup vs)) :=
  q (.ref p) (upd Hk p (.tup vs)) (upd H p (.tup vs)) ((w.upd_new h).freeze (w.fresh h).2 upd_same (w.fresh h).1) ((Ext.upd_new h).freeze h (w.fresh h).1)
    (Rp.tup (SqT.of upd_same) (RpA.mono (same_upd (w.fresh h).1) r))
/-- a new empty dict and the like -/
theorem Res.newD {kvs : List (Key × V)} {ks : List Key} {ds : List D} {Q : VK} {p : Addr} (w : World K Hk H M ls) (q : Res K ls Hk H (.fd ks ds) M Q) (h : H p = none) (hk : kvs.map (·.1) = ks) (r : RpA K Hk (kvs.map (·.2)) ds) : Q (.ref p) (upd H p (.dK kvs)) :=
  q (.ref p) Hk (upd H p (.dK kvs)) (w.upd_new h) (Ext.upd_new h) ⟨p, kvs, rfl, h, (w.fresh h).1, (w.fresh h).2, upd_same, hk, r⟩
end

/-! ### operators -/
/-- a list whose items are data -/
def listD (M : MS) (s : SV) : Option (List D) := match listOf M s with
  | some xs => allD xs
  | none => none
theorem listD_ok {K : PySem.W.Frag} {Hk H : Hp} {M : MS} {ls : List Addr} {v : V} {s : SV} {ds : List D} (w : World K Hk H M ls) (r : SVr K Hk ls ls.length v s) (e : listD M s = some ds) : ∃ a vs, v = .ref a ∧ H a = some (.lst vs) ∧ RpA K Hk vs ds := by
  unfold listD at e
  cases h : listOf M s with
  | none => rw [h] at e; cases e
  | some xs =>
    rw [h] at e
    obtain ⟨a, vs, h1, h2, h3⟩ := listOf_ok w r h
    exact ⟨a, vs, h1, h2, h3.toA e⟩
def int2 (f : Int → Int → Option D) (s t : SV) : Option R := match s, t with
  | .dt (.int i), .dt (.int j) => match f i j with
    | some d => some (.sv (.dt d))
    | none => none
  | _, _ => none
theorem int2_some {f : Int → Int → Option D} {s t : SV} {z : R} (h : int2 f s t = some z) : ∃ i j d, s = .dt (.int i) ∧ t = .dt (.int j) ∧ f i j = some d ∧ z = .sv (.dt d) := by
  unfold int2 at h
  split at h
  · split at h
    · cases h; exact ⟨_, _, _, rfl, rfl, by assumption, rfl⟩
    · cases h
  · cases h
theorem Rp.int_inv {K : PySem.W.Frag} {H : Hp} {v : V} {i : Int} (h : Rp K H v (.int i)) : v = .int i := by cases h; rfl
theorem Rp.str_inv {K : PySem.W.Frag} {H : Hp} {v : V} {i : Str} (h : Rp K H v (.str i)) : v = .str i := by cases h; rfl
theorem Rp.bl_inv {K : PySem.W.Frag} {H : Hp} {v : V} {i : Bool} (h : Rp K H v (.bl i)) : v = .bl i := by cases h; rfl
theorem opd_int {K : PySem.W.Frag} {C : Int → Int → Prop} {g : Int → Int → V} {f : Int → Int → Option D} (h : ∀ i j d, f i j = some d → C i j ∧ ∀ H, Rp K H (g i j) d) : OpD K (rI C g) (fun _ s t => int2 f s t) := by
  intro Hk H M ls x y s t z Q w rx ry e q
  obtain ⟨i, j, d, rfl, rfl, hf, rfl⟩ := int2_some e
  obtain ⟨c, r⟩ := h i j d hf
  exact ⟨i, j, Rp.int_inv rx, Rp.int_inv ry, c, q.dt w (r Hk)⟩
theorem opd_int0 {K : PySem.W.Frag} {g : Int → Int → V} {f : Int → Int → Option D} (h : ∀ i j d, f i j = some d → ∀ H, Rp K H (g i j) d) : OpD K (rI0 g) (fun _ s t => int2 f s t) := by
  intro Hk H M ls x y s t z Q w rx ry e q
  obtain ⟨i, j, d, rfl, rfl, hf, rfl⟩ := int2_some e
  exact ⟨i, j, Rp.int_inv rx, Rp.int_inv ry, q.dt w (h i j d hf Hk)⟩
theorem OpD.or {K : PySem.W.Frag} {r r' : R2} {g : MS → SV → SV → Option R} (h : ∀ (Hk H : Hp) (M : MS) (ls : List Addr) (x y : V) (s t : SV) (z : R) (Q : VK), World K Hk H M ls → SVr K Hk ls ls.length x s → SVr K Hk ls ls.length y t → g M s t = some z → Res K ls Hk H z M Q → r x y H Q ∨ r' x y H Q) : OpD K (fun x y H Q => r x y H Q ∨ r' x y H Q) g := h

/-- + -/
def gAdd (M : MS) (s t : SV) : Option R := match s, t with
  | .dt (.int i), .dt (.int j) => some (.sv (.dt (.int (i + j))))
  | .dt (.str x), .dt (.str y) => if x.length + y.length ≤ sizeLine then some (.sv (.dt (.str (x ++ y)))) else none
  | .dt (.tup xs), .dt (.tup ys) => if xs.length + ys.length ≤ sizeLine then some (.sv (.dt (.tup (xs ++ ys)))) else none
  | s, t => match listD M s, listD M t with
    | some xs, some ys => if xs.length + ys.length ≤ sizeLine then some (.fr (xs ++ ys)) else none
    | _, _ => none
def rPlus (K : PySem.W.Frag) : R2 := fun x y H Q => rI0 (fun i j => .int (i + j)) x y H Q ∨ (∃ i j, x = .str i ∧ y = .str j ∧ i.length + j.length ≤ sizeLine ∧ Q (.str (i ++ j)) H) ∨ rCatA K x y H Q ∨ rCat x y H Q
theorem op_plus {X : Cx} : OpR X (binaryOp .Add) (rPlus X.K) := OpR.or op_add (OpR.or op_add_str (OpR.or op_catA op_cat))
theorem opd_plus {K : PySem.W.Frag} : OpD K (rPlus K) gAdd := by
  intro Hk H M ls x y s t z Q w rx ry e q
  unfold gAdd at e
  split at e
  · cases e
    exact .inl ⟨_, _, Rp.int_inv rx, Rp.int_inv ry, q.dt w (.int _)⟩
  · split at e
    · rename_i hz
      cases e
      exact .inr (.inl ⟨_, _, Rp.str_inv rx, Rp.str_inv ry, hz, q.dt w (.str _)⟩)
    · cases e
  · rename_i xs ys
    split at e
    · rename_i hz
      cases e
      refine .inr (.inr (.inl ?_))
      cases rx with
      | tup h1 a1 =>
        cases ry with
        | tup h2 a2 =>
          rename_i a us b vs
          refine ⟨a, b, us, vs, rfl, rfl, same_t w.sub h1, same_t w.sub h2, by rw [a1.length, a2.length]; exact hz, fun e0 => ?_, fun _ e0 => ?_, fun _ _ p hp => ?_⟩
          · subst e0
            cases a1
            exact q.dt w (.tup h2 a2)
          · subst e0
            cases a2
            rw [List.append_nil] at q
            exact q.dt w (.tup h1 a1)
          · exact q.newT w hp (a1.append a2)
    · cases e
  · split at e
    · rename_i xs ys h1 h2
      split at e
      · rename_i hz
        cases e
        obtain ⟨a, us, rfl, ha, ra⟩ := listD_ok w rx h1
        obtain ⟨b, vs, rfl, hb, rb⟩ := listD_ok w ry h2
        exact .inr (.inr (.inr ⟨a, b, us, vs, rfl, rfl, ha, hb, by rw [ra.length, rb.length]; exact hz, fun p hp => q.newL w hp (ra.append rb)⟩))
      · cases e
    · cases e
theorem pm_add {X : Cx} {a b : Expr} {ma mb : EM R} {pos : Pos} (ha : PM X a ma) (hb : PM X b mb) : PM X (.BinOp a .Add b pos) (eBin gAdd ma mb) := pm_bin op_plus opd_plus ha hb

def gSub (_ : MS) (s t : SV) : Option R := int2 (fun i j => some (.int (i - j))) s t
theorem pm_sub {X : Cx} {a b : Expr} {ma mb : EM R} {pos : Pos} (ha : PM X a ma) (hb : PM X b mb) : PM X (.BinOp a .Sub b pos) (eBin gSub ma mb) :=
  pm_bin op_sub (opd_int0 fun i j d e H => by cases e; exact .int _) ha hb
def gMod (_ : MS) (s t : SV) : Option R := int2 (fun i j => if 0 < j then some (.int (i % j)) else none) s t
theorem pm_mod {X : Cx} {a b : Expr} {ma mb : EM R} {pos : Pos} (ha : PM X a ma) (hb : PM X b mb) : PM X (.BinOp a .Mod b pos) (eBin gMod ma mb) :=
  pm_bin op_mod (opd_int fun i j d e => by
    split at e
    · rename_i h; cases e; exact ⟨h, fun _ => .int _⟩
    · cases e) ha hb
def gFdiv (_ : MS) (s t : SV) : Option R := int2 (fun i j => if 0 < j ∧ j < 1073741824 then some (.int (i / j)) else none) s t
theorem pm_fdiv {X : Cx} {a b : Expr} {ma mb : EM R} {pos : Pos} (ha : PM X a ma) (hb : PM X b mb) : PM X (.BinOp a .FloorDiv b pos) (eBin gFdiv ma mb) :=
  pm_bin op_fdiv (opd_int fun i j d e => by
    split at e
    · rename_i h; cases e; exact ⟨h, fun _ => .int _⟩
    · cases e) ha hb
def gPow (_ : MS) (s t : SV) : Option R := int2 (fun i j => if 0 ≤ j ∧ j ≤ 1000000 ∧ i.natAbs < 2 ^ 64 then some (.int (i ^ j.toNat)) else none) s t
theorem pm_pow {X : Cx} {a b : Expr} {ma mb : EM R} {pos : Pos} (ha : PM X a ma) (hb : PM X b mb) : PM X (.BinOp a .Pow b pos) (eBin gPow ma mb) :=
  pm_bin op_pow (opd_int fun i j d e => by
    split at e
    · rename_i h; cases e; exact ⟨h, fun _ => .int _⟩
    · cases e) ha hb
end Dy

set_option Elab.async false
set_option linter.all false
set_option maxRecDepth 100000
set_option maxHeartbeats 4000000
namespace Dy
open PySem L2

/-! ### * -/
def inSmall (i : Int) : Bool := decide (-(2 ^ 64) < i) && !decide (2 ^ 64 ≤ i)
def repD (n : Nat) (xs : List D) : List D := (List.replicate n xs).flatten
def gMul (M : MS) (s t : SV) : Option R := match s, t with
  | .dt (.int i), .dt (.int j) => if inSmall i || inSmall j then some (.sv (.dt (.int (i * j)))) else none
  | .dt (.tup xs), .dt (.int k) => if xs ≠ [] ∧ 2 ≤ k ∧ k ≤ 1000 ∧ xs.length ≤ 1000 then some (.sv (.dt (.tup (repD k.toNat xs)))) else none
  | s, .dt (.int k) => match listD M s with
    | some xs => if -(2 ^ 63) ≤ k ∧ k < 2 ^ 63 ∧ xs.length * k.toNat ≤ sizeLine then some (.fr (repD k.toNat xs)) else none
    | none => none
  | _, _ => none
def rTimes (K : PySem.W.Frag) : R2 := fun x y H Q => rI CMul (fun i j => .int (i * j)) x y H Q ∨ rRepT K x y H Q ∨ rRep x y H Q
theorem op_times {X : Cx} : OpR X (binaryOp .Mult) (rTimes X.K) := OpR.or op_mul (OpR.or op_repT op_rep)
theorem inSmall_ok {i : Int} (h : inSmall i = true) : -(2 ^ 64) < i ∧ i < 2 ^ 64 := by
  unfold inSmall at h
  rw [Bool.and_eq_true] at h
  exact ⟨of_decide_eq_true h.1, by have := h.2; simp at this; omega⟩
theorem RpA.rep {K : PySem.W.Frag} {H : Hp} {vs : List V} {ds : List D} (r : RpA K H vs ds) : ∀ n : Nat, RpA K H (List.replicate n vs).flatten (repD n ds)
  | 0 => .nil
  | n + 1 => by
    unfold repD
    rw [List.replicate_succ, List.replicate_succ, List.flatten_cons, List.flatten_cons]
    exact r.append (RpA.rep r n)
theorem opd_times {K : PySem.W.Frag} : OpD K (rTimes K) gMul := by
  intro Hk H M ls x y s t z Q w rx ry e q
  unfold gMul at e
  split at e
  · split at e
    · rename_i i j h
      cases e
      refine .inl ⟨_, _, Rp.int_inv rx, Rp.int_inv ry, ?_, q.dt w (.int _)⟩
      rw [Bool.or_eq_true] at h
      rcases h with h | h
      · exact .inl (inSmall_ok h)
      · exact .inr (inSmall_ok h)
    · cases e
  · split at e
    · rename_i xs k h
      cases e
      obtain ⟨h1, h2, h3, h4⟩ := h
      cases rx with
      | tup ht a =>
        rename_i p us
        have hl := a.length
        refine .inr (.inl ⟨p, k, us, rfl, Rp.int_inv ry, same_t w.sub ht, fun z => ?_, h2, h3, by rw [hl]; exact h4, fun p' hp => q.newT w hp (a.rep _)⟩)
        subst z
        cases a
        exact h1 rfl
    · cases e
  · split at e
    · rename_i xs hl
      split at e
      · rename_i h
        cases e
        obtain ⟨a, us, rfl, ha, ra⟩ := listD_ok w rx hl
        refine .inr (.inr ⟨a, _, us, rfl, Rp.int_inv ry, ha, h.1, h.2.1, by rw [ra.length]; exact h.2.2, fun p hp => q.newL w hp (ra.rep _)⟩)
      · cases e
    · cases e
  · cases e
theorem pm_mul {X : Cx} {a b : Expr} {ma mb : EM R} {pos : Pos} (ha : PM X a ma) (hb : PM X b mb) : PM X (.BinOp a .Mult b pos) (eBin gMul ma mb) := pm_bin op_times opd_times ha hb

/-! ### comparisons -/
def rB (b : Bool) : Option R := some (.sv (.dt (.bl b)))
def toPs (f : D → Option PyData) : List D → Option (List PyData)
  | [] => some []
  | s :: r => match f s, toPs f r with
    | some d, some ds => some (d :: ds)
    | _, _ => none
mutual
def toP : D → Option PyData
  | .non => some .none
  | .bl b => some (.bool b)
  | .int i => some (.int i)
  | .str s => some (.str s)
  | .lst xs => match toPl xs with
    | some ps => some (.list ps)
    | none => none
  | .tup xs => match toPl xs with
    | some ps => some (.tuple ps)
    | none => none
  | _ => none
def toPl : List D → Option (List PyData)
  | [] => some []
  | d :: r => match toP d, toPl r with
    | some p, some ps => some (p :: ps)
    | _, _ => none
end
section
variable {K : PySem.W.Frag} {H : Hp}
mutual
theorem toP_ok : ∀ {v : V} {d : D} {p : PyData}, Rp K H v d → toP d = some p → Dp K H v p
  | _, _, _, .non, e => by simp only [toP] at e; cases e; exact .non
  | _, _, _, .bl b, e => by simp only [toP] at e; cases e; exact .bl b
  | _, _, _, .int i, e => by simp only [toP] at e; cases e; exact .int i
  | _, _, _, .str x, e => by simp only [toP] at e; cases e; exact .str x
  | _, _, p, .lst (ds := ds) h a, e => by
    simp only [toP] at e
    cases hp : toPl ds with
    | none => rw [hp] at e; cases e
    | some ps => rw [hp] at e; cases e; exact .lst (SqL.of h) (toPl_ok a hp)
  | _, _, p, .tup (ds := ds) h a, e => by
    simp only [toP] at e
    cases hp : toPl ds with
    | none => rw [hp] at e; cases e
    | some ps => rw [hp] at e; cases e; exact .tup h (toPl_ok a hp)
  | _, _, _, .dct .., e => by simp only [toP] at e; cases e
  | _, _, _, .ins .., e => by simp only [toP] at e; cases e
  | _, _, _, .scr .., e => by simp only [toP] at e; cases e
  | _, _, _, .obj .., e => by simp only [toP] at e; cases e
theorem toPl_ok : ∀ {vs : List V} {ds : List D} {ps : List PyData}, RpA K H vs ds → toPl ds = some ps → DpAll K H vs ps
  | _, _, _, .nil, e => by simp only [toPl] at e; cases e; exact .nil
  | _, _, _, .cons (d := d) (ds := ds) r t, e => by
    simp only [toPl] at e
    cases h1 : toP d with
    | none => rw [h1] at e; cases e
    | some p =>
      cases h2 : toPl ds with
      | none => rw [h1, h2] at e; cases e
      | some ps =>
        rw [h1, h2] at e
        cases e
        exact .cons (toP_ok r h1) (toPl_ok t h2)
end
end
/-- == of data -/
def eqS (M : MS) (s t : SV) : Option Bool := match peek M s, peek M t with
  | some d, some e => match toP d, toP e with
    | some p, some q => if SeqAt.shaped p && SeqAt.shaped q then some (PyData.eqv p q) else none
    | _, _ => none
  | _, _ => none
theorem eqS_ok {K : PySem.W.Frag} {Hk H : Hp} {M : MS} {ls : List Addr} {x y : V} {s t : SV} {b : Bool} (w : World K Hk H M ls) (rx : SVr K Hk ls ls.length x s) (ry : SVr K Hk ls ls.length y t) (e : eqS M s t = some b) :
    ∃ p q, Dp K H x p ∧ Dp K H y q ∧ SeqAt.shaped p = true ∧ SeqAt.shaped q = true ∧ b = PyData.eqv p q := by
  unfold eqS at e
  split at e
  · rename_i d1 d2 h1 h2
    split at e
    · rename_i p q h3 h4
      split at e
      · rename_i hs
        cases e
        rw [Bool.and_eq_true] at hs
        exact ⟨p, q, toP_ok (peek_ok w _ _ _ _ _ rx h1) h3, toP_ok (peek_ok w _ _ _ _ _ ry h2) h4, hs.1, hs.2, rfl⟩
      · cases e
    · cases e
  · cases e
/-- two lists that are not equally long, whatever stands in them -/
def lenNe (M : MS) (s t : SV) : Option Bool := match listOf M s, listOf M t with
  | some xs, some ys => if xs.length ≠ ys.length then some false else none
  | _, _ => none
def eqL (M : MS) (s t : SV) : Option Bool := match eqS M s t with
  | some b => some b
  | none => lenNe M s t
def eqT (M : MS) (s t : SV) : Option Bool := match s, t with
  | .dt (.str x), .dt (.str y) => some (decide (x = y))
  | s, t => eqL M s t
def rEqLen (K : PySem.W.Frag) (b : Bool) : R2 := fun x y H Q => ∃ p q xs ys, x = .ref p ∧ y = .ref q ∧ SqL K H p xs ∧ SqL K H q ys ∧ xs.length ≠ ys.length ∧ Q (.bl b) H
theorem op_eqLen {X : Cx} (hu : X.A.units + 64 < cLine) : OpR X (compareOp .Eq) (rEqLen X.K false) := by
  intro pins s σ H x y v u Q I rx ry h
  obtain ⟨p, q, xs, ys, rfl, rfl, h1, h2, hn, hq⟩ := h
  obtain rfl : v = Value.ref p := rx
  obtain rfl : u = Value.ref q := ry
  obtain ⟨i1, r1, p1, _⟩ := I.list h1
  obtain ⟨i2, r2, p2, _⟩ := I.list h2
  exact SeqAt.RcAt.lists_lengths p1.isList p2.isList (by rw [List.size_toArray, List.size_toArray, ← r1.length, ← r2.length]; simpa using hn) (by omega) _ _ _ _ ⟨.bl _, H, I, rfl, hq⟩
theorem op_neLen {X : Cx} (hu : X.A.units + 64 < cLine) : OpR X (compareOp .NotEq) (rEqLen X.K true) := by
  intro pins s σ H x y v u Q I rx ry h
  obtain ⟨p, q, xs, ys, rfl, rfl, h1, h2, hn, hq⟩ := h
  obtain rfl : v = Value.ref p := rx
  obtain rfl : u = Value.ref q := ry
  obtain ⟨i1, r1, p1, _⟩ := I.list h1
  obtain ⟨i2, r2, p2, _⟩ := I.list h2
  exact SeqAt.RcNeAt.lists_lengths p1.isList p2.isList (by rw [List.size_toArray, List.size_toArray, ← r1.length, ← r2.length]; simpa using hn) (by omega) _ _ _ _ ⟨.bl _, H, I, rfl, hq⟩
def gEq (M : MS) (s t : SV) : Option R := match eqT M s t with
  | some b => rB b
  | none => none
def gNe (M : MS) (s t : SV) : Option R := match eqT M s t with
  | some b => rB (!b)
  | none => none
theorem eqT_ok {K : PySem.W.Frag} {Hk H : Hp} {M : MS} {ls : List Addr} {x y : V} {s t : SV} {b : Bool} (w : World K Hk H M ls) (rx : SVr K Hk ls ls.length x s) (ry : SVr K Hk ls ls.length y t) (e : eqT M s t = some b) :
    (scal x y = true ∧ b = decide (x = y)) ∨ (∃ p q, Dp K H x p ∧ Dp K H y q ∧ SeqAt.shaped p = true ∧ SeqAt.shaped q = true ∧ b = PyData.eqv p q) ∨
      (b = false ∧ ∃ p q xs ys, x = .ref p ∧ y = .ref q ∧ SqL K H p xs ∧ SqL K H q ys ∧ xs.length ≠ ys.length) := by
  unfold eqT at e
  split at e
  · rename_i u v
    cases e
    cases rx
    cases ry
    refine .inl ⟨rfl, ?_⟩
    by_cases h : u = v
    · subst h; simp
    · have h2 : ¬ V.str u = V.str v := fun z => h (V.str.inj z)
      simp [h, h2]
  · unfold eqL at e
    split at e
    · rename_i b' hb
      cases e
      exact .inr (.inl (eqS_ok w rx ry hb))
    · unfold lenNe at e
      split at e
      · rename_i us vs h1 h2
        split at e
        · rename_i hn
          cases e
          obtain ⟨a, xs, rfl, ha, hxs⟩ := listOf_ok w rx h1
          obtain ⟨c, ys, rfl, hc, hys⟩ := listOf_ok w ry h2
          exact .inr (.inr ⟨rfl, a, c, xs, ys, rfl, rfl, SqL.of ha, SqL.of hc, by rw [hxs.length, hys.length]; exact hn⟩)
        · cases e
      · cases e
theorem op_eqT {X : Cx} (hu : X.A.units + 64 < cLine) : OpR X (compareOp .Eq) (fun x y H Q => rEq x y H Q ∨ rEqD X.K x y H Q ∨ rEqLen X.K false x y H Q) := OpR.or op_eq (OpR.or (op_eqD hu) (op_eqLen hu))
theorem op_neT {X : Cx} (hu : X.A.units + 64 < cLine) : OpR X (compareOp .NotEq) (fun x y H Q => rNe x y H Q ∨ rNeD X.K x y H Q ∨ rEqLen X.K true x y H Q) := OpR.or op_ne (OpR.or (op_neD hu) (op_neLen hu))
theorem opd_eq {K : PySem.W.Frag} : OpD K (fun x y H Q => rEq x y H Q ∨ rEqD K x y H Q ∨ rEqLen K false x y H Q) gEq := by
  intro Hk H M ls x y s t z Q w rx ry e q
  unfold gEq at e
  split at e
  · rename_i b hb
    cases e
    rcases eqT_ok w rx ry hb with ⟨h1, rfl⟩ | ⟨p, r, h1, h2, h3, h4, rfl⟩ | ⟨rfl, a, c, xs, ys, h1, h2, h3, h4, h5⟩
    · exact .inl ⟨h1, q.dt w (.bl _)⟩
    · exact .inr (.inl ⟨p, r, h1, h2, h3, h4, q.dt w (.bl _)⟩)
    · exact .inr (.inr ⟨a, c, xs, ys, h1, h2, h3, h4, h5, q.dt w (.bl _)⟩)
  · cases e
theorem opd_ne {K : PySem.W.Frag} : OpD K (fun x y H Q => rNe x y H Q ∨ rNeD K x y H Q ∨ rEqLen K true x y H Q) gNe := by
  intro Hk H M ls x y s t z Q w rx ry e q
  unfold gNe at e
  split at e
  · rename_i b hb
    cases e
    rcases eqT_ok w rx ry hb with ⟨h1, rfl⟩ | ⟨p, r, h1, h2, h3, h4, rfl⟩ | ⟨rfl, a, c, xs, ys, h1, h2, h3, h4, h5⟩
    · exact .inl ⟨h1, q.dt w (.bl _)⟩
    · exact .inr (.inl ⟨p, r, h1, h2, h3, h4, q.dt w (.bl _)⟩)
    · exact .inr (.inr ⟨a, c, xs, ys, h1, h2, h3, h4, h5, q.dt w (.bl _)⟩)
  · cases e
def gLt (_ : MS) (s t : SV) : Option R := int2 (fun i j => some (.bl (decide (i < j)))) s t
def gLe (_ : MS) (s t : SV) : Option R := int2 (fun i j => some (.bl (decide (i ≤ j)))) s t
def gGt (_ : MS) (s t : SV) : Option R := int2 (fun i j => some (.bl (decide (j < i)))) s t
def gGe (_ : MS) (s t : SV) : Option R := int2 (fun i j => some (.bl (decide (j ≤ i)))) s t
theorem opd_lt {K : PySem.W.Frag} : OpD K (rI0 fun i j => .bl (decide (i < j))) gLt := opd_int0 fun i j d e H => by cases e; exact .bl _
theorem opd_le {K : PySem.W.Frag} : OpD K (rI0 fun i j => .bl (decide (i ≤ j))) gLe := opd_int0 fun i j d e H => by cases e; exact .bl _
theorem opd_gt {K : PySem.W.Frag} : OpD K (rI0 fun i j => .bl (decide (j < i))) gGt := opd_int0 fun i j d e H => by cases e; exact .bl _
theorem opd_ge {K : PySem.W.Frag} : OpD K (rI0 fun i j => .bl (decide (j ≤ i))) gGe := opd_int0 fun i j d e H => by cases e; exact .bl _
/-- in: a sign in a text; a flat thing in a list or tuple of flat things -/
def flatD : D → Bool
  | .non => true
  | .bl _ => true
  | .int _ => true
  | .str _ => true
  | _ => false
def fV : D → V
  | .non => .non
  | .bl b => .bl b
  | .int i => .int i
  | .str s => .str s
  | _ => .ty ""
theorem flat_val {K : PySem.W.Frag} {H : Hp} {v : V} {d : D} (h : Rp K H v d) (f : flatD d = true) : v = fV d ∧ flatV v = true := by
  cases h <;> first | exact ⟨rfl, rfl⟩ | cases f
theorem flat_vals {K : PySem.W.Frag} {H : Hp} : ∀ {vs : List V} {ds : List D}, RpA K H vs ds → ds.all flatD = true → vs = ds.map fV ∧ vs.all flatV = true
  | _, _, .nil, _ => ⟨rfl, rfl⟩
  | _, _, .cons r t, f => by
    rw [List.all_cons, Bool.and_eq_true] at f
    obtain ⟨a, b⟩ := flat_val r f.1
    obtain ⟨c, d⟩ := flat_vals t f.2
    subst a c
    exact ⟨rfl, by rw [List.all_cons, b, d]; rfl⟩
def oneSign : Str → Option Nat := fun x => match x.cps.toList with
  | [c] => some c
  | _ => none
theorem oneSign_ok {x : Str} {c : Nat} (h : oneSign x = some c) : x = ⟨#[c]⟩ := by
  unfold oneSign at h
  split at h
  · rename_i c' e
    cases h
    obtain ⟨a⟩ := x
    obtain ⟨l⟩ := a
    cases e
    rfl
  · cases h
def itemsD (M : MS) (s : SV) : Option (List D) := match itemsOf M s with
  | some xs => allD xs
  | none => none
theorem itemsD_ok {K : PySem.W.Frag} {Hk H : Hp} {M : MS} {ls : List Addr} {v : V} {s : SV} {ds : List D} (w : World K Hk H M ls) (r : SVr K Hk ls ls.length v s) (e : itemsD M s = some ds) : ∃ a vs, v = .ref a ∧ (SqL K H a vs ∨ SqT K H a vs) ∧ RpA K Hk vs ds := by
  unfold itemsD at e
  cases h : itemsOf M s with
  | none => rw [h] at e; cases e
  | some xs =>
    rw [h] at e
    obtain ⟨a, vs, h1, h2, h3⟩ := itemsOf_ok w r h
    exact ⟨a, vs, h1, h2, h3.toA e⟩
def inS (M : MS) (s t : SV) : Option Bool := match s, t with
  | .dt (.str x), .dt (.str z) => match oneSign x with
    | some c => some (decide (c ∈ z.cps.toList))
    | none => none
  | .dt x, t => match itemsD M t with
    | some ds => if flatD x && ds.all flatD then some (inV (fV x) (ds.map fV)) else none
    | none => none
  | _, _ => none
def rInS (K : PySem.W.Frag) : R2 := fun x y H Q => (∃ (c : Nat) (z : Str), x = .str ⟨#[c]⟩ ∧ y = .str z ∧ Q (.bl (decide (c ∈ z.cps.toList))) H) ∨ rIn K false x y H Q
def rNotInS (K : PySem.W.Frag) : R2 := fun x y H Q => (∃ (c : Nat) (z : Str), x = .str ⟨#[c]⟩ ∧ y = .str z ∧ Q (.bl (!decide (c ∈ z.cps.toList))) H) ∨ rIn K true x y H Q
theorem op_inS {X : Cx} : OpR X (compareOp .In) (rInS X.K) := OpR.or op_in_sign op_in_seq
theorem op_notInS {X : Cx} : OpR X (compareOp .NotIn) (rNotInS X.K) := OpR.or op_notIn_sign op_notIn_seq
def gIn (M : MS) (s t : SV) : Option R := match inS M s t with
  | some b => rB b
  | none => none
def gNotIn (M : MS) (s t : SV) : Option R := match inS M s t with
  | some b => rB (!b)
  | none => none
theorem inS_ok {K : PySem.W.Frag} {Hk H : Hp} {M : MS} {ls : List Addr} {x y : V} {s t : SV} {b : Bool} (w : World K Hk H M ls) (rx : SVr K Hk ls ls.length x s) (ry : SVr K Hk ls ls.length y t) (e : inS M s t = some b) :
    (∃ (c : Nat) (z : Str), x = .str ⟨#[c]⟩ ∧ y = .str z ∧ b = decide (c ∈ z.cps.toList)) ∨ ∃ p xs, y = .ref p ∧ (SqL K H p xs ∨ SqT K H p xs) ∧ flatV x = true ∧ xs.all flatV = true ∧ b = inV x xs := by
  unfold inS at e
  split at e
  · rename_i x' z'
    split at e
    · rename_i c hc
      cases e
      have := oneSign_ok hc
      subst this
      exact .inl ⟨c, z', Rp.str_inv rx, Rp.str_inv ry, rfl⟩
    · cases e
  · rename_i d _ _
    split at e
    · rename_i ds hd
      split at e
      · rename_i hf
        cases e
        rw [Bool.and_eq_true] at hf
        obtain ⟨a, vs, rfl, hq, ra⟩ := itemsD_ok w ry hd
        obtain ⟨e1, f1⟩ := flat_val rx hf.1
        obtain ⟨e2, f2⟩ := flat_vals ra hf.2
        subst e1
        exact .inr ⟨a, vs, rfl, hq, f1, f2, by rw [e2]⟩
      · cases e
    · cases e
  · cases e
theorem opd_in {K : PySem.W.Frag} : OpD K (rInS K) gIn := by
  intro Hk H M ls x y s t z Q w rx ry e q
  unfold gIn at e
  split at e
  · rename_i b hb
    cases e
    rcases inS_ok w rx ry hb with ⟨c, z, rfl, rfl, rfl⟩ | ⟨p, xs, rfl, h1, h2, h3, rfl⟩
    · exact .inl ⟨c, z, rfl, rfl, q.dt w (.bl _)⟩
    · exact .inr ⟨p, xs, rfl, h1, h2, h3, q.dt w (.bl _)⟩
  · cases e
theorem opd_notIn {K : PySem.W.Frag} : OpD K (rNotInS K) gNotIn := by
  intro Hk H M ls x y s t z Q w rx ry e q
  unfold gNotIn at e
  split at e
  · rename_i b hb
    cases e
    rcases inS_ok w rx ry hb with ⟨c, z, rfl, rfl, rfl⟩ | ⟨p, xs, rfl, h1, h2, h3, rfl⟩
    · exact .inl ⟨c, z, rfl, rfl, q.dt w (.bl _)⟩
    · exact .inr ⟨p, xs, rfl, h1, h2, h3, q.dt w (.bl _)⟩
  · cases e
/-- is: truths -/
def gIs (_ : MS) (s t : SV) : Option R := match s, t with
  | .dt (.bl a), .dt (.bl b) => rB (decide (a = b))
  | _, _ => none
theorem opd_is {K : PySem.W.Frag} : OpD K rIsB gIs := by
  intro Hk H M ls x y s t z Q w rx ry e q
  unfold gIs at e
  split at e
  · cases e
    exact ⟨_, _, Rp.bl_inv rx, Rp.bl_inv ry, q.dt w (.bl _)⟩
  · cases e
section
variable {X : Cx} {a b c : Expr} {ma mb mc : EM R} {pos : Pos}
theorem pm_eq (hu : X.A.units + 64 < cLine) (ha : PM X a ma) (hb : PM X b mb) : PM X (.Compare a [.Eq] [b] pos) (eBin gEq ma mb) := pm_cmp (op_eqT hu) opd_eq ha hb
theorem pm_ne (hu : X.A.units + 64 < cLine) (ha : PM X a ma) (hb : PM X b mb) : PM X (.Compare a [.NotEq] [b] pos) (eBin gNe ma mb) := pm_cmp (op_neT hu) opd_ne ha hb
theorem pm_lt (ha : PM X a ma) (hb : PM X b mb) : PM X (.Compare a [.Lt] [b] pos) (eBin gLt ma mb) := pm_cmp op_lt opd_lt ha hb
theorem pm_le (ha : PM X a ma) (hb : PM X b mb) : PM X (.Compare a [.LtE] [b] pos) (eBin gLe ma mb) := pm_cmp op_le opd_le ha hb
theorem pm_gt (ha : PM X a ma) (hb : PM X b mb) : PM X (.Compare a [.Gt] [b] pos) (eBin gGt ma mb) := pm_cmp op_gt opd_gt ha hb
theorem pm_ge (ha : PM X a ma) (hb : PM X b mb) : PM X (.Compare a [.GtE] [b] pos) (eBin gGe ma mb) := pm_cmp op_ge opd_ge ha hb
theorem pm_in (ha : PM X a ma) (hb : PM X b mb) (hm : behindInMarks .In b = false := by rfl) : PM X (.Compare a [.In] [b] pos) (eBin gIn ma mb) := pm_cmp op_inS opd_in ha hb hm
theorem pm_notIn (ha : PM X a ma) (hb : PM X b mb) (hm : behindInMarks .NotIn b = false := by rfl) : PM X (.Compare a [.NotIn] [b] pos) (eBin gNotIn ma mb) := pm_cmp op_notInS opd_notIn ha hb hm
theorem pm_is (ha : PM X a ma) (hb : PM X b mb) : PM X (.Compare a [.Is] [b] pos) (eBin gIs ma mb) := pm_cmp op_isBl opd_is ha hb
/-- a op b op' c -/
def eChain (g g' : MS → SV → SV → Option R) (ma mb mc : EM R) : EM R := (fz ma).seq fun s => (fz mb).seq fun t => fun ρ M => match g M s t with
  | some (.sv (.dt (.bl true))) => (fz mc).seq (fun u => fun _ M' => match g' M' t u with
    | some z => some (z, M')
    | none => none) ρ M
  | some (.sv (.dt (.bl false))) => some (.sv (.dt (.bl false)), M)
  | _ => none
end
end Dy

set_option Elab.async false
set_option linter.all false
set_option maxRecDepth 100000
set_option maxHeartbeats 4000000
namespace Dy
open PySem L2

theorem Rr.back {K : PySem.W.Frag} {ls : List Addr} {H0 Hk0 H1 Hk1 H2 Hk2 : Hp} {v : V} {r : R} (x : Ext ls Hk0 H0 Hk1 H1) (h : Rr K H1 Hk2 H2 ls v r) : Rr K H0 Hk2 H2 ls v r := ebin_go.rr_back x h
theorem Res.back {K : PySem.W.Frag} {ls : List Addr} {H0 Hk0 H1 Hk1 : Hp} {r : R} {M : MS} {Q : VK} (x : Ext ls Hk0 H0 Hk1 H1) (h : Res K ls Hk0 H0 r M Q) : Res K ls Hk1 H1 r M Q :=
  fun v Hk2 H2 w2 x2 r2 => h v Hk2 H2 w2 (x.trans x2) (r2.back x)
section
variable {X : Cx} {a b c e : Expr} {es rest : List Expr} {ma mb mc m : EM R} {pos : Pos}
/-! ### chains -/
theorem echain_go {r r' : R2} {g g' : MS → SV → SV → Option R} (hd : OpD X.K r g) (hd' : OpD X.K r' g') : ∀ σ H Q, tM X.K (eChain g g' ma mb mc) σ H Q → tChain r r' (tV X.K (fz ma)) (tV X.K (fz mb)) (tV X.K (fz mc)) σ H Q := fun σ H Q ⟨Hk, ls, ρ, M, z, M', w, en, hm, q⟩ => by
  obtain ⟨s, M1, h1, h2⟩ := seq_some hm
  obtain ⟨t, M2, h3, h4⟩ := seq_some h2
  refine ⟨Hk, ls, ρ, M, s, M1, w, en, h1, fun v Hk1 H1 w1 x1 r1 => ?_⟩
  refine ⟨Hk1, ls, ρ, M1, t, M2, w1, en.mono x1.kk, h3, fun u Hk2 H2 w2 x2 r2 => ?_⟩
  cases hg : g M2 s t with
  | none => rw [hg] at h4; cases h4
  | some z' =>
    rw [hg] at h4
    refine hd Hk2 H2 M2 ls v u s t z' _ w2 (r1.mono x2.kk) r2 hg fun y Hk3 H3 w3 x3 r3 => ?_
    split at h4
    · rename_i e1
      cases e1
      have ry := Rp.bl_inv r3
      subst ry
      refine ⟨true, rfl, ?_⟩
      rw [if_pos rfl]
      obtain ⟨s5, M5, h5, h6⟩ := seq_some h4
      have x13 := (x1.trans x2).trans x3
      refine ⟨Hk3, ls, ρ, M2, s5, M5, w3, en.mono x13.kk, h5, fun v5 Hk5 H5 w5 x5 r5 => ?_⟩
      cases hg5 : g' M5 t s5 with
      | none => rw [hg5] at h6; cases h6
      | some z5 =>
        rw [hg5] at h6
        cases h6
        exact hd' Hk5 H5 _ ls u v5 t s5 _ Q w5 (r2.mono fun b o z => x5.kk b o (x3.kk b o z)) r5 hg5 (q.back (x13.trans x5))
    · rename_i e1
      cases e1
      cases h4
      have ry := Rp.bl_inv r3
      subst ry
      refine ⟨false, rfl, ?_⟩
      rw [if_neg Bool.false_ne_true]
      exact q _ Hk3 H3 w3 ((x1.trans x2).trans x3) r3
    · cases h4
theorem pm_chain {op op' : CmpOp} {r r' : R2} {g g' : MS → SV → SV → Option R} (ho : OpR X (compareOp op) r) (hd : OpD X.K r g) (ho' : OpR X (compareOp op') r') (hd' : OpD X.K r' g') (ha : PM X a ma) (hb : PM X b mb) (hc : PM X c mc)
    (hm : lastMarks [op, op'] [b, c] = false := by with_unfolding_all rfl) : PM X (.Compare a [op, op'] [b, c] pos) (eChain g g' ma mb mc) := PE.imp (pe_chain ho ho' (PM.v ha) (PM.v hb) (PM.v hc) hm) (echain_go hd hd')

/-! ### truth -/
def truthS (M : MS) : SV → Option Bool
  | .dt .non => some false
  | .dt (.bl b) => some b
  | .dt (.int i) => some (i != 0)
  | .dt (.str s) => if s.length ≤ sizeLine then some ((s.length : Int) != 0) else none
  | s => match itemsOf M s with
    | some xs => some (!xs.isEmpty)
    | none => none
theorem SVs.empty {K : PySem.W.Frag} {Hk : Hp} {ls : List Addr} {n : Nat} {vs : List V} {ss : List SV} (h : SVs K Hk ls n vs ss) : vs.isEmpty = ss.isEmpty := by cases h <;> rfl
theorem truthS_ok {K : PySem.W.Frag} {Hk H : Hp} {M : MS} {ls : List Addr} {x : V} {s : SV} {k : Bool} (w : World K Hk H M ls) (rx : SVr K Hk ls ls.length x s) (e : truthS M s = some k) : TruV K x H k := by
  unfold truthS at e
  split at e
  · cases rx; cases e; rfl
  · cases rx; cases e; rfl
  · cases rx; cases e; rfl
  · cases rx
    split at e
    · rename_i h; cases e; exact ⟨h, rfl⟩
    · cases e
  · split at e
    · rename_i xs hx
      cases e
      obtain ⟨p, vs, rfl, hq, hs⟩ := itemsOf_ok w rx hx
      rcases hq with hq | hq
      · exact .inl ⟨vs, hq, by rw [hs.empty]⟩
      · exact .inr (.inl ⟨vs, hq, by rw [hs.empty]⟩)
    · cases e
/-- a test of a value -/
def eTru (m : EM R) : EM Bool := (fz m).seq fun s => fun _ M => match truthS M s with
  | some k => some (k, M)
  | none => none
theorem etru_some {ρ : Env} {M : MS} {z : Bool × MS} (h : eTru m ρ M = some z) : ∃ s, fz m ρ M = some (s, z.2) ∧ truthS z.2 s = some z.1 := by
  obtain ⟨s, M1, h1, h2⟩ := seq_some h
  cases ht : truthS M1 s with
  | none => rw [ht] at h2; cases h2
  | some k =>
    rw [ht] at h2
    cases h2
    exact ⟨s, h1, ht⟩
theorem ptm_val (h : PM X e m) (he : ∀ whole, isTrue e X.env whole = (do let v ← whole; standAt e.pos; holding [v] (truthy v)) := by intro _; rfl) : PTm X e (eTru m) := PT.imp (pt_truth (PM.v h) he) fun σ H Q ⟨Hk, ls, ρ, M, r, M', w, en, hm, q⟩ => by
  obtain ⟨s, h1, h2⟩ := etru_some hm
  refine ⟨Hk, ls, ρ, M, s, M', w, en, h1, fun v Hk1 H1 w1 x1 r1 => ⟨r, truthS_ok w1 r1 h2, q Hk1 H1 w1 x1⟩⟩
/-- a comparison's answer -/
def eBool (m : EM R) : EM Bool := m.seq fun r => fun _ M => match r with
  | .sv (.dt (.bl k)) => some (k, M)
  | _ => none
theorem ebool_go {t : TE} (i : ∀ σ H Q, tM X.K m σ H Q → t σ H Q) : ∀ σ H Q, tT X.K (eBool m) σ H Q → tTest t σ H Q := fun σ H Q ⟨Hk, ls, ρ, M, r, M', w, en, hm, q⟩ => by
  obtain ⟨z, M1, h1, h2⟩ := seq_some hm
  refine i σ H _ ⟨Hk, ls, ρ, M, z, M1, w, en, h1, fun v Hk1 H1 w1 x1 r1 => ?_⟩
  split at h2
  · cases h2
    exact ⟨_, Rp.bl_inv r1, q Hk1 H1 w1 x1⟩
  · cases h2
theorem ptm_cmp {op : CmpOp} {r : R2} {g : MS → SV → SV → Option R} (ho : OpR X (compareOp op) r) (hd : OpD X.K r g) (ha : PM X a ma) (hb : PM X b mb) (hm : behindInMarks op b = false := by first | exact nomark _ | rfl) : PTm X (.Compare a [op] [b] pos) (eBool (eBin g ma mb)) :=
  PT.imp (pt_cmpR ho (PM.v ha) (PM.v hb) hm) (ebool_go (ebin_go hd))
theorem ptm_chain {op op' : CmpOp} {r r' : R2} {g g' : MS → SV → SV → Option R} (ho : OpR X (compareOp op) r) (hd : OpD X.K r g) (ho' : OpR X (compareOp op') r') (hd' : OpD X.K r' g') (ha : PM X a ma) (hb : PM X b mb) (hc : PM X c mc)
    (hm : lastMarks [op, op'] [b, c] = false := by with_unfolding_all rfl) : PTm X (.Compare a [op, op'] [b, c] pos) (eBool (eChain g g' ma mb mc)) := PT.imp (pt_chain ho ho' (PM.v ha) (PM.v hb) (PM.v hc) hm) (ebool_go (echain_go hd hd'))
theorem ptm_eq (hu : X.A.units + 64 < cLine) (ha : PM X a ma) (hb : PM X b mb) : PTm X (.Compare a [.Eq] [b] pos) (eBool (eBin gEq ma mb)) := ptm_cmp (op_eqT hu) opd_eq ha hb
theorem ptm_ne (hu : X.A.units + 64 < cLine) (ha : PM X a ma) (hb : PM X b mb) : PTm X (.Compare a [.NotEq] [b] pos) (eBool (eBin gNe ma mb)) := ptm_cmp (op_neT hu) opd_ne ha hb
theorem ptm_lt (ha : PM X a ma) (hb : PM X b mb) : PTm X (.Compare a [.Lt] [b] pos) (eBool (eBin gLt ma mb)) := ptm_cmp op_lt opd_lt ha hb
theorem ptm_le (ha : PM X a ma) (hb : PM X b mb) : PTm X (.Compare a [.LtE] [b] pos) (eBool (eBin gLe ma mb)) := ptm_cmp op_le opd_le ha hb
theorem ptm_gt (ha : PM X a ma) (hb : PM X b mb) : PTm X (.Compare a [.Gt] [b] pos) (eBool (eBin gGt ma mb)) := ptm_cmp op_gt opd_gt ha hb
theorem ptm_ge (ha : PM X a ma) (hb : PM X b mb) : PTm X (.Compare a [.GtE] [b] pos) (eBool (eBin gGe ma mb)) := ptm_cmp op_ge opd_ge ha hb
theorem ptm_in (ha : PM X a ma) (hb : PM X b mb) (hm : behindInMarks .In b = false := by rfl) : PTm X (.Compare a [.In] [b] pos) (eBool (eBin gIn ma mb)) := ptm_cmp op_inS opd_in ha hb hm
theorem ptm_notIn (ha : PM X a ma) (hb : PM X b mb) (hm : behindInMarks .NotIn b = false := by rfl) : PTm X (.Compare a [.NotIn] [b] pos) (eBool (eBin gNotIn ma mb)) := ptm_cmp op_notInS opd_notIn ha hb hm
theorem ptm_is (ha : PM X a ma) (hb : PM X b mb) : PTm X (.Compare a [.Is] [b] pos) (eBool (eBin gIs ma mb)) := ptm_cmp op_isBl opd_is ha hb

/-! ### and, or, not as tests -/
variable {ca cb : EM Bool}
abbrev PWm (X : Cx) (e : Expr) (m : EM Bool) : Prop := PW X e (tT X.K m)
theorem PW.imp {X : Cx} {e : Expr} {t u : TT} (h : PW X e t) (i : ∀ σ H Q, u σ H Q → t σ H Q) : PW X e u := ⟨fun wh pins s σ H Q I q => h.run wh pins s σ H Q I (i σ H Q q)⟩
def tAndB (ca cb : EM Bool) : EM Bool := ca.seq fun k => if k = true then cb else EM.ret false
def tOrB (ca cb : EM Bool) : EM Bool := ca.seq fun k => if k = true then EM.ret true else cb
def tNotB (ca : EM Bool) : EM Bool := ca.seq fun k => EM.ret (!k)
theorem pwm_and1 (ha : PTm X a ca) : PWm X (.BoolOp .And [a] pos) ca := pw_and1 ha
theorem pwm_or1 (ha : PTm X a ca) : PWm X (.BoolOp .Or [a] pos) ca := pw_or1 ha
theorem pwm_and (ha : PTm X a ca) (hb : PWm X (.BoolOp .And (b :: rest) pos) cb) : PWm X (.BoolOp .And (a :: b :: rest) pos) (tAndB ca cb) := PW.imp (pw_and ha hb) fun σ H Q ⟨Hk, ls, ρ, M, r, M', w, en, hm, q⟩ => by
  obtain ⟨k, M1, h1, h2⟩ := seq_some hm
  refine ⟨Hk, ls, ρ, M, k, M1, w, en, h1, fun Hk1 H1 w1 x1 => ?_⟩
  cases k with
  | true =>
    rw [if_pos rfl] at h2 ⊢
    exact ⟨Hk1, ls, ρ, M1, r, M', w1, en.mono x1.kk, h2, fun Hk2 H2 w2 x2 => q Hk2 H2 w2 (x1.trans x2)⟩
  | false =>
    rw [if_neg Bool.false_ne_true] at h2 ⊢
    cases h2
    exact q Hk1 H1 w1 x1
theorem pwm_or (ha : PTm X a ca) (hb : PWm X (.BoolOp .Or (b :: rest) pos) cb) : PWm X (.BoolOp .Or (a :: b :: rest) pos) (tOrB ca cb) := PW.imp (pw_or ha hb) fun σ H Q ⟨Hk, ls, ρ, M, r, M', w, en, hm, q⟩ => by
  obtain ⟨k, M1, h1, h2⟩ := seq_some hm
  refine ⟨Hk, ls, ρ, M, k, M1, w, en, h1, fun Hk1 H1 w1 x1 => ?_⟩
  cases k with
  | true =>
    rw [if_pos rfl] at h2 ⊢
    cases h2
    exact q Hk1 H1 w1 x1
  | false =>
    rw [if_neg Bool.false_ne_true] at h2 ⊢
    exact ⟨Hk1, ls, ρ, M1, r, M', w1, en.mono x1.kk, h2, fun Hk2 H2 w2 x2 => q Hk2 H2 w2 (x1.trans x2)⟩
theorem PWm.t {e : Expr} (h : PWm X e ca) : PTm X e ca := PW.pt h
theorem ptm_not (ha : PTm X a ca) : PTm X (.UnaryOp .Not a pos) (tNotB ca) := PT.imp (pt_not ha) fun σ H Q ⟨Hk, ls, ρ, M, r, M', w, en, hm, q⟩ => by
  obtain ⟨k, M1, h1, h2⟩ := seq_some hm
  cases h2
  exact ⟨Hk, ls, ρ, M, k, _, w, en, h1, fun Hk1 H1 w1 x1 => q Hk1 H1 w1 x1⟩

/-! ### and, or, not as values -/
def eAnd (ma mb : EM R) : EM R := (fz ma).seq fun s => fun ρ M => match truthS M s with
  | some true => mb ρ M
  | some false => some (.sv s, M)
  | none => none
def eOr (ma mb : EM R) : EM R := (fz ma).seq fun s => fun ρ M => match truthS M s with
  | some true => some (.sv s, M)
  | some false => mb ρ M
  | none => none
def eNot (ma : EM R) : EM R := (fz ma).seq fun s => fun _ M => match truthS M s with
  | some k => some (.sv (.dt (.bl (!k))), M)
  | none => none
theorem pm_one {op} (h : PM X a ma) : PM X (.BoolOp op [a] pos) ma := pe_one h
theorem pm_and (ha : PM X a ma) (hb : PM X (.BoolOp .And (b :: rest) pos) mb) : PM X (.BoolOp .And (a :: b :: rest) pos) (eAnd ma mb) := PE.imp (pe_andT (PM.v ha) hb) fun σ H Q ⟨Hk, ls, ρ, M, r, M', w, en, hm, q⟩ => by
  obtain ⟨s, M1, h1, h2⟩ := seq_some hm
  refine ⟨Hk, ls, ρ, M, s, M1, w, en, h1, fun v Hk1 H1 w1 x1 r1 => ?_⟩
  cases ht : truthS M1 s with
  | none => rw [ht] at h2; cases h2
  | some k =>
    rw [ht] at h2
    refine ⟨k, truthS_ok w1 r1 ht, ?_⟩
    cases k with
    | true =>
      rw [if_pos rfl]
      exact ⟨Hk1, ls, ρ, M1, r, M', w1, en.mono x1.kk, h2, q.back x1⟩
    | false =>
      rw [if_neg Bool.false_ne_true]
      cases h2
      exact q v Hk1 H1 w1 x1 r1
theorem pm_or (ha : PM X a ma) (hb : PM X (.BoolOp .Or (b :: rest) pos) mb) : PM X (.BoolOp .Or (a :: b :: rest) pos) (eOr ma mb) := PE.imp (pe_orT (PM.v ha) hb) fun σ H Q ⟨Hk, ls, ρ, M, r, M', w, en, hm, q⟩ => by
  obtain ⟨s, M1, h1, h2⟩ := seq_some hm
  refine ⟨Hk, ls, ρ, M, s, M1, w, en, h1, fun v Hk1 H1 w1 x1 r1 => ?_⟩
  cases ht : truthS M1 s with
  | none => rw [ht] at h2; cases h2
  | some k =>
    rw [ht] at h2
    refine ⟨k, truthS_ok w1 r1 ht, ?_⟩
    cases k with
    | true =>
      rw [if_pos rfl]
      cases h2
      exact q v Hk1 H1 w1 x1 r1
    | false =>
      rw [if_neg Bool.false_ne_true]
      exact ⟨Hk1, ls, ρ, M1, r, M', w1, en.mono x1.kk, h2, q.back x1⟩
theorem pm_not (ha : PM X a ma) : PM X (.UnaryOp .Not a pos) (eNot ma) := PE.imp (pe_notT (PM.v ha)) fun σ H Q ⟨Hk, ls, ρ, M, r, M', w, en, hm, q⟩ => by
  obtain ⟨s, M1, h1, h2⟩ := seq_some hm
  refine ⟨Hk, ls, ρ, M, s, M1, w, en, h1, fun v Hk1 H1 w1 x1 r1 => ?_⟩
  cases ht : truthS M1 s with
  | none => rw [ht] at h2; cases h2
  | some k =>
    rw [ht] at h2
    cases h2
    exact ⟨k, truthS_ok w1 r1 ht, q _ Hk1 H1 w1 x1 (Rp.bl _)⟩
def eNeg (ma : EM R) : EM R := (fz ma).seq fun s => fun _ M => match s with
  | .dt (.int i) => some (.sv (.dt (.int (-i))), M)
  | _ => none
theorem pm_neg (ha : PM X a ma) : PM X (.UnaryOp .USub a pos) (eNeg ma) := PE.imp (pe_un un_neg (PM.v ha)) fun σ H Q ⟨Hk, ls, ρ, M, r, M', w, en, hm, q⟩ => by
  obtain ⟨s, M1, h1, h2⟩ := seq_some hm
  refine ⟨Hk, ls, ρ, M, s, M1, w, en, h1, fun v Hk1 H1 w1 x1 r1 => ?_⟩
  split at h2
  · cases h2
    exact ⟨_, Rp.int_inv r1, q _ Hk1 H1 w1 x1 (Rp.int _)⟩
  · cases h2
/-- a if t else b -/
def eIf (c : EM Bool) (ma mb : EM R) : EM R := c.seq fun k => if k = true then ma else mb
theorem pm_if (hc : PTm X c ca) (ha : PM X a ma) (hb : PM X b mb) : PM X (.IfExp c a b pos) (eIf ca ma mb) := PE.imp (pe_ifExp hc ha hb) fun σ H Q ⟨Hk, ls, ρ, M, r, M', w, en, hm, q⟩ => by
  obtain ⟨k, M1, h1, h2⟩ := seq_some hm
  refine ⟨Hk, ls, ρ, M, k, M1, w, en, h1, fun Hk1 H1 w1 x1 => ?_⟩
  cases k with
  | true =>
    rw [if_pos rfl] at h2 ⊢
    exact ⟨Hk1, ls, ρ, M1, r, M', w1, en.mono x1.kk, h2, q.back x1⟩
  | false =>
    rw [if_neg Bool.false_ne_true] at h2 ⊢
    exact ⟨Hk1, ls, ρ, M1, r, M', w1, en.mono x1.kk, h2, q.back x1⟩

/-! ### displays -/
variable {ms : EM (List SV)}
def eTup (ms : EM (List SV)) : EM R := ms.seq fun ss => fun _ M => match allD ss with
  | some ds => if ds.length ≤ sizeLine then some (.sv (.dt (.tup ds)), M) else none
  | none => none
def eLst (ms : EM (List SV)) : EM R := ms.seq fun ss => fun _ M => match allD ss with
  | some ds => if ds.length ≤ sizeLine then some (.fr ds, M) else none
  | none => none
theorem pm_tup {x1} (h : PAm X es ms) : PM X (.Tuple es x1 pos) (eTup ms) := PE.imp (pe_tup h) fun σ H Q ⟨Hk, ls, ρ, M, r, M', w, en, hm, q⟩ => by
  obtain ⟨ss, M1, h1, h2⟩ := seq_some hm
  refine ⟨Hk, ls, ρ, M, ss, M1, w, en, h1, fun vs Hk1 H1 w1 x1 r1 => ?_⟩
  split at h2
  · rename_i ds hd
    split at h2
    · rename_i hz
      cases h2
      have ra := r1.toA hd
      exact ⟨by rw [ra.length]; exact hz, fun p hp => (q.back x1).newT w1 hp ra⟩
    · cases h2
  · cases h2
theorem pm_lst (h : PAm X es ms) : PM X (.List es pos) (eLst ms) := PE.imp (pe_lst h) fun σ H Q ⟨Hk, ls, ρ, M, r, M', w, en, hm, q⟩ => by
  obtain ⟨ss, M1, h1, h2⟩ := seq_some hm
  refine ⟨Hk, ls, ρ, M, ss, M1, w, en, h1, fun vs Hk1 H1 w1 x1 r1 => ?_⟩
  split at h2
  · rename_i ds hd
    split at h2
    · rename_i hz
      cases h2
      have ra := r1.toA hd
      exact ⟨by rw [ra.length]; exact hz, fun p hp => (q.back x1).newL w1 hp ra⟩
    · cases h2
  · cases h2

/-! ### subscripts and slices -/
def gIx (M : MS) (s t : SV) : Option R := match t with
  | .dt (.int i) => match s with
    | .dt (.str z) => if z.length ≤ sizeLine then match atI z.cps.toList i with
        | some c => some (.sv (.dt (.str ⟨#[c]⟩)))
        | none => none
      else none
    | s => match itemsOf M s with
      | some xs => match atI xs i with
        | some y => some (.sv y)
        | none => none
      | none => none
  | _ => none
theorem SVs.atI {K : PySem.W.Frag} {Hk : Hp} {ls : List Addr} {n : Nat} {vs : List V} {ss : List SV} {i : Int} {s : SV} (h : SVs K Hk ls n vs ss) (e : L2.atI ss i = some s) : ∃ v, L2.atI vs i = some v ∧ SVr K Hk ls n v s := by
  unfold L2.atI at e ⊢
  rw [h.length]
  cases hj : ixN ss.length i with
  | none => rw [hj] at e; cases e
  | some j =>
    rw [hj] at e
    exact h.get e
theorem opd_ix {K : PySem.W.Frag} : OpD K (rIx K) gIx := by
  intro Hk H M ls x y s t z Q w rx ry e q
  unfold gIx at e
  split at e
  · rename_i i
    split at e
    · rename_i z'
      split at e
      · rename_i hz
        split at e
        · rename_i c hc
          cases e
          exact .inr (.inr ⟨z', i, c, Rp.str_inv rx, Rp.int_inv ry, hz, hc, q.dt w (.str _)⟩)
        · cases e
      · cases e
    · split at e
      · rename_i xs hx
        split at e
        · rename_i y' hy
          cases e
          obtain ⟨p, vs, rfl, hq, hs⟩ := itemsOf_ok w rx hx
          obtain ⟨v, hv, rv⟩ := hs.atI hy
          rcases hq with hq | hq
          · exact .inl ⟨p, vs, i, v, rfl, Rp.int_inv ry, hq, hv, q v Hk H w (Ext.refl _ _ _) rv⟩
          · exact .inr (.inl ⟨p, vs, i, v, rfl, Rp.int_inv ry, hq, hv, q v Hk H w (Ext.refl _ _ _) rv⟩)
        · cases e
      · cases e
  · cases e
theorem pm_sub_ix (ha : PM X a ma) (hb : PM X b mb) (hs : PlainIx b := by exact fun _ _ => rfl) : PM X (.Subscript a b pos) (eBin gIx ma mb) := pm_ix ix_seq opd_ix ha hb hs
def cutD (xs : List D) (lo hi : Option Int) : List D := (xs.drop (HT.sIx xs.length 0 lo)).take (HT.sIx xs.length xs.length hi - HT.sIx xs.length 0 lo)
theorem RpA.cut {K : PySem.W.Frag} {H : Hp} {vs : List V} {ds : List D} (h : RpA K H vs ds) (lo hi : Option Int) : RpA K H (cutV vs lo hi) (cutD ds lo hi) := by
  unfold cutV cutD
  rw [h.length]
  exact (h.drop _).take _
/-- a part of a slice -/
def eNoPart : EM (Option Int) := EM.ret none
def ePart (m : EM R) : EM (Option Int) := (fz m).seq fun s => fun _ M => match s with
  | .dt (.int i) => some (some i, M)
  | _ => none
def tO (K : PySem.W.Frag) (m : EM (Option Int)) : TO := fun σ H Q => ∃ Hk ls ρ M r M', World K Hk H M ls ∧ EnvR K Hk ls σ ρ ∧ m ρ M = some (r, M') ∧ ∀ Hk' H', World K Hk' H' M' ls → Ext ls Hk H Hk' H' → Q r H'
abbrev POm (X : Cx) (e : Option Expr) (m : EM (Option Int)) : Prop := PO X e (tO X.K m)
theorem pom_none : POm X none eNoPart := ⟨fun pins s σ H Q I ⟨Hk, ls, ρ, M, r, M', w, en, hm, q⟩ => by
  cases hm
  exact po_none.run pins s σ H Q I (q Hk H w (Ext.refl _ _ _))⟩
theorem pom_some (h : PM X e m) : POm X (some e) (ePart m) := ⟨fun pins s σ H Q I ⟨Hk, ls, ρ, M, r, M', w, en, hm, q⟩ => by
  obtain ⟨s1, M1, h1, h2⟩ := seq_some hm
  refine (po_some (PM.v h)).run pins s σ H Q I ⟨Hk, ls, ρ, M, s1, M1, w, en, h1, fun v Hk1 H1 w1 x1 r1 => ?_⟩
  split at h2
  · cases h2
    exact ⟨_, Rp.int_inv r1, q Hk1 H1 w1 x1⟩
  · cases h2⟩
def gSl (M : MS) (s : SV) (lo hi : Option Int) : Option R := match s with
  | .dt (.str z) => if z.length ≤ sizeLine then some (.sv (.dt (.str (cutS z lo hi)))) else none
  | .dt (.tup ds) => some (.sv (.dt (.tup (cutD ds lo hi))))
  | .dt (.scr ns) => some (.fr (cutD (ns.map .int) lo hi))
  | s => match listD M s with
    | some ds => some (.fr (cutD ds lo hi))
    | none => none
def eSlice (m : EM R) (lo hi : EM (Option Int)) : EM R := (fz m).seq fun s => lo.seq fun l => hi.seq fun h => fun _ M => match gSl M s l h with
  | some z => some (z, M)
  | none => none
def rSlS3 (K : PySem.W.Frag) : V → Option Int → Option Int → Hp → VK → Prop := fun x lo hi H Q => rSlS x lo hi H Q ∨ rSlA K x lo hi H Q ∨ rSlL K x lo hi H Q
theorem sl_any : SlR X (rSlS3 X.K) := SlR.or sl_str (SlR.or sl_tupA sl_list)
theorem RpA.ints {K : PySem.W.Frag} {H : Hp} : ∀ ns : List Int, RpA K H (ns.map V.int) (ns.map D.int)
  | [] => .nil
  | n :: r => .cons (.int n) (RpA.ints r)
theorem gsl_ok {K : PySem.W.Frag} {Hk H : Hp} {M : MS} {ls : List Addr} {x : V} {s : SV} {lo hi : Option Int} {z : R} {Q : VK} (w : World K Hk H M ls) (rx : SVr K Hk ls ls.length x s) (e : gSl M s lo hi = some z) (q : Res K ls Hk H z M Q) : rSlS3 K x lo hi H Q := by
  unfold gSl at e
  split at e
  · split at e
    · rename_i hz
      cases e
      exact .inl ⟨_, Rp.str_inv rx, hz, q.dt w (.str _)⟩
    · cases e
  · rename_i ds
    cases e
    cases rx with
    | tup h a =>
      rename_i p us
      refine .inr (.inl ⟨p, us, rfl, same_t w.sub h, fun hw => ?_, fun _ p' hp => q.newT w hp (a.cut lo hi)⟩)
      have e1 : cutD ds lo hi = ds := by
        unfold cutD
        rw [← a.length, hw.1, hw.2]
        rw [List.drop_zero, Nat.sub_zero, a.length, List.take_length]
      rw [e1] at q
      exact q.dt w (.tup h a)
  · rename_i ns
    cases e
    cases rx with
    | scr h => exact .inr (.inr ⟨_, _, rfl, same_l w.sub h, fun p hp => q.newL w hp ((RpA.ints ns).cut lo hi)⟩)
  · split at e
    · rename_i ds hd
      cases e
      obtain ⟨a, us, rfl, ha, ra⟩ := listD_ok w rx hd
      exact .inr (.inr ⟨a, us, rfl, SqL.of ha, fun p hp => q.newL w hp (ra.cut lo hi)⟩)
    · cases e
theorem pm_slice {lo hi : Option Expr} {ml mh : EM (Option Int)} {p2 : Pos} (h : PM X e m) (hl : POm X lo ml) (hh : POm X hi mh) : PM X (.Subscript e (.Slice lo hi none p2) pos) (eSlice m ml mh) := PE.imp (pe_slice sl_any (PM.v h) hl hh) fun σ H Q ⟨Hk, ls, ρ, M, r, M', w, en, hm, q⟩ => by
  obtain ⟨s, M1, h1, h2⟩ := seq_some hm
  obtain ⟨l, M2, h3, h4⟩ := seq_some h2
  obtain ⟨u, M3, h5, h6⟩ := seq_some h4
  refine ⟨Hk, ls, ρ, M, s, M1, w, en, h1, fun v Hk1 H1 w1 x1 r1 => ?_⟩
  refine ⟨Hk1, ls, ρ, M1, l, M2, w1, en.mono x1.kk, h3, fun Hk2 H2 w2 x2 => ?_⟩
  refine ⟨Hk2, ls, ρ, M2, u, M3, w2, en.mono (x1.trans x2).kk, h5, fun Hk3 H3 w3 x3 => ?_⟩
  cases hg : gSl M3 s l u with
  | none => rw [hg] at h6; cases h6
  | some z =>
    rw [hg] at h6
    cases h6
    exact gsl_ok w3 (r1.mono fun b o z => x3.kk b o (x2.kk b o z)) hg (q.back ((x1.trans x2).trans x3))
end
end Dy

set_option Elab.async false
set_option linter.all false
set_option maxRecDepth 100000
set_option maxHeartbeats 4000000
namespace Dy
open PySem L2

/-! ### what statements may change -/
structure ExtS (ls ls' : List Addr) (Hk H Hk' H' : Hp) : Prop where
  pre : ∃ t, ls' = ls ++ t
  kk : Same Hk Hk'
  fr : ∀ a o, H a = some o → a ∉ ls → H' a = some o
  gr : ∀ a, Hk' a ≠ none → Hk a ≠ none ∨ H a = none
  nw : ∀ a ∈ ls', a ∈ ls ∨ H a = none
  st : ∀ a, H a ≠ none → H' a ≠ none
section
variable {K : PySem.W.Frag} {Hk H Hk' H' Hk2 H2 : Hp} {M M' : MS} {ls ls' ls2 : List Addr}
theorem Ext.s (x : Ext ls Hk H Hk' H') : ExtS ls ls Hk H Hk' H' := ⟨⟨[], by simp⟩, x.kk, x.fr, x.gr, fun _ h => .inl h, x.st⟩
theorem ExtS.refl (ls : List Addr) (Hk H : Hp) : ExtS ls ls Hk H Hk H := (Ext.refl ls Hk H).s
theorem ExtS.trans (a : ExtS ls ls' Hk H Hk' H') (b : ExtS ls' ls2 Hk' H' Hk2 H2) : ExtS ls ls2 Hk H Hk2 H2 where
  pre := by
    obtain ⟨t, rfl⟩ := a.pre
    obtain ⟨u, rfl⟩ := b.pre
    exact ⟨t ++ u, by rw [List.append_assoc]⟩
  kk := fun x o h => b.kk x o (a.kk x o h)
  fr := fun x o h hn => b.fr x o (a.fr x o h hn) fun z => by
    rcases a.nw x z with z | z
    · exact hn z
    · rw [h] at z; cases z
  gr := fun x h => by
    rcases b.gr x h with h | h
    · exact a.gr x h
    · right
      cases e : H x with
      | none => rfl
      | some o => exact absurd h (a.st x (by rw [e]; simp))
  nw := fun x h => by
    rcases b.nw x h with h | h
    · exact a.nw x h
    · right
      cases e : H x with
      | none => rfl
      | some o => exact absurd h (a.st x (by rw [e]; simp))
  st := fun x h => b.st x (a.st x h)
theorem ExtS.back (x : ExtS ls ls' Hk H Hk' H') {l : Addr} (h : H' l = none) : H l = none := by
  cases e : H l with
  | none => rfl
  | some o => exact absurd h (x.st l (by rw [e]; simp))
theorem Rr.backS {v : V} {r : R} (x : ExtS ls ls' Hk H Hk' H') (h : Rr K H' Hk2 H2 ls2 v r) : Rr K H Hk2 H2 ls2 v r := by
  cases r with
  | sv s => exact h
  | fr ds => obtain ⟨l, vs, a, b, c⟩ := h; exact ⟨l, vs, a, x.back b, c⟩
  | fd ks ds => obtain ⟨l, vs, a, b, c⟩ := h; exact ⟨l, vs, a, x.back b, c⟩
theorem SVr.more {n : Nat} {v : V} {s : SV} {t : List Addr} (h : SVr K Hk ls n v s) : SVr K Hk (ls ++ t) n v s := by
  cases s with
  | dt d => exact h
  | mu k =>
    obtain ⟨a, l, b, c⟩ := h
    refine ⟨a, l, ?_, c⟩
    rw [List.getElem?_append_left (List.getElem?_eq_some_iff.mp b).1]
    exact b
theorem SVs.more {n : Nat} {t : List Addr} : ∀ {vs : List V} {ss : List SV}, SVs K Hk ls n vs ss → SVs K Hk (ls ++ t) n vs ss
  | _, _, .nil => .nil
  | _, _, .cons r u => .cons r.more (SVs.more u)
theorem SVr.extS {v : V} {s : SV} (x : ExtS ls ls' Hk H Hk' H') (h : SVr K Hk ls ls.length v s) : SVr K Hk' ls' ls'.length v s := by
  obtain ⟨t, rfl⟩ := x.pre
  exact ((h.mono x.kk).more).up (by simp)
theorem EnvR.extS {σ : St} {ρ : Env} (x : ExtS ls ls' Hk H Hk' H') (h : EnvR K Hk ls σ ρ) : EnvR K Hk' ls' σ ρ :=
  ⟨h.1, fun i s q => let ⟨v, a, b⟩ := h.2 i s q; ⟨v, a, b.extS x⟩⟩
theorem EnvR.set {σ : St} {ρ : Env} {i : Nat} {v : V} {s : SV} (h : EnvR K Hk ls σ ρ) (r : SVr K Hk ls ls.length v s) : EnvR K Hk ls (σ.set i (some v)) (ρ.set i (some s)) := by
  refine ⟨by rw [List.length_set, List.length_set]; exact h.1, fun j t e => ?_⟩
  by_cases hj : i = j
  · subst hj
    by_cases hl : i < ρ.length
    · rw [List.getElem?_set_self hl] at e
      cases e
      exact ⟨v, List.getElem?_set_self (by rw [← h.1]; exact hl), r⟩
    · rw [List.getElem?_eq_none (by rw [List.length_set]; omega)] at e
      cases e
  · rw [List.getElem?_set_ne hj] at e ⊢
    exact h.2 j t e
/-- a fresh thing gets a handle -/
theorem World.push {l : Addr} {o : MO} (w : World K Hk H M ls) (hl : l ∉ ls) (hn : Hk l = none) (ho : MOr K Hk H ls M.length l o) : World K Hk H (M ++ [o]) (ls ++ [l]) where
  sub := w.sub
  len := by rw [List.length_append, List.length_append, w.len]; rfl
  nd := by
    rw [List.nodup_append]
    refine ⟨w.nd, by simp, fun a ha b hb => ?_⟩
    have : b = l := by simpa using hb
    subst this
    exact fun e => hl (e ▸ ha)
  dj := fun a ha => by
    rcases List.mem_append.mp ha with h | h
    · exact w.dj a h
    · have : a = l := by simpa using h
      subst this; exact hn
  ms := fun k x e => by
    by_cases hk : k < M.length
    · rw [List.getElem?_append_left hk] at e
      obtain ⟨l', a, b⟩ := w.ms k x e
      refine ⟨l', by rw [List.getElem?_append_left (List.getElem?_eq_some_iff.mp a).1]; exact a, ?_⟩
      cases x with
      | l xs => obtain ⟨vs, p, q⟩ := b; exact ⟨vs, p, q.more⟩
      | d ks xs => obtain ⟨vs, p, q, r⟩ := b; exact ⟨vs, p, q, r.more⟩
      | i C ns xs => exact b
    · have hk2 : k = M.length := by
        have := (List.getElem?_eq_some_iff.mp e).1
        rw [List.length_append] at this
        simp at this
        omega
      subst hk2
      rw [List.getElem?_append_right (Nat.le_refl _)] at e
      simp at e
      subst e
      refine ⟨l, by rw [w.len, List.getElem?_append_right (Nat.le_refl _)]; simp, ?_⟩
      cases o with
      | l xs => obtain ⟨vs, p, q⟩ := ho; exact ⟨vs, p, q.more⟩
      | d ks xs => obtain ⟨vs, p, q, r⟩ := ho; exact ⟨vs, p, q, r.more⟩
      | i C ns xs => exact ho
end

/-! ### statements -/
inductive Out where
  | nx (ρ : Env) (M : MS) | rt (r : R) (M : MS) | bk (ρ : Env) (M : MS) | ct (ρ : Env) (M : MS)
abbrev SM := Env → MS → Option Out
def OutR (K : PySem.W.Frag) (ls : List Addr) (Hk H : Hp) (E : Ends) : Out → Prop
  | .nx ρ' M' => ∀ σ' Hk' H' ls', World K Hk' H' M' ls' → ExtS ls ls' Hk H Hk' H' → EnvR K Hk' ls' σ' ρ' → E.nx σ' H'
  | .rt r M' => ∀ v Hk' H' ls', World K Hk' H' M' ls' → ExtS ls ls' Hk H Hk' H' → Rr K H Hk' H' ls' v r → E.rt v H'
  | .bk ρ' M' => ∀ σ' Hk' H' ls', World K Hk' H' M' ls' → ExtS ls ls' Hk H Hk' H' → EnvR K Hk' ls' σ' ρ' → E.bk σ' H'
  | .ct ρ' M' => ∀ σ' Hk' H' ls', World K Hk' H' M' ls' → ExtS ls ls' Hk H Hk' H' → EnvR K Hk' ls' σ' ρ' → E.ct σ' H'
def tS (K : PySem.W.Frag) (m : SM) : TS := fun E σ H => ∃ Hk ls ρ M o, World K Hk H M ls ∧ EnvR K Hk ls σ ρ ∧ m ρ M = some o ∧ OutR K ls Hk H E o
abbrev PSm (X : Cx) (st : Stmt) (m : SM) : Prop := PS X st (tS X.K m)
abbrev PSsm (X : Cx) (st : List Stmt) (m : SM) : Prop := PSs X st (tS X.K m)
theorem OutR.back {K : PySem.W.Frag} {ls ls1 : List Addr} {Hk H Hk1 H1 : Hp} {E : Ends} {o : Out} (x : ExtS ls ls1 Hk H Hk1 H1) (h : OutR K ls Hk H E o) : OutR K ls1 Hk1 H1 E o := by
  cases o with
  | nx ρ M => exact fun σ' Hk' H' ls' w' x' e' => h σ' Hk' H' ls' w' (x.trans x') e'
  | rt r M => exact fun v Hk' H' ls' w' x' e' => h v Hk' H' ls' w' (x.trans x') (e'.backS x)
  | bk ρ M => exact fun σ' Hk' H' ls' w' x' e' => h σ' Hk' H' ls' w' (x.trans x') e'
  | ct ρ M => exact fun σ' Hk' H' ls' w' x' e' => h σ' Hk' H' ls' w' (x.trans x') e'
section
variable {X : Cx} {st : Stmt} {rest : List Stmt} {e c : Expr} {m m1 m2 : SM} {me : EM R} {mc : EM Bool} {pos : Pos}
def sNext : SM := fun ρ M => some (.nx ρ M)
def sSeq (m1 m2 : SM) : SM := fun ρ M => match m1 ρ M with
  | some (.nx ρ' M') => m2 ρ' M'
  | o => o
theorem psm_nil : PSsm X [] sNext := PSs.imp pss_nil fun E σ H ⟨Hk, ls, ρ, M, o, w, en, hm, q⟩ => by
  cases hm
  exact q σ Hk H ls w (ExtS.refl _ _ _) en
theorem psm_cons (h1 : PSm X st m1) (h2 : PSsm X rest m2) : PSsm X (st :: rest) (sSeq m1 m2) := PSs.imp (pss_cons h1 h2) fun E σ H ⟨Hk, ls, ρ, M, o, w, en, hm, q⟩ => by
  unfold sSeq at hm
  cases h : m1 ρ M with
  | none => rw [h] at hm; cases hm
  | some o1 =>
    rw [h] at hm
    refine ⟨Hk, ls, ρ, M, o1, w, en, h, ?_⟩
    cases o1 with
    | nx ρ' M' => exact fun σ' Hk' H' ls' w' x' en' => ⟨Hk', ls', ρ', M', o, w', en', hm, q.back x'⟩
    | rt r M' => cases hm; exact q
    | bk ρ' M' => cases hm; exact q
    | ct ρ' M' => cases hm; exact q
theorem psm_one (h1 : PSm X st m1) : PSsm X [st] m1 := pss_one h1
def sPass : SM := sNext
theorem psm_pass : PSm X (.Pass pos) sNext := PS.imp ps_pass fun E σ H ⟨Hk, ls, ρ, M, o, w, en, hm, q⟩ => by
  cases hm
  exact q σ Hk H ls w (ExtS.refl _ _ _) en
def sBreak : SM := fun ρ M => some (.bk ρ M)
def sCont : SM := fun ρ M => some (.ct ρ M)
theorem psm_break : PSm X (.Break pos) sBreak := PS.imp ps_break fun E σ H ⟨Hk, ls, ρ, M, o, w, en, hm, q⟩ => by
  cases hm
  exact q σ Hk H ls w (ExtS.refl _ _ _) en
theorem psm_cont : PSm X (.Continue pos) sCont := PS.imp ps_continue fun E σ H ⟨Hk, ls, ρ, M, o, w, en, hm, q⟩ => by
  cases hm
  exact q σ Hk H ls w (ExtS.refl _ _ _) en
/-- return e -/
def sRet (me : EM R) : SM := fun ρ M => match me ρ M with
  | some (r, M') => some (.rt r M')
  | none => none
theorem psm_ret (h : PM X e me) : PSm X (.Return (some e) pos) (sRet me) := PS.imp (ps_ret h) fun E σ H ⟨Hk, ls, ρ, M, o, w, en, hm, q⟩ => by
  unfold sRet at hm
  cases hr : me ρ M with
  | none => rw [hr] at hm; cases hm
  | some p =>
    obtain ⟨r, M'⟩ := p
    rw [hr] at hm
    cases hm
    exact ⟨Hk, ls, ρ, M, r, M', w, en, hr, fun v Hk' H' w' x' r' => q v Hk' H' ls w' x'.s r'⟩
def sRetN : SM := fun ρ M => some (.rt (.sv (.dt .non)) M)
theorem psm_retN : PSm X (.Return none pos) sRetN := PS.imp ps_retN fun E σ H ⟨Hk, ls, ρ, M, o, w, en, hm, q⟩ => by
  cases hm
  exact q .non Hk H ls w (ExtS.refl _ _ _) Rp.non
/-- an expression's value dropped -/
def sExpr (me : EM R) : SM := fun ρ M => match me ρ M with
  | some (_, M') => some (.nx ρ M')
  | none => none
theorem psm_expr (h : PM X e me) (hs : swapsWith e none pos.line X.env = pure false := by rfl) : PSm X (.Expr e pos) (sExpr me) := PS.imp (ps_expr h hs) fun E σ H ⟨Hk, ls, ρ, M, o, w, en, hm, q⟩ => by
  unfold sExpr at hm
  cases hr : me ρ M with
  | none => rw [hr] at hm; cases hm
  | some p =>
    obtain ⟨r, M'⟩ := p
    rw [hr] at hm
    cases hm
    exact ⟨Hk, ls, ρ, M, r, M', w, en, hr, fun v Hk' H' w' x' r' => q σ Hk' H' ls w' x'.s (en.mono x'.kk)⟩
theorem psm_doc {x j pos'} : PSm X (.Expr (.Constant (.str x) j pos) pos') sNext := PS.imp ps_doc fun E σ H ⟨Hk, ls, ρ, M, o, w, en, hm, q⟩ => by
  cases hm
  exact q σ Hk H ls w (ExtS.refl _ _ _) en
/-- if -/
def sIf (c : EM Bool) (m1 m2 : SM) : SM := fun ρ M => match c ρ M with
  | some (true, M') => m1 ρ M'
  | some (false, M') => m2 ρ M'
  | none => none
theorem psm_if {a b : List Stmt} (hc : PTm X c mc) (ha : PSsm X a m1) (hb : PSsm X b m2) : PSm X (.If c a b pos) (sIf mc m1 m2) := PS.imp (ps_if hc ha hb) fun E σ H ⟨Hk, ls, ρ, M, o, w, en, hm, q⟩ => by
  unfold sIf at hm
  cases hr : mc ρ M with
  | none => rw [hr] at hm; cases hm
  | some p =>
    obtain ⟨k, M'⟩ := p
    rw [hr] at hm
    refine ⟨Hk, ls, ρ, M, k, M', w, en, hr, fun Hk' H' w' x' => ?_⟩
    cases k with
    | true => rw [if_pos rfl]; exact ⟨Hk', ls, ρ, M', o, w', en.mono x'.kk, hm, q.back x'.s⟩
    | false => rw [if_neg Bool.false_ne_true]; exact ⟨Hk', ls, ρ, M', o, w', en.mono x'.kk, hm, q.back x'.s⟩

/-! ### name = e -/
/-- the value is a datum from here on -/
def sSet (i : Nat) (me : EM R) : SM := fun ρ M => match me ρ M with
  | some (r, M') => some (.nx (ρ.set i (some r.toSV)) M')
  | none => none
/-- a fresh list (dict) gets a handle -/
def sNew (i : Nat) (me : EM R) : SM := fun ρ M => match me ρ M with
  | some (.sv s, M') => some (.nx (ρ.set i (some s)) M')
  | some (.fr ds, M') => some (.nx (ρ.set i (some (.mu M'.length))) (M' ++ [.l (ds.map .dt)]))
  | some (.fd ks ds, M') => some (.nx (ρ.set i (some (.mu M'.length))) (M' ++ [.d ks (ds.map .dt)]))
  | none => none
theorem sset_go {i : Nat} : ∀ (E : Ends) (σ : St) (H : Hp), tS X.K (sSet i me) E σ H → tAsg (tM X.K me) (gName i) E σ H := fun E σ H ⟨Hk, ls, ρ, M, o, w, en, hm, q⟩ => by
  unfold sSet at hm
  cases hr : me ρ M with
  | none => rw [hr] at hm; cases hm
  | some p =>
    obtain ⟨r, M'⟩ := p
    rw [hr] at hm
    cases hm
    refine ⟨Hk, ls, ρ, M, r, M', w, en, hr, fun v Hk' H' w' x' r' => ?_⟩
    obtain ⟨Hk2, w2, x2, s2⟩ := r'.freeze w' x'
    exact q _ Hk2 H' ls w2 x2.s ((en.mono x2.kk).set s2)
theorem snew_go {i : Nat} : ∀ (E : Ends) (σ : St) (H : Hp), tS X.K (sNew i me) E σ H → tAsg (tM X.K me) (gName i) E σ H := fun E σ H ⟨Hk, ls, ρ, M, o, w, en, hm, q⟩ => by
  unfold sNew at hm
  cases hr : me ρ M with
  | none => rw [hr] at hm; cases hm
  | some p =>
    obtain ⟨r, M'⟩ := p
    rw [hr] at hm
    refine ⟨Hk, ls, ρ, M, r, M', w, en, hr, fun v Hk' H' w' x' r' => ?_⟩
    cases r with
    | sv s =>
      cases hm
      exact q _ Hk' H' ls w' x'.s ((en.mono x'.kk).set r')
    | fr ds =>
      cases hm
      obtain ⟨l, vs, rfl, h0, hn, hl, hh, ha⟩ := r'
      have w2 := w'.push (o := .l (ds.map .dt)) hl hn ⟨vs, hh, SVs.ofA ha⟩
      have x2 : ExtS ls (ls ++ [l]) Hk H Hk' H' := ⟨⟨[l], rfl⟩, x'.kk, x'.fr, x'.gr, fun a ha => by
        rcases List.mem_append.mp ha with h | h
        · exact .inl h
        · have : a = l := by simpa using h
          subst this; exact .inr h0, x'.st⟩
      refine q _ Hk' H' _ w2 x2 ((en.extS x2).set ⟨by rw [w'.len]; simp, l, ?_, rfl⟩)
      rw [w'.len, List.getElem?_append_right (Nat.le_refl _)]
      simp
    | fd ks ds =>
      cases hm
      obtain ⟨l, kvs, rfl, h0, hn, hl, hh, hk, ha⟩ := r'
      have w2 := w'.push (o := .d ks (ds.map .dt)) hl hn ⟨kvs, hh, hk, SVs.ofA ha⟩
      have x2 : ExtS ls (ls ++ [l]) Hk H Hk' H' := ⟨⟨[l], rfl⟩, x'.kk, x'.fr, x'.gr, fun a ha => by
        rcases List.mem_append.mp ha with h | h
        · exact .inl h
        · have : a = l := by simpa using h
          subst this; exact .inr h0, x'.st⟩
      refine q _ Hk' H' _ w2 x2 ((en.extS x2).set ⟨by rw [w'.len]; simp, l, ?_, rfl⟩)
      rw [w'.len, List.getElem?_append_right (Nat.le_refl _)]
      simp
theorem psm_set {i : Nat} (h : PS X st (tAsg (tM X.K me) (gName i))) : PSm X st (sSet i me) := PS.imp h sset_go
theorem psm_new {i : Nat} (h : PS X st (tAsg (tM X.K me) (gName i))) : PSm X st (sNew i me) := PS.imp h snew_go
end

/-! ### defs -/
abbrev Fn := List SV → MS → Option (R × MS)
def spM (K : PySem.W.Frag) (n : Nat) (f : Fn) : Sp := fun vs H Q _ => ∃ Hk ls M ss z M', World K Hk H M ls ∧ SVs K Hk ls ls.length vs ss ∧ ss.length = n ∧ f ss M = some (z, M') ∧ Res K ls Hk H z M' Q
def eFn (f : Fn) (ms : EM (List SV)) : EM R := ms.seq fun ss => fun _ M => f ss M
theorem efn_go {X : Cx} {f : Fn} {n : Nat} {ms : EM (List SV)} {E : XK} (hn : ∀ ρ M ss M', ms ρ M = some (ss, M') → ss.length = n) : ∀ σ H Q, tM X.K (eFn f ms) σ H Q → tCall (spM X.K n f) [] E (tA X.K ms) σ H Q := fun σ H Q ⟨Hk, ls, ρ, M, z, M', w, en, hm, q⟩ => by
  obtain ⟨ss, M1, h1, h2⟩ := seq_some hm
  refine ⟨Hk, ls, ρ, M, ss, M1, w, en, h1, fun vs Hk1 H1 w1 x1 r1 => ?_⟩
  show spM X.K n f (vs ++ []) H1 Q E
  rw [List.append_nil]
  exact ⟨Hk1, ls, M1, ss, z, M', w1, r1, hn ρ M ss M1 h1, h2, q.back x1⟩
/-- how many there are -/
theorem len_nil : ∀ (ρ : Env) (M : MS) (ss : List SV) (M' : MS), eNil ρ M = some (ss, M') → ss.length = 0 := fun ρ M ss M' h => by cases h; rfl
theorem len_cons {m : EM R} {ms : EM (List SV)} {n : Nat} (h : ∀ (ρ : Env) (M : MS) (ss : List SV) (M' : MS), ms ρ M = some (ss, M') → ss.length = n) : ∀ (ρ : Env) (M : MS) (ss : List SV) (M' : MS), eCons m ms ρ M = some (ss, M') → ss.length = n + 1 := fun ρ M ss M' e => by
  obtain ⟨s, M1, h1, h2⟩ := seq_some e
  obtain ⟨r, M2, h3, h4⟩ := seq_some h2
  cases h4
  exact congrArg (· + 1) (h ρ M1 r _ h3)
def close (r : R) (M' : MS) (n : Nat) : Option (R × MS) := match r with
  | .sv (.dt d) => some (.sv (.dt d), M'.take n)
  | .sv (.mu k) => if k < n then some (.sv (.mu k), M'.take n) else match M'[k]? with
    | some (.l xs) => match allD xs with
      | some ds => some (.fr ds, M'.take n)
      | none => none
    | some (.d ks xs) => match allD xs with
      | some ds => some (.fd ks ds, M'.take n)
      | none => none
    | _ => none
  | .fr ds => some (.fr ds, M'.take n)
  | .fd ks ds => some (.fd ks ds, M'.take n)
def runBody (b : SM) (n : Nat) : Fn := fun ss M => match b (ss.map some ++ List.replicate (n - ss.length) none) M with
  | some (.rt r M') => close r M' M.length
  | some (.nx _ M') => some (.sv (.dt .non), M'.take M.length)
  | _ => none
section
variable {K : PySem.W.Frag} {Hk H Hk' H' : Hp} {M M' : MS} {ls ls' : List Addr}
theorem SVr.less {n : Nat} {v : V} {s : SV} {t : List Addr} (hn : n ≤ ls.length) (h : SVr K Hk (ls ++ t) n v s) : SVr K Hk ls n v s := by
  cases s with
  | dt d => exact h
  | mu k =>
    obtain ⟨a, l, b, c⟩ := h
    refine ⟨a, l, ?_, c⟩
    rw [List.getElem?_append_left (Nat.lt_of_lt_of_le a hn)] at b
    exact b
theorem SVs.less {n : Nat} {t : List Addr} (hn : n ≤ ls.length) : ∀ {vs : List V} {ss : List SV}, SVs K Hk (ls ++ t) n vs ss → SVs K Hk ls n vs ss
  | _, _, .nil => .nil
  | _, _, .cons r u => .cons (r.less hn) (SVs.less hn u)
theorem World.cut {t : List Addr} (w : World K Hk H M (ls ++ t)) : World K Hk H (M.take ls.length) ls where
  sub := w.sub
  len := by
    have := w.len
    rw [List.length_append] at this
    rw [List.length_take]
    omega
  nd := (List.nodup_append.mp w.nd).1
  dj := fun l h => w.dj l (List.mem_append_left _ h)
  ms := fun k o e => by
    have hk : k < ls.length := by
      have := (List.getElem?_eq_some_iff.mp e).1
      rw [List.length_take] at this
      omega
    rw [List.getElem?_take_of_lt hk] at e
    obtain ⟨l, a, b⟩ := w.ms k o e
    rw [List.getElem?_append_left hk] at a
    refine ⟨l, a, ?_⟩
    cases o with
    | l xs => obtain ⟨vs, p, q⟩ := b; exact ⟨vs, p, q.less (Nat.le_of_lt hk)⟩
    | d ks xs => obtain ⟨vs, p, q, r⟩ := b; exact ⟨vs, p, q, r.less (Nat.le_of_lt hk)⟩
    | i C ns xs => exact b
theorem ExtS.e (x : ExtS ls ls' Hk H Hk' H') : Ext ls Hk H Hk' H' := ⟨x.kk, x.fr, x.gr, x.st⟩
theorem start_env {N : List Str} {vs : List V} {ss : List SV} (h : SVs K Hk ls ls.length vs ss) : EnvR K Hk ls (L2.start N vs) (ss.map some ++ List.replicate (N.length - ss.length) none) := by
  unfold L2.start
  rw [← h.length]
  refine ⟨by simp [h.length], fun i s e => ?_⟩
  by_cases hi : i < ss.length
  · rw [List.getElem?_append_left (by simpa using hi), List.getElem?_map] at e
    cases hs : ss[i]? with
    | none => rw [hs] at e; cases e
    | some s' =>
      rw [hs] at e
      cases e
      obtain ⟨v, hv, rv⟩ := h.get hs
      refine ⟨v, ?_, rv⟩
      rw [List.getElem?_append_left (by simpa [h.length] using hi), List.getElem?_map, hv]
      rfl
  · rw [List.getElem?_append_right (by simpa using hi)] at e
    rw [List.getElem?_replicate] at e
    split at e <;> cases e
/-- a def's body keeps the def's word -/
theorem body_go {E : XK} {N : List Str} {b : SM} {n : Nat} {vs : List V} {Q : VK} (h : spM K n (runBody b N.length) vs H Q E) : tS K b { nx := fun _ H' => Q .non H', rt := Q } (L2.start N vs) H := by
  obtain ⟨Hk, ls, M, ss, z, M', w, r, hn, hf, q⟩ := h
  unfold runBody at hf
  cases hb : b (ss.map some ++ List.replicate (N.length - ss.length) none) M with
  | none => rw [hb] at hf; cases hf
  | some o =>
    rw [hb] at hf
    refine ⟨Hk, ls, _, M, o, w, start_env r, hb, ?_⟩
    cases o with
    | bk ρ M1 => cases hf
    | ct ρ M1 => cases hf
    | nx ρ M1 =>
      cases hf
      intro σ' Hk' H' ls' w' x' en'
      obtain ⟨t, rfl⟩ := x'.pre
      rw [w.len] at q
      exact q .non Hk' H' w'.cut x'.e Rp.non
    | rt r1 M1 =>
      intro v Hk' H' ls' w' x' r'
      obtain ⟨t, rfl⟩ := id x'.pre
      simp only at hf
      unfold close at hf
      rw [w.len] at hf
      have lsin : ∀ l, l ∉ ls ++ t → l ∉ ls := fun l h z => h (List.mem_append_left _ z)
      split at hf
      · cases hf
        exact q v Hk' H' w'.cut x'.e r'
      · rename_i k
        split at hf
        · rename_i hk
          cases hf
          obtain ⟨_, l, a, rfl⟩ := r'
          rw [List.getElem?_append_left hk] at a
          exact q _ Hk' H' w'.cut x'.e ⟨hk, l, a, rfl⟩
        · rename_i hk
          obtain ⟨hk2, l, a, rfl⟩ := r'
          have hl : l ∉ ls := fun z => by
            obtain ⟨j, hj, ej⟩ := List.getElem_of_mem z
            have ej2 : (ls ++ t)[j]? = some l := by rw [List.getElem?_append_left hj, List.getElem?_eq_getElem hj, ej]
            have := (List.getElem?_eq_some_iff.mp a)
            have this2 := (List.getElem?_eq_some_iff.mp ej2)
            have e := (List.getElem_inj w'.nd).mp (this.2.trans this2.2.symm)
            omega
          have hmem : l ∈ ls ++ t := List.mem_of_getElem? a
          have h0 : H l = none := by
            rcases x'.nw l hmem with z | z
            · exact absurd z hl
            · exact z
          split at hf
          · rename_i xs hM
            split at hf
            · rename_i ds hd
              cases hf
              obtain ⟨l', a', vs', p, qq⟩ := w'.ms k _ hM
              rw [a] at a'
              cases a'
              exact q _ Hk' H' w'.cut x'.e ⟨l, vs', rfl, h0, w'.dj l hmem, hl, p, qq.toA hd⟩
            · cases hf
          · rename_i ks xs hM
            split at hf
            · rename_i ds hd
              cases hf
              obtain ⟨l', a', kvs, p, pk, qq⟩ := w'.ms k _ hM
              rw [a] at a'
              cases a'
              exact q _ Hk' H' w'.cut x'.e ⟨l, kvs, rfl, h0, w'.dj l hmem, hl, p, pk, qq.toA hd⟩
            · cases hf
          · cases hf
      · cases hf
        obtain ⟨l, vs', rfl, a, b1, c, d, e⟩ := r'
        exact q _ Hk' H' w'.cut x'.e ⟨l, vs', rfl, a, b1, lsin l c, d, e⟩
      · cases hf
        obtain ⟨l, vs', rfl, a, b1, c, d, e⟩ := r'
        exact q _ Hk' H' w'.cut x'.e ⟨l, vs', rfl, a, b1, lsin l c, d, e⟩
end
theorem spM_len {K : PySem.W.Frag} {n : Nat} {f : Fn} {ps : List Str} (h : ps.length = n) : ∀ vs H Q E, spM K n f vs H Q E → vs.length = ps.length := fun vs H Q E ⟨Hk, ls, M, ss, z, M', w, r, hn, _⟩ => by
  rw [r.length, hn, h]
end Dy

set_option Elab.async false
set_option linter.all false
set_option maxRecDepth 100000
set_option maxHeartbeats 4000000
/-! Layer Dy, part A: enumerate over a tuple. -/
namespace Dy
open PySem PySem.Spec PyProof.Rows L2
set_option maxHeartbeats 8000000 in
theorem meets_enum_one {v : Value} {o : Obj} {H : Heap → Prop} (B : Begins v o H) :
    Meets (Builtin.«enumerate.__new__» ⟨[.type "enumerate", v], []⟩) (fun _ R s => H s.heap ∧
      R (.ok (.ret (.ref (s.heap.push o).objs.size))) { s with heap := (s.heap.push o).push { cls := .type "enumerate", data := .fields #[.none, .bool false, .ref s.heap.objs.size, rawInt 0, .none, .none] } }) :=
  .of_wp fun prog w A R s h => by
    obtain ⟨hp, g, d, tk, os⟩ := s; obtain ⟨h1, h⟩ := h
    have hsub := sub_enumerate
    have q1 : ∀ {A' : Around} {E : Value → Shared → Prop} {Q : Value → Shared → Prop}, Q (.ref hp.objs.size) ⟨hp.push o, g, d, tk, os⟩ → wpAny (model prog w) A' (pyIter v) Q E ⟨hp, g, d, tk, os⟩ :=
      fun q => B.iter prog w _ _ ⟨hp, g, d, tk, os⟩ _ h1 q
    wp_walk using q1
    refine wpAny_stack_any fun st => wpAny_pure ?_
    split
    · rename_i c _ _ _ _ _
      cases (c == Value.type "enumerate")
      · wp_walk using q1
        exact ⟨_, rfl, h⟩
      · wp_walk using q1
        exact ⟨_, rfl, h⟩
    · wp_walk using q1
      exact ⟨_, rfl, h⟩
theorem enum_one {prog : Program} {w : PySem.World} {A : Around} {E : Value → Shared → Prop} {s : Shared} {v : Value} {o : Obj} {H : Heap → Prop} {Q : Value → Shared → Prop} (B : Begins v o H) (h1 : H s.heap)
    (h : ∀ h', IsEnum h' (s.heap.objs.size + 1) s.heap.objs.size 0 .none → h'.get? s.heap.objs.size = some o → h'.objs.size = s.heap.objs.size + 2 →
      (∀ b o, s.heap.get? b = some o → h'.get? b = some o) → Q (.ref (s.heap.objs.size + 1)) { s with heap := h' }) :
    wpAny (model prog w) A (call (.type "enumerate") [v]) Q E s := by
  refine callType_new F.called_enumerate (by decide) (F.typeCall_enumerate_1 _) (F.newCall_enumerate_1 _) (fun obj => F.args_object_init_2 obj _) F.entry_enumerate_new
    (meets_enum_one B) ⟨h1, ?_⟩
  have hz : (s.heap.push o).objs.size = s.heap.objs.size + 1 := Heap.size_push ..
  show _ ∧ _
  rw [hz]
  have he : IsEnum ((s.heap.push o).push { cls := .type "enumerate", data := .fields #[.none, .bool false, .ref s.heap.objs.size, rawInt 0, .none, .none] }) (s.heap.objs.size + 1) s.heap.objs.size 0 .none := by
    have := Heap.get?_push_size (s.heap.push o) (o := { cls := .type "enumerate", data := .fields #[.none, .bool false, .ref s.heap.objs.size, rawInt 0, .none, .none] }) rfl
    rw [hz] at this; exact this
  refine ⟨⟨_, he, rfl⟩, h _ he (Heap.get?_push_of_some _ (Heap.get?_push_size _ B.free)) (by rw [Heap.size_push, hz]) fun b o x => Heap.get?_push_of_some _ (Heap.get?_push_of_some _ x)⟩
theorem enum_endT {prog : Program} {w : PySem.World} {A : Around} {E : Value → Shared → Prop} {s : Shared} {e it a : Addr} {i : Nat} {k : Int} {items : Array Value} {old : Value} {Q : Option Value → Shared → Prop}
    (hh : A.handled = none) (he : IsEnum s.heap e it k old) (hit : s.heap.IsTupleIter it a i) (ht : s.heap.IsTuple a items) (hx : items[i]? = none)
    (hQ : ∀ h', Heap.ExtBut it s.heap h' → Q none { s with heap := h' }) : wpAny (model prog w) A (pyNext (.ref e)) Q E s := by
  have hT : s.TypeIs (.ref e) "enumerate" := ⟨_, he, rfl⟩
  unfold pyNext
  refine wpAny_bind (wpAny_attempt (wpAny_callSpecial?_slot (name := Str.ofString "__next__") hT F.slot_enumerate_next
    (wpAny_call_entry F.slot_enumerate_next hT F.entry_enumerate_next ?_ (F.args_enumerate_next_1 _))))
  show wpAny _ _ (field (.ref e) 2 >>= _) _ _ _
  refine wpAny_bind (wpAny_field he rfl (x := .ref it) rfl ?_)
  refine wpAny_bind (wpAny_nextOf_tuple_end (A := A.in1) hh hit ht hx fun h' x he' hx' => ?_)
  obtain ⟨o, ho, hc⟩ := hx'
  refine wpAny_bind (wpAny_isInstance (T := "StopIteration") (b := true) ⟨o, ho, hc⟩ isSubtype_stop ?_)
  exact wpAny_pure (hQ _ he')
/-- the tuple at a, each item in a new pair -/
def IteT (K : PySem.W.Frag) (a : Addr) : It :=
  ⟨fun i H => ∃ (xs : List V) (x : V), SqT K H a xs ∧ xs[i]? = some x, fun i H v H' => ∃ T x, v = .ref T ∧ H T = none ∧ H' = upd H T (.tup [.int (i : Nat), x]) ∧ ∀ xs, SqT K H a xs → xs[i]? = some x, fun i H => ∃ xs : List V, SqT K H a xs ∧ xs.length ≤ i⟩
theorem turn_enumT {P : Program} {w : PySem.World} {K : PySem.W.Frag} {elts : List Expr} {kk : Nat} {tpos : Pos} (a e it : Addr) :
    Turn P w K (.Tuple elts kk tpos) (IteT K a) [e, it] e (fun i h => (∃ old, IsEnum h e it ((i : Nat) : Int) old) ∧ h.IsTupleIter it a i ∧ e ≠ it) where
  mem := by simp
  obj := fun i h st b hb => by
    obtain ⟨⟨old, he⟩, ⟨o, ho, hc, hd⟩, _⟩ := st
    have e' : b = e ∨ b = it := by simpa using hb
    rcases e' with z | z
    · rw [z]; exact ⟨_, he, fun v q => nomatch q⟩
    · rw [z]; exact ⟨o, ho, fun v q => by rw [hd] at q; cases q⟩
  keep := fun i h h' st k => let ⟨⟨old, he⟩, hi, hne⟩ := st; ⟨⟨old, k e (by simp) _ he⟩, hi.at fun o q => k it (by simp) o q, hne⟩
  item := by
    intro X hP hw hK hc i pins s σ H E I hf st hg
    subst hP hw hK
    obtain ⟨⟨old, he⟩, hit, hne⟩ := st
    obtain ⟨xs, x, hq, hx⟩ := hg
    obtain ⟨its, rv, p, hz⟩ := I.tuple hq
    obtain ⟨u, hu, ru⟩ := rv.get hx
    have hel : e < s.heap.objs.size := Heap.lt_size he
    have hil : it < s.heap.objs.size := by obtain ⟨_, q, _⟩ := hit; exact Heap.lt_size q
    have hta : s.heap.IsTuple a its.toArray := p
    obtain ⟨ot, hot, hct, nt, hdt⟩ := hta
    have hai : a ≠ it := fun z => by
      obtain ⟨oi, q, c, _⟩ := hit
      rw [z, q] at hot
      cases hot
      rw [c] at hct
      exact absurd (Value.type.inj hct) (by decide)
    have hae : a ≠ e := fun z => by
      have q : s.heap.get? e = some _ := he
      rw [z, q] at hot
      cases hot
      exact absurd (Value.type.inj hct) (by decide)
    have D := Draws.tuple (prog := X.prog) (w := X.w) (A := X.A.in1) (I.ok.hd hc) it a hai its.toArray
    have hlt : i < its.toArray.size := by
      have := (List.getElem?_eq_some_iff.mp hu).1
      simpa using this
    refine wpAny_pyNext_enum_itemC D he ⟨hit, p⟩ hlt hne (by simp [hne, Ne.symm hae]) fun x' h' tk hP ho hst hT hsz hk => ?_
    have hx' : x' = u := by
      have h1 : its[i]? = some x' := by simpa using hP
      rw [hu] at h1
      exact (Option.some.inj h1).symm
    subst hx'
    refine ⟨_, rfl, wpAny_letOwnedTupleGo_enum (s := { s with heap := h', toks := tk + 1 }) ho fun h'' he' sb => ?_⟩
    have hT2 : h''.get? s.heap.objs.size = some { cls := .type "tuple", data := .seq #[.int i tk, x'] } := (sb.2 _ (Nat.ne_of_gt hel)).trans hT
    have new : ObjOk X.prog X.w (upd H s.heap.objs.size (.tup [.int (i : Nat), x])) h'' s.heap.objs.size (.tup [.int (i : Nat), x]) :=
      ⟨by show 2 ≤ sizeLine; decide, [.int i tk, x'], .cons ⟨_, rfl⟩ (.cons ru .nil), ⟨_, hT2, rfl, _, rfl⟩⟩
    have I1 : Inv X pins σ (upd H s.heap.objs.size (.tup [.int (i : Nat), x])) { s with heap := h'', toks := tk + 1 } :=
      I.turnedNew (ch := [e, it]) (fun b ob hb q => (sb.2 b (fun z => hb (by simp [z]))).trans (hk b ob (fun z => hb (by simp [z])) (fun z => hb (by simp [z])) q)) hf (Nat.le_refl _) new
    refine ⟨.ref s.heap.objs.size, _, I1, rfl, ⟨_, x, rfl, I.hok.fresh (Nat.le_refl _), rfl, fun ys hy => by rw [I.tuple_inj hy hq]; exact hx⟩, ⟨⟨x', ?_⟩, hst.1.at fun o q => (sb.2 it (Ne.symm hne)).trans q, hne⟩, fun b hb => ?_⟩
    · have e1 : ((i + 1 : Nat) : Int) = (i : Int) + 1 := by omega
      rw [e1]; exact he'
    · have hb' : b < s.heap.objs.size := by
        have e' : b = e ∨ b = it := by simpa using hb
        rcases e' with z | z
        · rw [z]; exact hel
        · rw [z]; exact hil
      rw [upd_ne (Nat.ne_of_lt hb')]
      exact (hf b hb).1
  done := by
    intro X hP hw hK hc i pins s σ H E I hf st hg
    subst hP hw hK
    obtain ⟨⟨old, he⟩, hit, hne⟩ := st
    obtain ⟨xs, hq, hx⟩ := hg
    obtain ⟨its, rv, p, hz⟩ := I.tuple hq
    obtain ⟨f0, f1, f2, f3, f4, f5⟩ := hf it (by simp)
    have hl := rv.length
    exact enum_endT (I.ok.hd hc) he hit (show s.heap.IsTuple a its.toArray from p) (by simp; omega) fun h' eb => ⟨rfl, I.turned (t' := s.toks) (fun b o hb q => eb b o hb q) f0 f1 f3 f4 f5⟩
  self := fun A i s Q E st h => let ⟨⟨_, he⟩, _⟩ := st; wpAny_pyIter_enum he h
def iEnumT (K : PySem.W.Frag) (ta : TA) : TI := fun σ H R => ta σ H fun vs H1 => ∃ a xs, vs = [.ref a] ∧ SqT K H1 a xs ∧ R (IteT K a) H1
theorem pi_enumT {X : Cx} {e : Expr} {ta : TA} {p pos tpos : Pos} {elts : List Expr} {kk : Nat} (hg : Gl X "enumerate") (hm : X.mg "enumerate" = none) (ha : PA X [e] ta) (hs : starEach [e] X.env = [(false, eval e X.env)] := by rfl) :
    PI X (.Tuple elts kk tpos) (.Call (.Name "enumerate" p) [e] [] pos) (iEnumT X.K ta) := by
  refine ⟨fun pins s σ H R I h => ?_⟩
  refine Call_ (ld_blt I hg hm boot_enumerate (PyProof.Rows.callWith_type1 (thn (ha.run pos pins s σ H _ I h) fun us s1 ⟨vs, H1, I1, r1, q1⟩ => ?_) hs rfl))
  obtain ⟨a, xs, ex, hq, q⟩ := q1
  subst ex
  cases r1 with
  | cons r rr =>
    cases rr
    cases r
    obtain ⟨its, rv, p', hz⟩ := I1.tuple hq
    refine enum_one (begins_tuple a its.toArray) p' fun h' he hit hsz hk => wpAny_pyIter_enum he ?_
    have I2 : Inv X pins σ H1 { s1 with heap := h' } := I1.kept (t' := s1.toks) hk
    refine ⟨s1.heap.objs.size + 1, [s1.heap.objs.size + 1, s1.heap.objs.size], _, _, H1, rfl, I2, turn_enumT a (s1.heap.objs.size + 1) s1.heap.objs.size, ⟨⟨.none, he⟩, ⟨_, hit, rfl, rfl⟩, Nat.succ_ne_self _⟩, fun b hb => ?_, q⟩
    have e' : b = s1.heap.objs.size + 1 ∨ b = s1.heap.objs.size := by simpa using hb
    have hle : s1.heap.objs.size ≤ b := by
      rcases e' with z | z
      · rw [z]; exact Nat.le_add_right _ _
      · rw [z]; exact Nat.le_refl _
    exact I1.fpOk hle (I1.hok.fresh hle)
end Dy

set_option Elab.async false
set_option linter.all false
set_option maxRecDepth 100000
set_option maxHeartbeats 4000000
namespace Dy
open PySem L2

/-! ### sources of loops -/
structure Src where
  n : Nat
  get : MS → Nat → Option SV
  stop : MS → Nat → Bool
def SrcR (K : PySem.W.Frag) (ls : List Addr) (Hk : Hp) (J : It) (src : Src) : Prop := ∀ (Hk2 H2 : Hp) (M2 : MS) (ls2 : List Addr), World K Hk2 H2 M2 ls2 → Same Hk Hk2 → (∃ t, ls2 = ls ++ t) →
  (∀ (i : Nat) (x : SV), src.get M2 i = some x → J.go i H2 ∧ ∀ v H3, J.yld i H2 v H3 → ∃ Hk3, World K Hk3 H3 M2 ls2 ∧ Ext ls2 Hk2 H2 Hk3 H3 ∧ SVr K Hk3 ls2 ls2.length v x) ∧ ∀ i, src.stop M2 i = true → J.stop i H2
def tI (K : PySem.W.Frag) (m : EM Src) : TI := fun σ H Rq => ∃ Hk ls ρ M src M', World K Hk H M ls ∧ EnvR K Hk ls σ ρ ∧ m ρ M = some (src, M') ∧ ∀ J Hk' H', World K Hk' H' M' ls → Ext ls Hk H Hk' H' → SrcR K ls Hk' J src → Rq J H'
abbrev PIm (X : Cx) (tg e : Expr) (m : EM Src) : Prop := PI X tg e (tI X.K m)
theorem PI.imp {X : Cx} {tg e : Expr} {t u : TI} (h : PI X tg e t) (i : ∀ σ H Q, u σ H Q → t σ H Q) : PI X tg e u := ⟨fun pins s σ H Q I q => h.run pins s σ H Q I (i σ H Q q)⟩
theorem PI.or {X : Cx} {tg e : Expr} {t u : TI} (h : PI X tg e t) (h' : PI X tg e u) : PI X tg e (fun σ H Q => t σ H Q ∨ u σ H Q) := ⟨fun pins s σ H Q I q => q.elim (h.run pins s σ H Q I) (h'.run pins s σ H Q I)⟩
section
variable {X : Cx} {tg e e2 : Expr} {me me2 : EM R} {pos : Pos}
/-- over a list, a tuple, a text -/
def seqSrc (M : MS) (s : SV) : Option Src := match s with
  | .dt (.str z) => some ⟨z.cps.size, fun _ i => match z.cps[i]? with
    | some c => some (.dt (.str ⟨#[c]⟩))
    | none => none, fun _ i => decide (z.cps.size ≤ i)⟩
  | s => match itemsOf M s with
    | some xs => some ⟨xs.length, fun M' i => match itemsOf M' s with
      | some ys => ys[i]?
      | none => none, fun M' i => match itemsOf M' s with
      | some ys => decide (ys.length ≤ i)
      | none => false⟩
    | none => none
def eSeq (me : EM R) : EM Src := (fz me).seq fun s => fun _ M => match seqSrc M s with
  | some src => some (src, M)
  | none => none
theorem SVs.getV {K : PySem.W.Frag} {Hk : Hp} {ls : List Addr} {n : Nat} : ∀ {vs : List V} {ss : List SV} {i : Nat} {v : V}, SVs K Hk ls n vs ss → vs[i]? = some v → ∃ s, ss[i]? = some s ∧ SVr K Hk ls n v s
  | _, _, _, _, .nil, e => by simp at e
  | _, _, 0, _, .cons r _, e => by simp at e; subst e; exact ⟨_, rfl, r⟩
  | _, _, i + 1, d, .cons _ t, e => by
    obtain ⟨u, h1, h2⟩ := SVs.getV (i := i) (v := d) t (by simpa using e)
    exact ⟨u, by simpa using h1, h2⟩
theorem srcr_list {K : PySem.W.Frag} {ls : List Addr} {Hk H : Hp} {a : Addr} {s : SV} {n : Nat} (r : SVr K Hk ls ls.length (.ref a) s) (hl : ∀ (Hk2 H2 : Hp) (M2 : MS) (ls2 : List Addr), World K Hk2 H2 M2 ls2 → Same Hk Hk2 → (∃ t, ls2 = ls ++ t) → ∀ ys, itemsOf M2 s = some ys → ∃ vs, SqL K H2 a vs ∧ SVs K Hk2 ls2 ls2.length vs ys) :
    SrcR K ls Hk (Itl K a) ⟨n, fun M' i => match itemsOf M' s with
      | some ys => ys[i]?
      | none => none, fun M' i => match itemsOf M' s with
      | some ys => decide (ys.length ≤ i)
      | none => false⟩ := by
  intro Hk2 H2 M2 ls2 w2 k2 p2
  constructor
  · intro i x hx
    dsimp only at hx
    split at hx
    · rename_i ys hy
      obtain ⟨vs, hq, hs⟩ := hl Hk2 H2 M2 ls2 w2 k2 p2 ys hy
      obtain ⟨v, hv, rv⟩ := hs.get hx
      refine ⟨⟨vs, v, hq, hv⟩, fun v' H3 ⟨e3, h3⟩ => ?_⟩
      subst e3
      have := h3 vs hq
      rw [hv] at this
      cases this
      exact ⟨Hk2, w2, Ext.refl _ _ _, rv⟩
    · cases hx
  · intro i hx
    dsimp only at hx
    split at hx
    · rename_i ys hy
      obtain ⟨vs, hq, hs⟩ := hl Hk2 H2 M2 ls2 w2 k2 p2 ys hy
      exact ⟨vs, hq, by rw [hs.length]; exact of_decide_eq_true hx⟩
    · cases hx
theorem srcr_tup {K : PySem.W.Frag} {ls : List Addr} {Hk : Hp} {a : Addr} {ds : List D} {n : Nat} (r : Rp K Hk (.ref a) (.tup ds)) :
    SrcR K ls Hk (Itt K a) ⟨n, fun M' i => match itemsOf M' (.dt (.tup ds)) with
      | some ys => ys[i]?
      | none => none, fun M' i => match itemsOf M' (.dt (.tup ds)) with
      | some ys => decide (ys.length ≤ i)
      | none => false⟩ := by
  intro Hk2 H2 M2 ls2 w2 k2 p2
  cases r with
  | tup hq0 ra =>
    rename_i vs
    have hq : SqT K H2 a vs := same_t w2.sub (same_t k2 hq0)
    have hs : SVs K Hk2 ls2 ls2.length vs (ds.map .dt) := SVs.ofA (ra.mono k2)
    constructor
    · intro i x hx
      have hx : (ds.map SV.dt)[i]? = some x := hx
      obtain ⟨v, hv, rv⟩ := hs.get hx
      refine ⟨⟨vs, v, hq, hv⟩, fun v' H3 ⟨e3, h3⟩ => ?_⟩
      subst e3
      have := h3 vs hq
      rw [hv] at this
      cases this
      exact ⟨Hk2, w2, Ext.refl _ _ _, rv⟩
    · intro i hx
      have hx : decide ((ds.map SV.dt).length ≤ i) = true := hx
      exact ⟨vs, hq, by rw [hs.length]; exact of_decide_eq_true hx⟩
theorem srcr_str {K : PySem.W.Frag} {ls : List Addr} {Hk : Hp} {z : Str} {n : Nat} :
    SrcR K ls Hk (Its z) ⟨n, fun _ i => match z.cps[i]? with
    | some c => some (.dt (.str ⟨#[c]⟩))
    | none => none, fun _ i => decide (z.cps.size ≤ i)⟩ := by
  intro Hk2 H2 M2 ls2 w2 k2 p2
  constructor
  · intro i x hx
    dsimp only at hx
    split at hx
    · rename_i c hc
      cases hx
      have hi : i < z.cps.size := (Array.getElem?_eq_some_iff.mp hc).1
      refine ⟨hi, fun v H3 ⟨e3, c', h3, ev⟩ => ?_⟩
      subst e3
      rw [hc] at h3
      cases h3
      subst ev
      exact ⟨Hk2, w2, Ext.refl _ _ _, Rp.str _⟩
    · cases hx
  · intro i hx
    have hx : decide (z.cps.size ≤ i) = true := hx
    have h : z.cps.size ≤ i := of_decide_eq_true hx
    exact h
theorem SVr.moreS {K : PySem.W.Frag} {Hk Hk2 : Hp} {ls ls2 : List Addr} {v : V} {s : SV} (k : Same Hk Hk2) (p : ∃ t, ls2 = ls ++ t) (h : SVr K Hk ls ls.length v s) : SVr K Hk2 ls2 ls2.length v s := by
  obtain ⟨t, rfl⟩ := p
  exact ((h.mono k).more).up (by simp)
theorem pim_seq (h : PM X e me) : PIm X tg e (eSeq me) := PI.imp (PI.or (pi_list (PM.v h)) (PI.or (pi_tup (PM.v h)) (pi_str (PM.v h)))) fun σ H Rq ⟨Hk, ls, ρ, M, src, M', w, en, hm, q⟩ => by
  obtain ⟨s, M1, h1, h2⟩ := seq_some hm
  unfold seqSrc at h2
  by_cases hs : ∃ z, s = .dt (.str z)
  · obtain ⟨z, rfl⟩ := hs
    cases h2
    exact .inr (.inr ⟨Hk, ls, ρ, M, _, _, w, en, h1, fun v Hk1 H1 w1 x1 r1 => ⟨z, Rp.str_inv r1, q _ Hk1 H1 w1 x1 srcr_str⟩⟩)
  · by_cases ht : ∃ ds, s = .dt (.tup ds)
    · obtain ⟨ds, rfl⟩ := ht
      cases h2
      refine .inr (.inl ⟨Hk, ls, ρ, M, _, _, w, en, h1, fun v Hk1 H1 w1 x1 r1 => ?_⟩)
      cases r1 with
      | tup hq ra => exact ⟨_, rfl, ⟨_, same_t w1.sub hq⟩, q _ Hk1 H1 w1 x1 (srcr_tup (.tup hq ra))⟩
    · have h2' : (match (match itemsOf M1 s with
          | some xs => some (⟨xs.length, fun M' i => match itemsOf M' s with
            | some ys => ys[i]?
            | none => none, fun M' i => match itemsOf M' s with
            | some ys => decide (ys.length ≤ i)
            | none => false⟩ : Src)
          | none => none) with
        | some src => some (src, M1)
        | none => none) = some (src, M') := by
        split at h2
        · rename_i he
          split at he
          · exact absurd ⟨_, rfl⟩ hs
          · rw [he]
            exact h2
        · cases h2
      cases hi : itemsOf M1 s with
      | none => rw [hi] at h2'; cases h2'
      | some xs =>
        rw [hi] at h2'
        cases h2'
        have hlo : ∀ (Mx : MS) ys, itemsOf Mx s = some ys → listOf Mx s = some ys := fun Mx ys e => by
          unfold itemsOf at e
          split at e
          · exact absurd ⟨_, rfl⟩ ht
          · exact e
        refine .inl ⟨Hk, ls, ρ, M, s, _, w, en, h1, fun v Hk1 H1 w1 x1 r1 => ?_⟩
        obtain ⟨a, vs, rfl, hq, hss⟩ := listOf_ok w1 r1 (hlo _ _ hi)
        refine ⟨a, rfl, ⟨vs, SqL.of hq⟩, q _ Hk1 H1 w1 x1 (srcr_list (H := H1) r1 fun Hk2 H2 M2 ls2 w2 k2 p2 ys hy => ?_)⟩
        obtain ⟨a', vs', e1, hq', hs'⟩ := listOf_ok w2 (r1.moreS k2 p2) (hlo _ _ hy)
        cases e1
        exact ⟨vs', SqL.of hq', hs'⟩
/-- over a range -/
def rngSrc (lo : Int) (n : Nat) : Src := ⟨n, fun _ i => if i < n then some (.dt (.int (lo + i))) else none, fun _ i => decide (n ≤ i)⟩
theorem srcr_rng {K : PySem.W.Frag} {ls : List Addr} {Hk : Hp} {lo : Int} {n : Nat} : SrcR K ls Hk (Itr lo n) (rngSrc lo n) := by
  intro Hk2 H2 M2 ls2 w2 k2 p2
  constructor
  · intro i x hx
    unfold rngSrc at hx
    dsimp only at hx
    split at hx
    · rename_i hi
      cases hx
      refine ⟨hi, fun v H3 ⟨e3, ev⟩ => ?_⟩
      subst e3 ev
      exact ⟨Hk2, w2, Ext.refl _ _ _, Rp.int _⟩
    · cases hx
  · intro i hx
    have hx : decide (n ≤ i) = true := hx
    have h : n ≤ i := of_decide_eq_true hx
    exact h
def isRange (i : Int) : Bool := decide (-(2 ^ 62) ≤ i) && !decide (2 ^ 62 ≤ i)
theorem isRange_ok {i : Int} (h : isRange i = true) : -(2 ^ 62) ≤ i ∧ i < 2 ^ 62 := by
  unfold isRange at h
  rw [Bool.and_eq_true] at h
  exact ⟨of_decide_eq_true h.1, by have := h.2; simp at this; omega⟩
def eRng1 (ms : EM (List SV)) : EM Src := ms.seq fun ss => fun _ M => match ss with
  | [.dt (.int j)] => if isRange j then some (rngSrc 0 j.toNat, M) else none
  | _ => none
def eRng2 (ms : EM (List SV)) : EM Src := ms.seq fun ss => fun _ M => match ss with
  | [.dt (.int i), .dt (.int j)] => if isRange i && isRange j then some (rngSrc i (j - i).toNat, M) else none
  | _ => none
variable {ms : EM (List SV)} {p : Pos}
theorem pim_range1 (hg : Gl X "range") (hm : X.mg "range" = none) (ha : PAm X [e] ms) (hs : starEach [e] X.env = [(false, eval e X.env)] := by rfl) : PIm X tg (.Call (.Name "range" p) [e] [] pos) (eRng1 ms) := PI.imp (pi_range1 hg hm ha hs) fun σ H Rq ⟨Hk, ls, ρ, M, src, M', w, en, hm, q⟩ => by
  obtain ⟨ss, M1, h1, h2⟩ := seq_some hm
  refine ⟨Hk, ls, ρ, M, ss, M1, w, en, h1, fun vs Hk1 H1 w1 x1 r1 => ?_⟩
  split at h2
  · rename_i j
    split at h2
    · rename_i hr
      cases h2
      cases r1 with
      | cons r t =>
        cases t
        have := Rp.int_inv r
        subst this
        exact ⟨j, rfl, (isRange_ok hr).1, (isRange_ok hr).2, q _ Hk1 H1 w1 x1 srcr_rng⟩
    · cases h2
  · cases h2
theorem pim_range2 (hg : Gl X "range") (hm : X.mg "range" = none) (ha : PAm X [e, e2] ms) (hs : starEach [e, e2] X.env = [(false, eval e X.env), (false, eval e2 X.env)] := by rfl) (hs2 : starEach [e2] X.env = [(false, eval e2 X.env)] := by rfl) : PIm X tg (.Call (.Name "range" p) [e, e2] [] pos) (eRng2 ms) := PI.imp (pi_range2 hg hm ha hs hs2) fun σ H Rq ⟨Hk, ls, ρ, M, src, M', w, en, hm, q⟩ => by
  obtain ⟨ss, M1, h1, h2⟩ := seq_some hm
  refine ⟨Hk, ls, ρ, M, ss, M1, w, en, h1, fun vs Hk1 H1 w1 x1 r1 => ?_⟩
  split at h2
  · rename_i i j
    split at h2
    · rename_i hr
      cases h2
      rw [Bool.and_eq_true] at hr
      cases r1 with
      | cons r t =>
        cases t with
        | cons r' t' =>
          cases t'
          have := Rp.int_inv r
          subst this
          have := Rp.int_inv r'
          subst this
          exact ⟨i, j, rfl, ⟨(isRange_ok hr.1).1, (isRange_ok hr.1).2, (isRange_ok hr.2).1, (isRange_ok hr.2).2⟩, q _ Hk1 H1 w1 x1 srcr_rng⟩
    · cases h2
  · cases h2
/-- over enumerate(list), zip(list, list): pairs of data -/
theorem Res.pair {K : PySem.W.Frag} {Hk H : Hp} {M : MS} {ls : List Addr} {T : Addr} {x y : V} {d d' : D} (w : World K Hk H M ls) (hT : H T = none) (rx : Rp K Hk x d) (ry : Rp K Hk y d') : ∃ Hk3, World K Hk3 (upd H T (.tup [x, y])) M ls ∧ Ext ls Hk H Hk3 (upd H T (.tup [x, y])) ∧ SVr K Hk3 ls ls.length (.ref T) (.dt (.tup [d, d'])) :=
  ⟨upd Hk T (.tup [x, y]), (w.upd_new hT).freeze (w.fresh hT).2 upd_same (w.fresh hT).1, (Ext.upd_new hT).freeze hT (w.fresh hT).1,
    Rp.tup (SqT.of upd_same) (RpA.mono (same_upd (w.fresh hT).1) (.cons rx (.cons ry .nil)))⟩
def dOf : SV → Option D
  | .dt d => some d
  | .mu _ => none
def enumSrc (s : SV) (n : Nat) : Src := ⟨n, fun M' i => match listOf M' s with
  | some ys => match ys[i]? with
    | some (.dt d) => some (.dt (.tup [.int (i : Nat), d]))
    | _ => none
  | none => none, fun M' i => match listOf M' s with
  | some ys => decide (ys.length ≤ i)
  | none => false⟩
def enumT (ds : List D) : Src := ⟨ds.length, fun _ i => match ds[i]? with
  | some d => some (.dt (.tup [.int (i : Nat), d]))
  | none => none, fun _ i => decide (ds.length ≤ i)⟩
def eEnum (ms : EM (List SV)) : EM Src := ms.seq fun ss => fun _ M => match ss with
  | [.dt (.tup ds)] => some (enumT ds, M)
  | [s] => match listOf M s with
    | some xs => some (enumSrc s xs.length, M)
    | none => none
  | _ => none
theorem pim_enum {elts : List Expr} {kk : Nat} {tpos : Pos} (hg : Gl X "enumerate") (hm : X.mg "enumerate" = none) (ha : PAm X [e] ms) (hs : starEach [e] X.env = [(false, eval e X.env)] := by rfl) : PIm X (.Tuple elts kk tpos) (.Call (.Name "enumerate" p) [e] [] pos) (eEnum ms) := PI.imp (PI.or (pi_enum hg hm ha hs) (pi_enumT hg hm ha hs)) fun σ H Rq ⟨Hk, ls, ρ, M, src, M', w, en, hm, q⟩ => by
  obtain ⟨ss, M1, h1, h2⟩ := seq_some hm
  split at h2
  · rename_i ds
    refine .inr ⟨Hk, ls, ρ, M, _, M1, w, en, h1, fun vs Hk1 H1 w1 x1 r1 => ?_⟩
    cases h2
    cases r1 with
    | cons r t =>
      cases t
      cases r with
      | tup ht ha =>
        rename_i a us
        refine ⟨a, us, rfl, same_t w1.sub ht, q _ Hk1 H1 w1 x1 ?_⟩
        intro Hk2 H2 M2 ls2 w2 k2 p2
        have hq2 : SqT X.K H2 a us := same_t w2.sub (same_t k2 ht)
        have ra := RpA.mono k2 ha
        constructor
        · intro i x hx
          unfold enumT at hx
          dsimp only at hx
          split at hx
          · rename_i d hd
            cases hx
            obtain ⟨v, hv, rv⟩ := ra.get hd
            refine ⟨⟨us, v, hq2, hv⟩, fun v' H3 ⟨T, x', ev, hT, e3, h3⟩ => ?_⟩
            have := h3 us hq2
            rw [hv] at this
            cases this
            subst e3 ev
            exact Res.pair w2 hT (.int _) rv
          · cases hx
        · intro i hx
          exact ⟨us, hq2, by rw [ra.length]; exact of_decide_eq_true hx⟩
  all_goals refine .inl ⟨Hk, ls, ρ, M, _, M1, w, en, h1, fun vs Hk1 H1 w1 x1 r1 => ?_⟩
  · rename_i s
    split at h2
    · rename_i xs hx
      cases h2
      cases r1 with
      | cons r t =>
        cases t
        obtain ⟨a, us, rfl, hq, hss⟩ := listOf_ok w1 r hx
        refine ⟨a, us, rfl, SqL.of hq, q _ Hk1 H1 w1 x1 ?_⟩
        intro Hk2 H2 M2 ls2 w2 k2 p2
        constructor
        · intro i x hx
          unfold enumSrc at hx
          dsimp only at hx
          split at hx
          · rename_i ys hy
            split at hx
            · rename_i d hd
              cases hx
              obtain ⟨a', vs', e1, hq', hs'⟩ := listOf_ok w2 (r.moreS k2 p2) hy
              cases e1
              obtain ⟨v, hv, rv⟩ := hs'.get hd
              refine ⟨⟨vs', v, SqL.of hq', hv⟩, fun v' H3 ⟨T, x', ev, hT, e3, h3⟩ => ?_⟩
              have := h3 vs' (SqL.of hq')
              rw [hv] at this
              cases this
              subst e3 ev
              exact Res.pair w2 hT (.int _) rv
            · cases hx
          · cases hx
        · intro i hx
          unfold enumSrc at hx
          dsimp only at hx
          split at hx
          · rename_i ys hy
            obtain ⟨a', vs', e1, hq', hs'⟩ := listOf_ok w2 (r.moreS k2 p2) hy
            cases e1
            exact ⟨vs', SqL.of hq', by rw [hs'.length]; exact of_decide_eq_true hx⟩
          · cases hx
    · cases h2
  · cases h2
def zipSrc (s t : SV) (n : Nat) : Src := ⟨n, fun M' i => match listOf M' s, listOf M' t with
  | some ys, some zs => match ys[i]?, zs[i]? with
    | some (.dt d), some (.dt d') => some (.dt (.tup [d, d']))
    | _, _ => none
  | _, _ => none, fun M' i => match listOf M' s, listOf M' t with
  | some ys, some zs => decide (ys.length ≤ i) || decide (zs.length ≤ i)
  | _, _ => false⟩
def eZip (ms : EM (List SV)) : EM Src := ms.seq fun ss => fun _ M => match ss with
  | [s, t] => match listOf M s, listOf M t with
    | some xs, some ys => some (zipSrc s t (min xs.length ys.length), M)
    | _, _ => none
  | _ => none
theorem pim_zip {elts : List Expr} {kk : Nat} {tpos : Pos} (hg : Gl X "zip") (hm : X.mg "zip" = none) (ha : PAm X [e, e2] ms) (hs : starEach [e, e2] X.env = (false, eval e X.env) :: starEach [e2] X.env := by rfl) (hpl : (backTo pos (starEach [e2] X.env)).any (·.1) = false := by rfl) : PIm X (.Tuple elts kk tpos) (.Call (.Name "zip" p) [e, e2] [] pos) (eZip ms) := PI.imp (pi_zip hg hm ha hs hpl) fun σ H Rq ⟨Hk, ls, ρ, M, src, M', w, en, hm, q⟩ => by
  obtain ⟨ss, M1, h1, h2⟩ := seq_some hm
  refine ⟨Hk, ls, ρ, M, ss, M1, w, en, h1, fun vs Hk1 H1 w1 x1 r1 => ?_⟩
  split at h2
  · rename_i s t
    split at h2
    · rename_i xs ys hx hy
      cases h2
      cases r1 with
      | cons r t0 =>
        cases t0 with
        | cons r' t' =>
          cases t'
          obtain ⟨a, us, rfl, hq, hss⟩ := listOf_ok w1 r hx
          obtain ⟨b, ws, rfl, hqb, hssb⟩ := listOf_ok w1 r' hy
          refine ⟨a, b, us, ws, rfl, SqL.of hq, SqL.of hqb, q _ Hk1 H1 w1 x1 ?_⟩
          intro Hk2 H2 M2 ls2 w2 k2 p2
          constructor
          · intro i x hx
            unfold zipSrc at hx
            dsimp only at hx
            split at hx
            · rename_i ys zs hy hz
              split at hx
              · rename_i d d' hd hd'
                cases hx
                obtain ⟨a', vs', e1, hq', hs'⟩ := listOf_ok w2 (r.moreS k2 p2) hy
                cases e1
                obtain ⟨b', us', e2, hqb', hsb'⟩ := listOf_ok w2 (r'.moreS k2 p2) hz
                cases e2
                obtain ⟨v, hv, rv⟩ := hs'.get hd
                obtain ⟨u, hu, ru⟩ := hsb'.get hd'
                refine ⟨⟨vs', us', v, u, SqL.of hq', SqL.of hqb', hv, hu⟩, fun v' H3 ⟨T, x', y', ev, hT, e3, h3, h4⟩ => ?_⟩
                have := h3 vs' (SqL.of hq')
                rw [hv] at this
                cases this
                have := h4 us' (SqL.of hqb')
                rw [hu] at this
                cases this
                subst e3 ev
                exact Res.pair w2 hT rv ru
              · cases hx
            · cases hx
          · intro i hx
            unfold zipSrc at hx
            dsimp only at hx
            split at hx
            · rename_i ys zs hy hz
              obtain ⟨a', vs', e1, hq', hs'⟩ := listOf_ok w2 (r.moreS k2 p2) hy
              cases e1
              obtain ⟨b', us', e2, hqb', hsb'⟩ := listOf_ok w2 (r'.moreS k2 p2) hz
              cases e2
              refine ⟨vs', us', SqL.of hq', SqL.of hqb', ?_⟩
              rw [hs'.length, hsb'.length]
              rw [Bool.or_eq_true] at hx
              rcases hx with hx | hx
              · exact .inl (of_decide_eq_true hx)
              · exact .inr (of_decide_eq_true hx)
            · cases hx
    · cases h2
  · cases h2
end
end Dy

set_option Elab.async false
set_option linter.all false
set_option maxRecDepth 100000
set_option maxHeartbeats 4000000
namespace Dy
open PySem L2

/-! ### targets -/
abbrev Bnd := SV → Env → Option Env
def tG (K : PySem.W.Frag) (b : Bnd) (is : List Nat) : TG := fun v σ H Q => ∃ Hk ls ρ M s ρ', World K Hk H M ls ∧ EnvR K Hk ls σ ρ ∧ SVr K Hk ls ls.length v s ∧ b s ρ = some ρ' ∧
  ∀ σ', EnvR K Hk ls σ' ρ' → (∀ vs : List Nat, (∀ i ∈ is, i ∈ vs) → wipe σ' vs = wipe σ vs) → Q σ' H
abbrev PGm (X : Cx) (tg : Expr) (b : Bnd) (is : List Nat) : Prop := PG X tg (tG X.K b is)
def tGs (K : PySem.W.Frag) (b : List D → Env → Option Env) (is : List Nat) : TGs := fun vs σ H Q => ∃ Hk ls ρ M ds ρ', World K Hk H M ls ∧ EnvR K Hk ls σ ρ ∧ RpA K Hk vs ds ∧ b ds ρ = some ρ' ∧
  ∀ σ', EnvR K Hk ls σ' ρ' → (∀ ws : List Nat, (∀ i ∈ is, i ∈ ws) → wipe σ' ws = wipe σ ws) → Q σ' H
abbrev PGsm (X : Cx) (tg : List Expr) (b : List D → Env → Option Env) (is : List Nat) : Prop := PGs X tg (tGs X.K b is)
theorem PG.imp {X : Cx} {tg : Expr} {t u : TG} (h : PG X tg t) (i : ∀ v σ H Q, u v σ H Q → t v σ H Q) : PG X tg u := ⟨fun pins s σ H v uu Q I r q => h.run pins s σ H v uu Q I r (i v σ H Q q)⟩
theorem PGs.imp {X : Cx} {tg : List Expr} {t u : TGs} (h : PGs X tg t) (i : ∀ v σ H Q, u v σ H Q → t v σ H Q) : PGs X tg u := ⟨fun pins s σ H v uu Q I r q => h.run pins s σ H v uu Q I r (i v σ H Q q)⟩
theorem wipe_set {σ : L2.St} {i : Nat} {x : Option V} : ∀ {vs : List Nat}, i ∈ vs → wipe (σ.set i x) vs = wipe σ vs
  | [], h => by cases h
  | v :: vs, h => by
    unfold wipe
    by_cases hv : i ∈ vs
    · rw [wipe_set hv]
    · have e : i = v := by
        rcases List.mem_cons.mp h with h | h
        · exact h
        · exact absurd h hv
      subst e
      apply List.ext_getElem?
      intro j
      by_cases hj : i = j
      · subst hj
        by_cases hl : i < σ.length
        · rw [List.getElem?_set_self (by rw [wipe_length, List.length_set]; exact hl), List.getElem?_set_self (by rw [wipe_length]; exact hl)]
        · rw [List.getElem?_eq_none (by rw [List.length_set, wipe_length, List.length_set]; omega), List.getElem?_eq_none (by rw [List.length_set, wipe_length]; omega)]
      · rw [List.getElem?_set_ne hj, List.getElem?_set_ne hj]
        by_cases hjv : j ∈ vs
        · by_cases hl : j < σ.length
          · have a : ∀ (τ : L2.St), τ.length = σ.length → (wipe τ vs)[j]? = some none := fun τ ht => by
              cases q : (wipe τ vs)[j]? with
              | none =>
                rw [List.getElem?_eq_none_iff, wipe_length, ht] at q
                omega
              | some o =>
                cases o with
                | none => rfl
                | some y => exact absurd hjv (wipe_some q).2
            rw [a σ rfl, a (σ.set i x) (by rw [List.length_set])]
          · rw [List.getElem?_eq_none (by rw [wipe_length, List.length_set]; omega), List.getElem?_eq_none (by rw [wipe_length]; omega)]
        · rw [wipe_out hjv, wipe_out hjv, List.getElem?_set_ne hj]
def bName (i : Nat) : Bnd := fun s ρ => some (ρ.set i (some s))
def bTup (n : Nat) (bs : List D → Env → Option Env) : Bnd := fun s ρ => match s with
  | .dt (.tup ds) => if ds.length = n then bs ds ρ else none
  | _ => none
def bsNil : List D → Env → Option Env := fun ds ρ => match ds with
  | [] => some ρ
  | _ => none
def bsCons (b : Bnd) (bs : List D → Env → Option Env) : List D → Env → Option Env := fun ds ρ => match ds with
  | d :: r => match b (.dt d) ρ with
    | some ρ' => bs r ρ'
    | none => none
  | [] => none
section
variable {X : Cx} {tg : Expr} {es : List Expr} {pos : Pos}
theorem pgm_name {i : Nat} (h : PG X tg (gName i)) : PGm X tg (bName i) [i] := PG.imp h fun v σ H Q ⟨Hk, ls, ρ, M, s, ρ', w, en, r, hb, q⟩ => by
  cases hb
  exact q _ (en.set r) fun vs hv => wipe_set (hv i (by simp))
theorem pgm_nil : PGsm X [] bsNil [] := PGs.imp pgs_nil fun v σ H Q ⟨Hk, ls, ρ, M, ds, ρ', w, en, r, hb, q⟩ => by
  unfold bsNil at hb
  split at hb
  · cases hb
    cases r
    exact ⟨rfl, q σ en fun _ _ => rfl⟩
  · cases hb
theorem pgm_cons {b : Bnd} {bs : List D → Env → Option Env} {is js : List Nat} (h1 : PGm X tg b is) (h2 : PGsm X es bs js) (hs : (assignEach (tg :: es) X.env).map (·.2) = assign tg X.env :: (assignEach es X.env).map (·.2) := by rfl) : PGsm X (tg :: es) (bsCons b bs) (is ++ js) := PGs.imp (pgs_cons h1 h2 hs) fun v σ H Q ⟨Hk, ls, ρ, M, ds, ρ', w, en, r, hb, q⟩ => by
  unfold bsCons at hb
  split at hb
  · rename_i d rest
    split at hb
    · rename_i ρ1 h1
      cases r with
      | cons r1 r2 =>
        refine ⟨_, _, rfl, Hk, ls, ρ, M, _, ρ1, w, en, (show SVr X.K Hk ls ls.length _ (.dt d) from r1), h1, fun σ1 en1 w1 => ?_⟩
        refine ⟨Hk, ls, ρ1, M, rest, ρ', w, en1, r2, hb, fun σ2 en2 w2 => q σ2 en2 fun ws hw => ?_⟩
        rw [w2 ws fun i hi => hw i (List.mem_append_right _ hi), w1 ws fun i hi => hw i (List.mem_append_left _ hi)]
    · cases hb
  · cases hb
theorem pgm_tup {bs : List D → Env → Option Env} {is : List Nat} {k n : Nat} (hc : X.calm = true) (h : PGsm X es bs is) (hn : (assignEach es X.env).length = n := by rfl) (hst : (assignEach es X.env).findIdx? (·.1) = none := by rfl) : PGm X (.Tuple es k pos) (bTup n bs) is := PG.imp (pg_tup hc h hn hst) fun v σ H Q ⟨Hk, ls, ρ, M, s, ρ', w, en, r, hb, q⟩ => by
  unfold bTup at hb
  split at hb
  · rename_i ds
    split at hb
    · rename_i hl
      cases r with
      | tup hq ra => exact ⟨_, _, rfl, same_t w.sub hq, by rw [ra.length]; exact hl, Hk, ls, ρ, M, ds, ρ', w, en, ra, hb, q⟩
    · cases hb
  · cases hb

/-! ### for -/
def forGo (src : Src) (b : Bnd) (body : SM) : Nat → Nat → Env → MS → Option Out
  | 0, i, ρ, M => if src.stop M i = true then some (.nx ρ M) else none
  | k + 1, i, ρ, M => match src.get M i with
    | none => none
    | some x => match b x ρ with
      | none => none
      | some ρ1 => match body ρ1 M with
        | some (.nx ρ2 M2) => forGo src b body k (i + 1) ρ2 M2
        | some (.ct ρ2 M2) => forGo src b body k (i + 1) ρ2 M2
        | some (.bk ρ2 M2) => some (.nx ρ2 M2)
        | some (.rt r M2) => some (.rt r M2)
        | none => none
def sFor (ms : EM Src) (b : Bnd) (body : SM) : SM := fun ρ M => match ms ρ M with
  | some (src, M') => forGo src b body src.n 0 ρ M'
  | none => none
theorem psm_for {iter : Expr} {body : List Stmt} {ms : EM Src} {b : Bnd} {is : List Nat} {mb : SM} (hp : PassesOwn (model X.prog X.w) X.A X.env X.xe) (hc : X.calm = true) (hi : PIm X tg iter ms) (hg : PGm X tg b is) (hb : PSsm X body mb)
    (hs : ∀ x, foldedSetIterable iter X.env x = pure x := by intro _; rfl) : PSm X (.For tg iter body [] pos) (sFor ms b mb) := PS.imp (ps_for hp hc hi hg hb hs) fun E σ H ⟨Hk, ls, ρ, M, o, w, en, hm, q⟩ => by
  unfold sFor at hm
  cases hr : ms ρ M with
  | none => rw [hr] at hm; cases hm
  | some p =>
    obtain ⟨src, M'⟩ := p
    rw [hr] at hm
    refine ⟨Hk, ls, ρ, M, src, M', w, en, hr, fun J Hk1 H1 w1 x1 sr => ?_⟩
    refine ⟨fun i m σ' H' => ∃ Hk2 ls2 ρ2 M2 o2, World X.K Hk2 H' M2 ls2 ∧ Same Hk1 Hk2 ∧ (∃ t, ls2 = ls ++ t) ∧ EnvR X.K Hk2 ls2 σ' ρ2 ∧ forGo src b mb m i ρ2 M2 = some o2 ∧ OutR X.K ls2 Hk2 H' E o2, ?_, ?_⟩
    · exact ⟨src.n, Hk1, ls, ρ, M', o, w1, fun _ _ h => h, ⟨[], by simp⟩, en.mono x1.kk, hm, q.back x1.s⟩
    · rintro i m σ' H' ⟨Hk2, ls2, ρ2, M2, o2, w2, k2, p2, en2, hf, q2⟩
      obtain ⟨sg, ss⟩ := sr Hk2 H' M2 ls2 w2 k2 p2
      cases m with
      | zero =>
        unfold forGo at hf
        split at hf
        · rename_i hst
          cases hf
          exact .inl ⟨ss i hst, q2 σ' Hk2 H' ls2 w2 (ExtS.refl _ _ _) en2⟩
        · cases hf
      | succ m =>
        unfold forGo at hf
        cases hx : src.get M2 i with
        | none => rw [hx] at hf; cases hf
        | some x =>
          rw [hx] at hf
          obtain ⟨go, yl⟩ := sg i x hx
          refine .inr ⟨go, fun σ3 H3 => ∃ Hk2 ls2 ρ2 M2 o2, World X.K Hk2 H3 M2 ls2 ∧ Same Hk1 Hk2 ∧ (∃ t, ls2 = ls ++ t) ∧ EnvR X.K Hk2 ls2 σ3 ρ2 ∧ forGo src b mb m (i + 1) ρ2 M2 = some o2 ∧ OutR X.K ls2 Hk2 H3 E o2, fun σ3 H3 h => ⟨m, Nat.lt_succ_self m, h⟩, fun v H3 hy => ?_⟩
          obtain ⟨Hk3, w3, x3, r3⟩ := yl v H3 hy
          simp only at hf
          cases hbx : b x ρ2 with
          | none => rw [hbx] at hf; cases hf
          | some ρ3 =>
            rw [hbx] at hf
            simp only at hf
            refine ⟨Hk3, ls2, ρ2, M2, x, ρ3, w3, en2.mono x3.kk, r3, hbx, fun σ4 en4 _ => ?_⟩
            cases hbody : mb ρ3 M2 with
            | none => rw [hbody] at hf; cases hf
            | some o3 =>
              rw [hbody] at hf
              refine ⟨Hk3, ls2, ρ3, M2, o3, w3, en4, hbody, ?_⟩
              cases o3 with
              | nx ρ5 M5 => exact fun σ5 Hk5 H5 ls5 w5 x5 en5 => ⟨Hk5, ls5, ρ5, M5, o2, w5, fun a o z => x5.kk a o (x3.kk a o (k2 a o z)), by
                  obtain ⟨t, rfl⟩ := p2
                  obtain ⟨u, rfl⟩ := x5.pre
                  exact ⟨t ++ u, by rw [List.append_assoc]⟩, en5, hf, q2.back (x3.s.trans x5)⟩
              | ct ρ5 M5 => exact fun σ5 Hk5 H5 ls5 w5 x5 en5 => ⟨Hk5, ls5, ρ5, M5, o2, w5, fun a o z => x5.kk a o (x3.kk a o (k2 a o z)), by
                  obtain ⟨t, rfl⟩ := p2
                  obtain ⟨u, rfl⟩ := x5.pre
                  exact ⟨t ++ u, by rw [List.append_assoc]⟩, en5, hf, q2.back (x3.s.trans x5)⟩
              | bk ρ5 M5 =>
                cases hf
                exact fun σ5 Hk5 H5 ls5 w5 x5 en5 => q2 σ5 Hk5 H5 ls5 w5 (x3.s.trans x5) en5
              | rt r5 M5 =>
                cases hf
                exact fun v5 Hk5 H5 ls5 w5 x5 r6 => q2 v5 Hk5 H5 ls5 w5 (x3.s.trans x5) (r6.backS x3.s)

/-! ### while -/
def whileGo (c : EM Bool) (body : SM) : Nat → Env → MS → Option Out
  | 0, _, _ => none
  | k + 1, ρ, M => match c ρ M with
    | none => none
    | some (false, M1) => some (.nx ρ M1)
    | some (true, M1) => match body ρ M1 with
      | some (.nx ρ2 M2) => whileGo c body k ρ2 M2
      | some (.ct ρ2 M2) => whileGo c body k ρ2 M2
      | some (.bk ρ2 M2) => some (.nx ρ2 M2)
      | some (.rt r M2) => some (.rt r M2)
      | none => none
theorem psm_while {c : Expr} {body : List Stmt} {mc : EM Bool} {mb : SM} (n : Nat) (hp : PassesOwn (model X.prog X.w) X.A X.env X.xe) (hc : PTm X c mc) (hb : PSsm X body mb) : PSm X (.While c body [] pos) (whileGo mc mb n) := PS.imp (ps_while hp hc hb) fun E σ H ⟨Hk, ls, ρ, M, o, w, en, hm, q⟩ => by
  refine ⟨fun m σ' H' => ∃ Hk2 ls2 ρ2 M2 o2, World X.K Hk2 H' M2 ls2 ∧ EnvR X.K Hk2 ls2 σ' ρ2 ∧ whileGo mc mb m ρ2 M2 = some o2 ∧ OutR X.K ls2 Hk2 H' E o2, ⟨n, Hk, ls, ρ, M, o, w, en, hm, q⟩, ?_⟩
  rintro m σ' H' ⟨Hk2, ls2, ρ2, M2, o2, w2, en2, hf, q2⟩
  cases m with
  | zero => cases hf
  | succ m =>
    unfold whileGo at hf
    cases hx : mc ρ2 M2 with
    | none => rw [hx] at hf; cases hf
    | some p =>
      obtain ⟨k, M3⟩ := p
      rw [hx] at hf
      refine ⟨Hk2, ls2, ρ2, M2, k, M3, w2, en2, hx, fun Hk3 H3 w3 x3 => ?_⟩
      cases k with
      | false =>
        rw [if_neg Bool.false_ne_true]
        cases hf
        exact q2 σ' Hk3 H3 ls2 w3 x3.s (en2.mono x3.kk)
      | true =>
        rw [if_pos rfl]
        refine ⟨fun σ3 H3 => ∃ Hk2 ls2 ρ2 M2 o2, World X.K Hk2 H3 M2 ls2 ∧ EnvR X.K Hk2 ls2 σ3 ρ2 ∧ whileGo mc mb m ρ2 M2 = some o2 ∧ OutR X.K ls2 Hk2 H3 E o2, fun σ3 H3 h => ⟨m, Nat.lt_succ_self m, h⟩, ?_⟩
        simp only at hf
        cases hbody : mb ρ2 M3 with
        | none => rw [hbody] at hf; cases hf
        | some o3 =>
          rw [hbody] at hf
          refine ⟨Hk3, ls2, ρ2, M3, o3, w3, en2.mono x3.kk, hbody, ?_⟩
          cases o3 with
          | nx ρ5 M5 => exact fun σ5 Hk5 H5 ls5 w5 x5 en5 => ⟨Hk5, ls5, ρ5, M5, o2, w5, en5, hf, q2.back (x3.s.trans x5)⟩
          | ct ρ5 M5 => exact fun σ5 Hk5 H5 ls5 w5 x5 en5 => ⟨Hk5, ls5, ρ5, M5, o2, w5, en5, hf, q2.back (x3.s.trans x5)⟩
          | bk ρ5 M5 =>
            cases hf
            exact fun σ5 Hk5 H5 ls5 w5 x5 en5 => q2 σ5 Hk5 H5 ls5 w5 (x3.s.trans x5) en5
          | rt r5 M5 =>
            cases hf
            exact fun v5 Hk5 H5 ls5 w5 x5 r6 => q2 v5 Hk5 H5 ls5 w5 (x3.s.trans x5) (r6.backS x3.s)

/-! ### list comprehensions -/
def wipeE (ρ : Env) : List Nat → Env
  | [] => ρ
  | v :: vs => (wipeE ρ vs).set v none
theorem EnvR.wipe {K : PySem.W.Frag} {Hk : Hp} {ls : List Addr} {σ : L2.St} {ρ : Env} (h : EnvR K Hk ls σ ρ) : ∀ vs : List Nat, EnvR K Hk ls (L2.wipe σ vs) (wipeE ρ vs)
  | [] => h
  | v :: vs => by
    have ih := EnvR.wipe h vs
    unfold L2.wipe wipeE
    refine ⟨by rw [List.length_set, List.length_set]; exact ih.1, fun j t e => ?_⟩
    by_cases hj : v = j
    · subst hj
      by_cases hl : v < (wipeE ρ vs).length
      · rw [List.getElem?_set_self hl] at e; cases e
      · rw [List.getElem?_eq_none (by rw [List.length_set]; omega)] at e; cases e
    · rw [List.getElem?_set_ne hj] at e ⊢
      exact ih.2 j t e
theorem wipe_wipe {σ : L2.St} (vs : List Nat) : L2.wipe (L2.wipe σ vs) vs = L2.wipe σ vs := by
  have gen : ∀ ws : List Nat, (∀ i ∈ ws, i ∈ vs) → L2.wipe (L2.wipe σ ws) vs = L2.wipe σ vs := by
    intro ws
    induction ws with
    | nil => intro _; rfl
    | cons w ws ih =>
      intro h
      show L2.wipe ((L2.wipe σ ws).set w none) vs = _
      rw [wipe_set (h w (by simp))]
      exact ih fun i hi => h i (List.mem_cons_of_mem _ hi)
  exact gen vs fun _ h => h
def compGo (src : Src) (b : Bnd) (c : EM Bool) (el : EM R) (ρ0 : Env) : Nat → Nat → List D → MS → Option (List D × MS)
  | 0, i, acc, M => if src.stop M i = true then some (acc, M) else none
  | k + 1, i, acc, M => match src.get M i with
    | none => none
    | some x => match b x ρ0 with
      | none => none
      | some ρ1 => match c ρ1 M with
        | none => none
        | some (false, M1) => compGo src b c el ρ0 k (i + 1) acc M1
        | some (true, M1) => match fz el ρ1 M1 with
          | some (.dt d, M2) => if acc.length < sizeLine then compGo src b c el ρ0 k (i + 1) (acc ++ [d]) M2 else none
          | _ => none
def eComp (ms : EM Src) (b : Bnd) (c : EM Bool) (el : EM R) (vs : List Nat) : EM R := fun ρ M => match ms ρ M with
  | some (src, M') => match compGo src b c el (wipeE ρ vs) src.n 0 [] M' with
    | some (ds, M2) => some (.fr ds, M2)
    | none => none
  | none => none
theorem World.upd_other {K : PySem.W.Frag} {Hk H : Hp} {M : MS} {ls : List Addr} {p : Addr} {o : HO} (w : World K Hk H M ls) (h1 : Hk p = none) (h2 : p ∉ ls) : World K Hk (upd H p o) M ls where
  sub := fun b u e => by rw [upd_ne (ne_of_none e h1)]; exact w.sub b u e
  len := w.len
  nd := w.nd
  dj := w.dj
  ms := fun k x e => by
    obtain ⟨l, hl, ho⟩ := w.ms k x e
    refine ⟨l, hl, ?_⟩
    have nl : l ≠ p := fun z => h2 (z ▸ List.mem_of_getElem? hl)
    cases x with
    | l xs => obtain ⟨vs, a, b⟩ := ho; exact ⟨vs, by rw [upd_ne nl]; exact a, b⟩
    | d ks xs => obtain ⟨vs, a, b, c⟩ := ho; exact ⟨vs, by rw [upd_ne nl]; exact a, b, c⟩
    | i C ns xs => obtain ⟨dx, vs, a, b, c⟩ := ho; exact ⟨dx, vs, by rw [upd_ne nl]; exact a, b, c⟩
theorem Ext.upd_other {ls : List Addr} {Hk0 H0 Hk H : Hp} {p : Addr} {o : HO} (x : Ext ls Hk0 H0 Hk H) (h : H0 p = none) : Ext ls Hk0 H0 Hk (upd H p o) where
  kk := x.kk
  fr := fun a u e hn => by rw [upd_ne (ne_of_none e h)]; exact x.fr a u e hn
  gr := x.gr
  st := fun a e => by
    by_cases z : a = p
    · subst z; exact absurd h e
    · rw [upd_ne z]; exact x.st a e
variable {elt iter : Expr} {ifs : List Expr} {scope : Scope} {own : List (Str × Nat)} {ms : EM Src} {b : Bnd} {is : List Nat} {mc : EM Bool} {me : EM R}
theorem ecomp_go {vs : List Nat} (hv : ∀ i ∈ is, i ∈ vs) : ∀ σ H Q, tM X.K (eComp ms b mc me vs) σ H Q → tLc (tI X.K ms) (tG X.K b is) (tT X.K mc) (tV X.K (fz me)) vs σ H Q := fun σ H Q ⟨Hk, ls, ρ, M, r, M', w, en, hm, q⟩ => by
  unfold eComp at hm
  cases hr : ms ρ M with
  | none => rw [hr] at hm; cases hm
  | some p =>
    obtain ⟨src, M1⟩ := p
    rw [hr] at hm
    simp only at hm
    cases hcg : compGo src b mc me (wipeE ρ vs) src.n 0 [] M1 with
    | none => rw [hcg] at hm; cases hm
    | some p2 =>
      obtain ⟨ds, M2⟩ := p2
      rw [hcg] at hm
      cases hm
      refine ⟨Hk, ls, ρ, M, src, M1, w, en, hr, fun J Hk1 H1 w1 x1 sr Dl hD => ?_⟩
      obtain ⟨hD1, hD2⟩ := w1.fresh hD
      refine ⟨fun i m H' => ∃ Hk2 M2 acc vs0, World X.K Hk2 H' M2 ls ∧ Ext ls Hk1 H1 Hk2 H' ∧ H' Dl = some (.lst vs0) ∧ Hk2 Dl = none ∧ RpA X.K Hk2 vs0 acc ∧ compGo src b mc me (wipeE ρ vs) m i acc M2 = some (ds, M'), ?_, ?_⟩
      · exact ⟨src.n, Hk1, M1, [], [], w1.upd_new hD, Ext.upd_new hD, upd_same, hD1, .nil, hcg⟩
      · rintro i m H' ⟨Hk2, M2, acc, vs0, w2, x2, hd2, hk2, ra2, hf⟩
        obtain ⟨sg, ss⟩ := sr Hk2 H' M2 ls w2 x2.kk ⟨[], by simp⟩
        cases m with
        | zero =>
          unfold compGo at hf
          split at hf
          · rename_i hst
            cases hf
            refine .inl ⟨ss i hst, q (.ref Dl) Hk2 H' w2 (x1.trans x2) ⟨Dl, vs0, rfl, ?_, hk2, hD2, hd2, ra2⟩⟩
            cases e : H Dl with
            | none => rfl
            | some o => exact absurd hD (x1.st Dl (by rw [e]; simp))
          · cases hf
        | succ m =>
          unfold compGo at hf
          cases hx : src.get M2 i with
          | none => rw [hx] at hf; cases hf
          | some x =>
            rw [hx] at hf
            simp only at hf
            obtain ⟨go, yl⟩ := sg i x hx
            refine .inr ⟨go, fun H3 => ∃ Hk2 M2 acc vs0, World X.K Hk2 H3 M2 ls ∧ Ext ls Hk1 H1 Hk2 H3 ∧ H3 Dl = some (.lst vs0) ∧ Hk2 Dl = none ∧ RpA X.K Hk2 vs0 acc ∧ compGo src b mc me (wipeE ρ vs) m (i + 1) acc M2 = some (ds, M'), fun H3 h => ⟨m, Nat.lt_succ_self m, h⟩, fun v H3 hy => ?_⟩
            obtain ⟨Hk3, w3, x3, r3⟩ := yl v H3 hy
            have hd3 : H3 Dl = some (.lst vs0) := x3.fr Dl _ hd2 hD2
            have free : ∀ {Hk5 H5 : Hp}, Ext ls Hk2 H' Hk5 H5 → Hk5 Dl = none := fun {Hk5 H5} x5 => by
              cases e : Hk5 Dl with
              | none => rfl
              | some o =>
                rcases x5.gr Dl (by rw [e]; simp) with z | z
                · exact absurd hk2 z
                · rw [hd2] at z; cases z
            cases hbx : b x (wipeE ρ vs) with
            | none => rw [hbx] at hf; cases hf
            | some ρ3 =>
              rw [hbx] at hf
              simp only at hf
              have enw : EnvR X.K Hk3 ls (L2.wipe σ vs) (wipeE ρ vs) := (en.mono fun a o z => x3.kk a o (x2.kk a o (x1.kk a o z))).wipe vs
              refine ⟨Hk3, ls, wipeE ρ vs, M2, x, ρ3, w3, enw, r3, hbx, fun σ4 en4 hw4 => ⟨by rw [hw4 vs hv, wipe_wipe], ?_⟩⟩
              cases hc : mc ρ3 M2 with
              | none => rw [hc] at hf; cases hf
              | some pc =>
                obtain ⟨k, M4⟩ := pc
                rw [hc] at hf
                refine ⟨Hk3, ls, ρ3, M2, k, M4, w3, en4, hc, fun Hk5 H5 w5 x5 => ?_⟩
                have x35 := x3.trans x5
                cases k with
                | false =>
                  refine iteF ?_
                  exact ⟨Hk5, M4, acc, vs0, w5, x2.trans x35, x5.fr Dl _ hd3 hD2, free x35, ra2.mono x35.kk, hf⟩
                | true =>
                  refine iteT ?_
                  simp only at hf
                  cases he : fz me ρ3 M4 with
                  | none => rw [he] at hf; cases hf
                  | some pe =>
                    obtain ⟨s6, M6⟩ := pe
                    rw [he] at hf
                    cases s6 with
                    | mu k => cases hf
                    | dt d =>
                      simp only at hf
                      split at hf
                      · rename_i hz
                        refine ⟨Hk5, ls, ρ3, M4, .dt d, M6, w5, en4.mono x5.kk, he, fun y Hk6 H6 w6 x6 r6 => ?_⟩
                        have x36 := x35.trans x6
                        have hd6 : H6 Dl = some (.lst vs0) := x6.fr Dl _ (x5.fr Dl _ hd3 hD2) hD2
                        refine ⟨vs0, hd6, by rw [ra2.length]; exact hz, Hk6, M6, acc ++ [d], vs0 ++ [y], w6.upd_other (free x36) hD2, (x2.trans x36).upd_other hD, upd_same, free x36, (ra2.mono x36.kk).append (.cons r6 .nil), hf⟩
                      · cases hf
def cYes : EM Bool := EM.ret true
abbrev PTsm (X : Cx) (ifs : List Expr) (m : EM Bool) : Prop := PTs X ifs (tT X.K m)
theorem ptsm_nil : PTsm X [] cYes := ⟨fun pins s σ H Q I ⟨Hk, ls, ρ, M, r, M', w, en, hm, q⟩ => by
  cases hm
  exact pts_nil.run pins s σ H Q I (q Hk H w (Ext.refl _ _ _))⟩
theorem ptsm_one {c : Expr} (h : PTm X c mc) : PTsm X [c] mc := pts_one h
theorem pm_comp (hc : X.calm = true) (hN : X.N.Nodup) (hi : PIm X tg iter ms) (ok : BlkOk X.N X.env.scope scope own) (hv : ∀ i ∈ is, i ∈ own.map (·.2))
    (hg : ∀ (s : Shared) (H : Hp) (C : Addr) (cl : List (Str × Addr)) (fp : List Addr), PGm (X.blk s H scope (compEnvC scope cl C X.env) fp) tg b is) (ht : ∀ (s : Shared) (H : Hp) (C : Addr) (cl : List (Str × Addr)) (fp : List Addr), PTsm (X.blk s H scope (compEnvC scope cl C X.env) fp) ifs mc)
    (he : ∀ (s : Shared) (H : Hp) (C : Addr) (cl : List (Str × Addr)) (fp : List Addr), PM (X.blk s H scope (compEnvC scope cl C X.env) fp) elt me) (hs : ∀ x, foldedSetIterable iter X.env x = pure x := by intro _; rfl) :
    PM X (.ListComp elt [⟨tg, iter, ifs, 0⟩] scope pos) (eComp ms b mc me (own.map (·.2))) :=
  PE.imp (pe_lc hc hN hi ok hg ht (fun s H C cl fp => PM.v (he s H C cl fp)) hs) (ecomp_go hv)
theorem ps_comp {i : Nat} {y : Str} {py spos : Pos} (hc : X.calm = true) (hN : X.N.Nodup) (hy : X.N[i]? = some y) (hyl : X.env.scope.names.lookup y = some .local)
    (hsw : swapsWith (.ListComp elt [⟨tg, iter, ifs, 0⟩] scope pos) (some (.Name y py)) spos.line X.env = pure true) (hi : PIm X tg iter ms) (ok : BlkOk X.N X.env.scope scope own) (hv : ∀ i ∈ is, i ∈ own.map (·.2))
    (hg : ∀ (s : Shared) (H : Hp) (C : Addr) (cl : List (Str × Addr)) (fp : List Addr), PGm (X.blk s H scope (compEnvC scope cl C X.env) fp) tg b is) (ht : ∀ (s : Shared) (H : Hp) (C : Addr) (cl : List (Str × Addr)) (fp : List Addr), PTsm (X.blk s H scope (compEnvC scope cl C X.env) fp) ifs mc)
    (he : ∀ (s : Shared) (H : Hp) (C : Addr) (cl : List (Str × Addr)) (fp : List Addr), PM (X.blk s H scope (compEnvC scope cl C X.env) fp) elt me) (hs : ∀ x, foldedSetIterable iter X.env x = pure x := by intro _; rfl) :
    PS X (.Assign [.Name y py] (.ListComp elt [⟨tg, iter, ifs, 0⟩] scope pos) spos) (tAsg (tM X.K (eComp ms b mc me (own.map (·.2)))) (gName i)) :=
  PS.imp (ps_setLc hc hN hy hyl hsw hi ok hg ht (fun s H C cl fp => PM.v (he s H C cl fp)) hs) fun E σ H h => ecomp_go hv σ H _ h
end
end Dy

set_option Elab.async false
set_option linter.all false
set_option maxRecDepth 100000
set_option maxHeartbeats 4000000
/-! Layer Dy, part 8: defs called where no repr runs around (guards are empty); the law's end. -/
namespace Dy
open PySem L2 PySem.Spec PyProof.Rows
/-- a def keeps a promise wherever no guard stands around -/
structure FnG (P : Program) (w : PySem.World) (K : PySem.W.Frag) (mg : Str → Option Value) (base : Heap) (CX : CXT) (k : Nat) (f : Addr) (fd : FuncData) (ps : List Str) (sp : Sp) : Prop where
  ln : ∀ vs H Q E, sp vs H Q E → vs.length = ps.length
  go : ∀ (A : Around) (outer : List PySem.Env) (s : Shared) (H : Hp) (args : Args) (us : List Value) (vs : List V) (Q : VK) (E : XK), A.guards = some [] → Room k A → Env0 P w K mg base A outer s H →
    BindsTo s fd args (ps.zip us) → Vals vs us → sp vs H Q E → codeAny (model P w) A (.call (.ref f) args) (CR CX outer P w H s Q E) s
section
variable {P : Program} {w : PySem.World} {K : PySem.W.Frag} {mg : Str → Option Value} {base : Heap} {CX : CXT} {k : Nat} {f : Addr} {fd : FuncData} {ps : List Str} {sp sp' : Sp}
theorem FnG.up {j : Nat} (F : FnG P w K mg base CX j f fd ps sp) (h : j ≤ k) : FnG P w K mg base CX k f fd ps sp := ⟨F.ln, fun A outer s H args us vs Q E hg hr => F.go A outer s H args us vs Q E hg (hr.mono h)⟩
theorem FnG.imp (F : FnG P w K mg base CX k f fd ps sp) (h : ∀ vs H Q E, sp' vs H Q E → sp vs H Q E) : FnG P w K mg base CX k f fd ps sp' :=
  ⟨fun vs H Q E q => F.ln vs H Q E (h _ _ _ _ q), fun A outer s H args us vs Q E hg hr e b v q => F.go A outer s H args us vs Q E hg hr e b v (h _ _ _ _ q)⟩
theorem FnOk.g (F : FnOk P w K mg base CX k f fd ps sp) : FnG P w K mg base CX k f fd ps sp := ⟨F.len, fun A outer s H args us vs Q E _ hr e b v q => F.run A outer s H args us vs Q E hr e b v q⟩
/-- nothing is promised -/
theorem FnG.no : FnG P w K mg base CX k f fd ps (fun _ _ _ _ => False) := ⟨fun _ _ _ _ h => h.elim, fun _ _ _ _ _ _ _ _ _ _ _ _ _ _ h => h.elim⟩

/-- from the body to the promise -/
theorem fng_of {name qual : Str} {params : Arguments} {body : List Stmt} {scope : Scope} {dV kV doc pm cdv ct oc : Value} {an od : Option Addr} {osl : Array (Option Value)} {N : List Str}
    (lk : K.lookup f = some ⟨oc, od, .func (PySem.W.fnOf name qual params body scope dV kV doc pm an cdv ct), osl⟩) (hcd : PySem.W.codeIn K cdv qual = true) (S : FnScope N ps scope) (ln : ∀ vs H Q E, sp vs H Q E → vs.length = ps.length)
    (hbody : ∀ (A : Around) (outer : List PySem.Env) (s : Shared) (H : Hp) (vs : List V) (Q : VK) (E : XK), A.guards = some [] → Room k (A.deeper (envOfC qual scope s.heap.objs.size f cdv)) → sp vs H Q E →
      ∃ t, PSs (cxOf CX P w K mg base N qual scope f cdv A outer s H E) body t ∧ t { nx := fun _ H' => Q .non H', rt := Q } (L2.start N vs) H) :
    FnG P w K mg base CX (k + 1) f (PySem.W.fnOf name qual params body scope dV kV doc pm an cdv ct) ps sp := by
  constructor
  · exact ln
  · intro A outer s H args us vs Q E hgd hr e0 hb r hsp
    have old : ∀ b o, base.get? b = some o → s.heap.get? b = some o := fun b o e => (e0.bs b o e).1
    have KX := e0.mod.kin.keeps old
    have lim := e0.mod.nolimit.keeps old
    refine codeAny_call_function hr.depth (KX _ _ lk) rfl S.co S.gen rfl (PySem.W.codeRec_of KX hcd) (hb _ _ _ _ ?_)
    refine wpAny_newFunctionEnv_cells S.kind ?_ fun env he s1 x => ?_
    · rintro ⟨n, v⟩ hy
      rcases S.par n (List.of_mem_zip hy).1 with q | q
      · left; exact q
      · right; exact ⟨q, PySem.W.cellsFrom_some _ _ _ (.inl q)⟩
    · cases he
      refine ⟨lim.keeps x.toInCall.keep, codeAny_func ?_⟩
      obtain ⟨t, ht, hq⟩ := hbody A outer s H vs Q E hgd (hr.deeper _) hsp
      have I := inv_start (CX := CX) (E := E) (qual := qual) (f := f) (cd := cdv) S hr.hd e0 (ln _ _ _ _ hsp) r x
      refine wpAny_mono (ht.run [] s1 (L2.start N vs) H _ I hq) (fun fl s' hs => ?_) fun _ _ hs => hs
      cases fl with
      | brk => obtain ⟨_, _, _, z⟩ := hs; exact z.elim
      | cont => obtain ⟨_, _, _, z⟩ := hs; exact z.elim
      | next => obtain ⟨σ', H', J, z⟩ := hs; exact ⟨.non, H', J.os, J.bare, J.base, J.hok, rfl, z⟩
      | ret u => obtain ⟨v, σ', H', J, rv, z⟩ := hs; exact ⟨v, H', J.os, J.bare, J.base, J.hok, rv, z⟩
theorem FunG.ok {x qual : Str} {st : Stmt} {N : List Str} (F : Fun K x qual st f fd) (S : FnScope N ps (defScope st)) (ln : ∀ vs H Q E, sp vs H Q E → vs.length = ps.length)
    (hbody : ∀ (cdv : Value) (A : Around) (outer : List PySem.Env) (s : Shared) (H : Hp) (vs : List V) (Q : VK) (E : XK), A.guards = some [] → Room k (A.deeper (envOfC qual (defScope st) s.heap.objs.size f cdv)) → sp vs H Q E →
      ∃ t, PSs (cxOf CX0 P w K mg base N qual (defScope st) f cdv A outer s H E).nox (defBody st) t ∧ t { nx := fun _ H' => Q .non H', rt := Q } (L2.start N vs) H) : FnG P w K mg base CX0 (k + 1) f fd ps sp := by
  obtain ⟨oc, od, kV, doc, pm, an, cdv, ct, osl, rfl, lk, hcd⟩ := F.ex
  refine fng_of lk hcd S ln fun A outer s H vs Q E hgd hr h => ?_
  obtain ⟨t, ht, q⟩ := hbody cdv A outer s H vs Q E hgd hr h
  exact ⟨t, ht.nox, q⟩
end
section
variable {X : Cx} {CX : CXT} {k : Nat} {f : Addr} {fd : FuncData} {ps : List Str} {sp : Sp} {dvs : List V} {ds : List Value} {E : XK} {x : Str} {p pos : Pos} {e : Expr} {es : List Expr} {t : TA}
theorem run_fng {pins : List (Addr × Obj)} {σ : L2.St} {H : Hp} {s : Shared} {Q : VK} {us : List Value} {vs : List V} (F : FnG X.prog X.w X.K X.mg X.base CX k f fd ps sp) (hgd : X.A.guards = some []) (hr : Room k X.A) (hb : Binds X.K fd ps ds) (hd : Vals dvs ds) (hx : Passes CX X E)
    (I : Inv X pins σ H s) (r : Vals vs us) (h : sp (vs ++ dvs) H Q E) : wpAny (model X.prog X.w) X.A (call (.ref f) us) (EP X pins σ Q) X.xe s := by
  have r2 := r.append hd
  have hl : (us ++ ds).length = ps.length := r2.length.symm.trans (F.ln _ _ _ _ h)
  refine wpAny_call (codeAny_mono (F.go X.A X.stack s H ⟨us, []⟩ (us ++ ds) (vs ++ dvs) Q E hgd hr I.env0 (hb s us I.kIn hl) r2 h) ?_)
  rintro (e | (_ | _ | _ | u)) s' hq
  · exact hx pins σ H s e s' I hq
  all_goals first | exact I.after hq | exact hq.elim
theorem pe_callG (F : FnG X.prog X.w X.K X.mg X.base CX k f fd ps sp) (hgd : X.A.guards = some []) (hr : Room k X.A) (hg : Gl X x) (hm : X.mg x = some (.ref f)) (hk : PySem.W.keepIn X.K (.ref f) = true) (hb : Binds X.K fd ps ds) (hd : Vals dvs ds) (hx : Passes CX X E)
    (ha : PA X (e :: es) t) (hdb : (x == ("__debug__" : Str)) = false := by decide) (he : starEach (e :: es) X.env = (false, eval e X.env) :: starEach es X.env := by rfl) (hpl : (backTo pos (starEach es X.env)).any (·.1) = false := by rfl) :
    PE X (.Call (.Name x p) (e :: es) [] pos) (tCall sp dvs E t) := by
  constructor
  intro pins s σ H Q I h
  refine wpAny_Call_Name_kw (ld_glob I hg hm (PySem.W.callWith_K (h₀ := X.base) I.ok.mod.kin hk ?_ he hpl) hdb)
  exact thn (ha.run pos pins s σ H _ I h) fun us s1 ⟨vs, H1, I1, r, q⟩ => ⟨I1.kIn, run_fng F hgd hr hb hd hx I1 r q⟩
theorem pe_callG0 (F : FnG X.prog X.w X.K X.mg X.base CX k f fd ps sp) (hgd : X.A.guards = some []) (hr : Room k X.A) (hg : Gl X x) (hm : X.mg x = some (.ref f)) (hk : PySem.W.keepIn X.K (.ref f) = true) (hb : Binds X.K fd ps ds) (hd : Vals dvs ds) (hx : Passes CX X E)
    (hdb : (x == ("__debug__" : Str)) = false := by decide) : PE X (.Call (.Name x p) [] [] pos) (tCall sp dvs E tNil) := by
  constructor
  intro pins s σ H Q I h
  exact wpAny_Call_Name_kw (ld_glob I hg hm (PySem.W.callWith_K0 I.kIn hk (run_fng (us := []) F hgd hr hb hd hx I .nil h)) hdb)
/-- a call of a def by its mirror -/
theorem pm_call {n : Nat} {g : Fn} {ms : EM (List SV)} (F : FnG X.prog X.w X.K X.mg X.base CX0 k f fd ps (spM X.K n g)) (hgd : X.A.guards = some []) (hr : Room k X.A) (hg : Gl X x) (hm : X.mg x = some (.ref f)) (hk : PySem.W.keepIn X.K (.ref f) = true) (hb : Binds X.K fd ps [])
    (ha : PAm X (e :: es) ms) (hn : ∀ ρ M ss M', ms ρ M = some (ss, M') → ss.length = n) (hdb : (x == ("__debug__" : Str)) = false := by decide) (he : starEach (e :: es) X.env = (false, eval e X.env) :: starEach es X.env := by rfl) (hpl : (backTo pos (starEach es X.env)).any (·.1) = false := by rfl) :
    PM X (.Call (.Name x p) (e :: es) [] pos) (eFn g ms) := PE.imp (pe_callG F hgd hr hg hm hk hb .nil pass0 ha hdb he hpl) (efn_go hn)
end

/-! ### the law's end -/
theorem law_end {P : Program} {w : PySem.World} {K : PySem.W.Frag} {mg mb : Str → Option Value} {CX : CXT} {k : Nat} {fa a : Addr} {fd : FuncData} {x : Str} {sp : Sp} {t : Shared} {vs : List Value} {ns : List Int} (KX : K.In t.heap) (hns : t.heap.Ns mainGlobals mg) (hb : t.heap.Ns builtinsNs mb)
    (hbb : ∀ x : Str, x ≠ "__name__" → mb x = bootBuiltins x) (hlim : t.heap.NoLimit) (hg : t.gens = #[]) (ha : t.heap.get? a = some { cls := .type "list", data := .seq vs.toArray }) (hi : IntsAre vs ns) (hl : ns.length ≤ sizeLine) (hr : Room k callerA)
    (F : ∀ base : Heap, K.In base → base.Ns mainGlobals mg → FnG P w K mg base CX k fa fd [x] sp) (hbind : ∀ (s : Shared) (u : Value), BindsTo s fd ⟨[u], []⟩ [(x, u)])
    (hsp : ∀ H : Hp, Only H → SqL K H a (ns.map V.int) → sp [.ref a] H (fun v _ => v = .bl true) fun _ _ _ => False) (hCX : ∀ H e s', CX [] H t (fun _ _ _ => False) e s' → False) :
    codeAny (model P w) callerA (.call (.ref fa) ⟨[.ref a], []⟩) (fun r s' => r = .ok (.ret (.bool true)) ∧ OldK t.heap s'.heap ∧ s'.os = t.os ∧ AllBare s'.gens) t := by
  have rv := vals_ints hi
  have lv := hi.length
  have main : ∀ H : Hp, Only H → SqL K H a (ns.map V.int) → HOk P w H t.heap → (∀ b u, H b = some u → b = a ∧ K.lookup a = none) →
      codeAny (model P w) callerA (.call (.ref fa) ⟨[.ref a], []⟩) (fun r s' => r = .ok (.ret (.bool true)) ∧ OldK t.heap s'.heap ∧ s'.os = t.os ∧ AllBare s'.gens) t := by
    intro H hO hS hok hA
    have dictFree : ∀ {b : Addr} {o : Obj} {es : Array DictEntry} {ep : Nat}, t.heap.get? b = some o → o.data = .dict es ep → H b = none := by
      intro b o es ep e d
      cases q : H b with
      | none => rfl
      | some u =>
        obtain ⟨rfl, _⟩ := hA b u q
        rw [ha] at e
        cases e
        cases (show Data.seq vs.toArray _ = Data.dict es ep from d)
    have nsB : ∀ {b : Addr} {m : Str → Option Value}, t.heap.Ns b m → (hidT t.heap H).Ns b m := fun ⟨o, es, ep, e, d, r⟩ => ⟨o, es, ep, hidT_get e (dictFree e d), d, r⟩
    have KB : K.In (hidT t.heap H) := by
      intro b o e
      refine hidT_get (KX b o e) ?_
      cases q : H b with
      | none => rfl
      | some u =>
        obtain ⟨rfl, z⟩ := hA b u q
        rw [z] at e
        cases e
    have env : Env0 P w K mg (hidT t.heap H) callerA [] t H :=
      { frames := rfl
        mod := ⟨KB, nsB hns, ⟨mb, nsB hb, hbb⟩, let ⟨mc, h1, h2⟩ := hlim; ⟨mc, nsB h1, h2⟩⟩
        bs := fun b o e => of_hidT e
        bsz := Nat.le_of_eq (hidT_size _ _)
        funs := trivial
        frf := fun b z => nomatch (show b ∈ ([] : List Addr) from z)
        hok := hok
        bare := .of_eq hg }
    refine codeAny_mono ((F _ KB (nsB hns)).go callerA [] t H ⟨[.ref a], []⟩ [.ref a] [.ref a] _ _ rfl hr env (hbind t (.ref a)) (.cons rfl .nil) (hsp H hO hS)) ?_
    rintro (e | (_ | _ | _ | u)) s' h
    · exact (hCX H e s' h).elim
    · exact h.elim
    · exact h.elim
    · exact h.elim
    · obtain ⟨v, H', os, bare, un, hok', r', q⟩ := h
      cases (show v = .bl true from q)
      cases (show u = Value.bool true from r')
      refine ⟨rfl, OldK.of_keep fun b o e => ?_, os, bare⟩
      cases q : H b with
      | none => exact un.keep b o e q (fun z => nomatch (show b ∈ ([] : List Addr) from z)) (by simp)
      | some u =>
        rcases hO b with z | ⟨ob, xs, z⟩
        · rw [q] at z
          cases z
        · obtain ⟨e1, _⟩ := hok b _ z
          obtain ⟨e2, _⟩ := hok' b _ (un.frzs b ob _ z)
          rw [e] at e1
          cases e1
          exact e2
  cases hk : K.lookup a with
  | some o =>
    have e := KX a o hk
    rw [ha] at e
    cases e
    refine main (fun _ => none) (fun _ => .inl rfl) ?_ (fun b u z => nomatch z) fun b u z => nomatch z
    exact .inr ⟨_, vs.toArray, _, hk, rfl, rfl, rfl, by rw [List.size_toArray, lv]; exact hl, by simpa using rv⟩
  | none =>
    have at1 : ∀ {b : Addr} {u : HO}, (if b = a then some (HO.frz { cls := .type "list", data := .seq vs.toArray } (.lst (ns.map V.int))) else none) = some u → b = a ∧ u = HO.frz { cls := .type "list", data := .seq vs.toArray } (.lst (ns.map V.int)) := by
      intro b u z
      split at z
      · rename_i hb
        cases z
        exact ⟨hb, rfl⟩
      · cases z
    refine main (fun b => if b = a then some (.frz { cls := .type "list", data := .seq vs.toArray } (.lst (ns.map V.int))) else none) (fun b => ?_) (.inl (.inr ⟨_, if_pos rfl⟩)) (fun b u z => ?_) fun b u z => ⟨(at1 z).1, hk⟩
    · by_cases hb : b = a
      · exact .inr ⟨_, _, if_pos hb⟩
      · exact .inl (if_neg hb)
    · obtain ⟨rfl, rfl⟩ := at1 z
      exact ⟨ha, by rw [List.length_map]; exact hl, vs, _, rv, ha⟩
theorem walk_end {l : PySem.W.OpenLaw} {n k : Nat} {q : Program} {loose : List Str} {XP : (Str → Option Value) → Heap → Prop} {YP : PySem.World → Heap → Prop} {d : DefRec} {CX : CXT} {x : Str}
    (hn : l.most = some n) (hn2 : n ≤ sizeLine) (hdf : d.params.defaults = []) (hr : Room k callerA)
    (F : ∀ (w : PySem.World) (mg : Str → Option Value) (fa : Addr) (h : Heap), YP w h → h.Ns mainGlobals mg → mg d.name = some (.ref fa) → ∃ (K : PySem.W.Frag) (fd : FuncData) (sp : Sp), K.In h ∧ (∀ (s : Shared) (u : Value), BindsTo s fd ⟨[u], []⟩ [(x, u)]) ∧
        (∀ (H : Hp) (a : Addr) (ns : List Int), ns.length ≤ n → Only H → SqL K H a (ns.map V.int) → sp [.ref a] H (fun v _ => v = .bl true) fun _ _ _ => False) ∧
        ∀ base : Heap, K.In base → base.Ns mainGlobals mg → FnG l.prog w K mg base CX k fa fd [x] sp)
    (hCX : ∀ (H : Hp) (s : Shared) (e : Value) (s' : Shared), CX [] H s (fun _ _ _ => False) e s' → False) :
    PySem.W.WalkO q loose XP YP l.row.toRowW d [] (fun f vs => PySem.call f vs) := by
  refine Att.attach_call hn hdf ?_
  intro w s0 t mg mb fa o pm cd doc a vs ns G Y ho hd hcd hmg hobj hints hlen hg
  obtain ⟨K, fd, sp, KX, hb, hsp, hF⟩ := F w mg fa _ Y G.T.g hmg
  exact law_end KX G.T.g G.T.b G.T.builtins G.T.nolimit hg hobj hints (Nat.le_trans hlen hn2) hr hF hb (fun H hO hS => hsp H a ns hlen hO hS) fun H e s' => hCX H t e s'
end Dy

set_option Elab.async false
set_option linter.all false
set_option maxRecDepth 100000
set_option maxHeartbeats 4000000
/-! Layer Dy, part 9: built-ins. -/
namespace Dy
open PySem L2

/-! ### calls of built-ins by values -/
def CallD (K : PySem.W.Frag) (r : List V → Hp → VK → Prop) (g : MS → List SV → Option R) : Prop := ∀ (Hk H : Hp) (M : MS) (ls : List Addr) (vs : List V) (ss : List SV) (z : R) (Q : VK), World K Hk H M ls → SVs K Hk ls ls.length vs ss → g M ss = some z → Res K ls Hk H z M Q → r vs H Q
def eCall (g : MS → List SV → Option R) (ms : EM (List SV)) : EM R := ms.seq fun ss => fun _ M => match g M ss with
  | some z => some (z, M)
  | none => none
theorem ecall_go {X : Cx} {r : List V → Hp → VK → Prop} {g : MS → List SV → Option R} {ms : EM (List SV)} (hd : CallD X.K r g) : ∀ σ H Q, tM X.K (eCall g ms) σ H Q → tCB r (tA X.K ms) σ H Q := fun σ H Q ⟨Hk, ls, ρ, M, z, M', w, en, hm, q⟩ => by
  obtain ⟨ss, M1, h1, h2⟩ := seq_some hm
  refine ⟨Hk, ls, ρ, M, ss, M1, w, en, h1, fun vs Hk1 H1 w1 x1 r1 => ?_⟩
  cases hg : g M1 ss with
  | none => rw [hg] at h2; cases h2
  | some z' =>
    rw [hg] at h2
    cases h2
    exact hd Hk1 H1 _ ls vs ss _ Q w1 r1 hg (q.back x1)
/-- one argument -/
def g1 (g : MS → SV → Option R) : MS → List SV → Option R := fun M ss => match ss with
  | [s] => g M s
  | _ => none
def g2 (g : MS → SV → SV → Option R) : MS → List SV → Option R := fun M ss => match ss with
  | [s, t] => g M s t
  | _ => none
theorem CallD.one {K : PySem.W.Frag} {r : List V → Hp → VK → Prop} {g : MS → SV → Option R} (h : ∀ (Hk H : Hp) (M : MS) (ls : List Addr) (v : V) (s : SV) (z : R) (Q : VK), World K Hk H M ls → SVr K Hk ls ls.length v s → g M s = some z → Res K ls Hk H z M Q → r [v] H Q) : CallD K r (g1 g) := by
  intro Hk H M ls vs ss z Q w rs e q
  unfold g1 at e
  split at e
  · cases rs with
    | cons r1 t => cases t; exact h Hk H M ls _ _ z Q w r1 e q
  · cases e
section
variable {X : Cx} {x : Str} {p pos : Pos} {e : Expr} {es : List Expr} {ms : EM (List SV)} {id T : String} {r : List V → Hp → VK → Prop} {g : MS → List SV → Option R}
theorem pm_callB (hc : CallR X (.builtin id) r) (hd : CallD X.K r g) (hg : Gl X x) (hm : X.mg x = none) (hv : bootBuiltins x = some (.builtin id)) (ha : PAm X (e :: es) ms) (hn : x ≠ "__name__" := by decide) (hdb : (x == ("__debug__" : Str)) = false := by decide)
    (he : starEach (e :: es) X.env = (false, eval e X.env) :: starEach es X.env := by rfl) (hpl : (backTo pos (starEach es X.env)).any (·.1) = false := by rfl) : PM X (.Call (.Name x p) (e :: es) [] pos) (eCall g ms) := PE.imp (pe_callB hc hg hm hv ha hn hdb he hpl) (ecall_go hd)
theorem pm_callTy (hc : CallR X (.type T) r) (hd : CallD X.K r g) (hg : Gl X x) (hm : X.mg x = none) (hv : bootBuiltins x = some (.type T)) (ha : PAm X (e :: es) ms) (hn : x ≠ "__name__" := by decide) (hdb : (x == ("__debug__" : Str)) = false := by decide)
    (he : starEach (e :: es) X.env = (false, eval e X.env) :: starEach es X.env := by rfl) (hpl : (backTo pos (starEach es X.env)).any (·.1) = false := by rfl) : PM X (.Call (.Name x p) (e :: es) [] pos) (eCall g ms) := PE.imp (pe_callTy hc hg hm hv ha hn hdb he hpl) (ecall_go hd)
end

/-! ### len -/
def lenS (M : MS) (s : SV) : Option R := match s with
  | .dt (.str z) => if z.length ≤ sizeLine then some (.sv (.dt (.int z.length))) else none
  | s => match itemsOf M s with
    | some xs => some (.sv (.dt (.int xs.length)))
    | none => none
theorem calld_len {K : PySem.W.Frag} : CallD K (rLen K) (g1 lenS) := CallD.one fun Hk H M ls v s z Q w r e q => by
  unfold lenS at e
  split at e
  · split at e
    · rename_i hz
      cases e
      have := Rp.str_inv r
      subst this
      exact ⟨_, _, rfl, ⟨hz, rfl⟩, q.dt w (.int _)⟩
    · cases e
  · split at e
    · rename_i xs hx
      cases e
      obtain ⟨a, vs, rfl, hq, hs⟩ := itemsOf_ok w r hx
      rcases hq with hq | hq
      · exact ⟨_, vs.length, rfl, .inl ⟨vs, hq, rfl⟩, q.dt w (by rw [hs.length]; exact .int _)⟩
      · exact ⟨_, vs.length, rfl, .inr ⟨vs, hq, rfl⟩, q.dt w (by rw [hs.length]; exact .int _)⟩
    · cases e
/-! ### abs, int -/
def absS (_ : MS) (s : SV) : Option R := match s with
  | .dt (.int i) => some (.sv (.dt (.int (if i < 0 then -i else i))))
  | _ => none
theorem calld_abs {K : PySem.W.Frag} : CallD K (fun xs H Q => ∃ i, xs = [.int i] ∧ Q (.int (if i < 0 then -i else i)) H) (g1 absS) := CallD.one fun Hk H M ls v s z Q w r e q => by
  unfold absS at e
  split at e
  · cases e
    have := Rp.int_inv r
    subst this
    exact ⟨_, rfl, q.dt w (.int _)⟩
  · cases e
def intS (_ : MS) (s : SV) : Option R := match s with
  | .dt (.int i) => some (.sv (.dt (.int i)))
  | .dt (.bl k) => some (.sv (.dt (.int (if k then 1 else 0))))
  | _ => none
theorem calld_int {K : PySem.W.Frag} : CallD K (fun xs H Q => (∃ i, xs = [.int i] ∧ Q (.int i) H) ∨ ∃ k, xs = [.bl k] ∧ Q (.int (if k then 1 else 0)) H) (g1 intS) := CallD.one fun Hk H M ls v s z Q w r e q => by
  unfold intS at e
  split at e
  · cases e
    have := Rp.int_inv r
    subst this
    exact .inl ⟨_, rfl, q.dt w (.int _)⟩
  · cases e
    have := Rp.bl_inv r
    subst this
    exact .inr ⟨_, rfl, q.dt w (.int _)⟩
  · cases e
/-! ### all, any, sum -/
def dBools : List D → Option (List Bool)
  | [] => some []
  | .bl b :: r => match dBools r with
    | some bs => some (b :: bs)
    | none => none
  | _ => none
theorem dBools_ok {K : PySem.W.Frag} {H : Hp} : ∀ {vs : List V} {ds : List D} {bs : List Bool}, RpA K H vs ds → dBools ds = some bs → vs = bs.map V.bl
  | _, _, _, .nil, e => by cases e; rfl
  | _, _, _, .cons (d := d) (ds := ds) r t, e => by
    cases d with
    | bl b =>
      unfold dBools at e
      cases h : dBools ds with
      | none => rw [h] at e; cases e
      | some bs =>
        rw [h] at e
        cases e
        rw [Rp.bl_inv r, dBools_ok t h]
        rfl
    | _ => cases e
def allS (M : MS) (s : SV) : Option R := match listD M s with
  | some ds => match dBools ds with
    | some bs => rB (bs.all id)
    | none => none
  | none => none
theorem calld_all {K : PySem.W.Frag} : CallD K (rAll K) (g1 allS) := CallD.one fun Hk H M ls v s z Q w r e q => by
  unfold allS at e
  split at e
  · rename_i ds hd
    split at e
    · rename_i bs hb
      cases e
      obtain ⟨a, vs, rfl, hq, ra⟩ := listD_ok w r hd
      have := dBools_ok ra hb
      subst this
      exact ⟨a, bs, rfl, SqL.of hq, q.dt w (.bl _)⟩
    · cases e
  · cases e
def dInts : List D → Option (List Int)
  | [] => some []
  | .int b :: r => match dInts r with
    | some bs => some (b :: bs)
    | none => none
  | _ => none
theorem dInts_ok {K : PySem.W.Frag} {H : Hp} : ∀ {vs : List V} {ds : List D} {bs : List Int}, RpA K H vs ds → dInts ds = some bs → vs = bs.map V.int
  | _, _, _, .nil, e => by cases e; rfl
  | _, _, _, .cons (d := d) (ds := ds) r t, e => by
    cases d with
    | int b =>
      unfold dInts at e
      cases h : dInts ds with
      | none => rw [h] at e; cases e
      | some bs =>
        rw [h] at e
        cases e
        rw [Rp.int_inv r, dInts_ok t h]
        rfl
    | _ => cases e
def sumS (M : MS) (s : SV) : Option R := match listD M s with
  | some ds => match dInts ds with
    | some bs => some (.sv (.dt (.int bs.sum)))
    | none => none
  | none => none
theorem calld_sum {K : PySem.W.Frag} : CallD K (rSum K) (g1 sumS) := CallD.one fun Hk H M ls v s z Q w r e q => by
  unfold sumS at e
  split at e
  · rename_i ds hd
    split at e
    · rename_i bs hb
      cases e
      obtain ⟨a, vs, rfl, hq, ra⟩ := listD_ok w r hd
      have := dInts_ok ra hb
      subst this
      exact ⟨a, bs, rfl, SqL.of hq, q.dt w (.int _)⟩
    · cases e
  · cases e
def dStrs : List D → Option (List Str)
  | [] => some []
  | .str b :: r => match dStrs r with
    | some bs => some (b :: bs)
    | none => none
  | _ => none
theorem dStrs_ok {K : PySem.W.Frag} {H : Hp} : ∀ {vs : List V} {ds : List D} {bs : List Str}, RpA K H vs ds → dStrs ds = some bs → vs = bs.map V.str
  | _, _, _, .nil, e => by cases e; rfl
  | _, _, _, .cons (d := d) (ds := ds) r t, e => by
    cases d with
    | str b =>
      unfold dStrs at e
      cases h : dStrs ds with
      | none => rw [h] at e; cases e
      | some bs =>
        rw [h] at e
        cases e
        rw [Rp.str_inv r, dStrs_ok t h]
        rfl
    | _ => cases e
/-! ### list, tuple -/
def listS (M : MS) (s : SV) : Option R := match itemsD M s with
  | some ds => some (.fr ds)
  | none => none
theorem calld_list {K : PySem.W.Frag} : CallD K (fun xs H Q => ∃ p ys, xs = [.ref p] ∧ (SqL K H p ys ∨ SqT K H p ys) ∧ ∀ l, H l = none → Q (.ref l) (upd H l (.lst ys))) (g1 listS) := CallD.one fun Hk H M ls v s z Q w r e q => by
  unfold listS at e
  split at e
  · rename_i ds hd
    cases e
    obtain ⟨a, vs, rfl, hq, ra⟩ := itemsD_ok w r hd
    exact ⟨a, vs, rfl, hq, fun l hl => q.newL w hl ra⟩
  · cases e
def tupleS (M : MS) (s : SV) : Option R := match s with
  | .dt (.tup ds) => some (.sv (.dt (.tup ds)))
  | s => match listD M s with
    | some ds => some (.sv (.dt (.tup ds)))
    | none => none
theorem calld_tuple {K : PySem.W.Frag} : CallD K (fun xs H Q => ∃ p ys, xs = [.ref p] ∧ ((SqL K H p ys ∧ ∀ l, H l = none → Q (.ref l) (upd H l (.tup ys))) ∨ (SqT K H p ys ∧ Q (.ref p) H))) (g1 tupleS) := CallD.one fun Hk H M ls v s z Q w r e q => by
  unfold tupleS at e
  split at e
  · cases e
    cases r with
    | tup h a => exact ⟨_, _, rfl, .inr ⟨same_t w.sub h, q.dt w (.tup h a)⟩⟩
  · split at e
    · rename_i ds hd
      cases e
      obtain ⟨a, vs, rfl, hq, ra⟩ := listD_ok w r hd
      exact ⟨a, vs, rfl, .inl ⟨SqL.of hq, fun l hl => q.newT w hl ra⟩⟩
    · cases e
/-! ### isinstance -/
def tyS (M : MS) : SV → Option String
  | .dt .non => some "NoneType"
  | .dt (.bl _) => some "bool"
  | .dt (.int _) => some "int"
  | .dt (.str _) => some "str"
  | .dt (.lst _) => some "list"
  | .dt (.tup _) => some "tuple"
  | .dt (.dct _ _) => some "dict"
  | .mu k => match M[k]? with
    | some (.l _) => some "list"
    | some (.d _ _) => some "dict"
    | _ => none
  | _ => none
theorem tyS_ok {K : PySem.W.Frag} {Hk H : Hp} {M : MS} {ls : List Addr} {v : V} {s : SV} {T : String} (w : World K Hk H M ls) (r : SVr K Hk ls ls.length v s) (e : tyS M s = some T) : TyX K H v (.type T) := by
  unfold tyS at e
  split at e
  · cases e; cases r; exact .base .non
  · cases e; cases r; exact .base (.bl _)
  · cases e; cases r; exact .base (.int _)
  · cases e; cases r; exact .base (.str _)
  · cases e
    cases r with
    | lst h a => exact .base (.lst (w.sub _ _ h))
  · cases e
    cases r with
    | tup h a =>
      rcases same_t w.sub h with (h | ⟨o, h⟩) | ⟨o, its, n, hk, hc, _⟩
      · exact .base (.tup h)
      · exact .fTuple h
      · exact .kTuple hk hc
  · cases e
    cases r with
    | dct h _ _ _ => exact .base (.dK (w.sub _ _ h))
  · rename_i k
    obtain ⟨_, l, hl, rfl⟩ := r
    split at e
    · rename_i xs hM
      cases e
      obtain ⟨l', hl', vs, h, _⟩ := w.ms k _ hM
      rw [hl] at hl'; cases hl'
      exact .base (.lst h)
    · rename_i ks xs hM
      cases e
      obtain ⟨l', hl', vs, h, _⟩ := w.ms k _ hM
      rw [hl] at hl'; cases hl'
      exact .base (.dK h)
    · cases e
  · cases e
def tysN : List String := "NoneType" :: tysB
def isi1 (a T : String) : Bool := a == T || (a == "bool" && T == "int")
theorem kit_all : ∀ a ∈ tysN, ∀ T ∈ tysB, kitB a T = some (isi1 a T) := by decide +kernel
theorem tyS_mem {M : MS} {s : SV} {T : String} (e : tyS M s = some T) : T ∈ tysN := by
  unfold tyS at e
  split at e <;> first | (cases e; decide) | cases e | skip
  split at e <;> first | (cases e; decide) | cases e
def isiS (T : String) (M : MS) (s : SV) : Option Bool := match s with
  | .dt (.obj _) => some false
  | s => match tyS M s with
    | some a => some (isi1 a T)
    | none => none
theorem isiS_ok {K : PySem.W.Frag} {Hk H : Hp} {M : MS} {ls : List Addr} {v : V} {s : SV} {T : String} {b : Bool} (hT : T ∈ tysB) (w : World K Hk H M ls) (r : SVr K Hk ls ls.length v s) (e : isiS T M s = some b) : ∃ t, TyX K H v t ∧ PySem.W.kitOne K t (.type T) = some b := by
  unfold isiS at e
  split at e
  · cases e
    cases r with
    | obj h c => exact ⟨_, .base (.ins (w.sub _ _ h) c.cl c.ha c.hn c.htk c.hm), c.no T hT⟩
  · split at e
    · rename_i a ha
      cases e
      exact ⟨_, tyS_ok w r ha, kit_ty (kit_all a (tyS_mem ha) T hT)⟩
    · cases e
theorem isiS_ok2 {K : PySem.W.Frag} {Hk H : Hp} {M : MS} {ls : List Addr} {v : V} {s : SV} {T U : String} {b c : Bool} (hT : T ∈ tysB) (hU : U ∈ tysB) (w : World K Hk H M ls) (r : SVr K Hk ls ls.length v s) (e : isiS T M s = some b) (e2 : isiS U M s = some c) :
    ∃ t, TyX K H v t ∧ PySem.W.kitOne K t (.type T) = some b ∧ PySem.W.kitOne K t (.type U) = some c := by
  unfold isiS at e e2
  split at e
  · cases e
    cases e2
    cases r with
    | obj h c => exact ⟨_, .base (.ins (w.sub _ _ h) c.cl c.ha c.hn c.htk c.hm), c.no T hT, c.no U hU⟩
  · split at e
    · rename_i a ha
      simp only [ha] at e2
      cases e
      cases e2
      exact ⟨_, tyS_ok w r ha, kit_ty (kit_all a (tyS_mem ha) T hT), kit_ty (kit_all a (tyS_mem ha) U hU)⟩
    · cases e
def eIsi (T : String) (m : EM R) : EM R := (fz m).seq fun s => fun _ M => match isiS T M s with
  | some b => some (.sv (.dt (.bl b)), M)
  | none => none
def eIsi2 (T U : String) (m : EM R) : EM R := (fz m).seq fun s => fun _ M => match isiS T M s, isiS U M s with
  | some b, some c => some (.sv (.dt (.bl (b || c))), M)
  | _, _ => none
section
variable {X : Cx} {e : Expr} {m : EM R} {p p1 p2 p3 pos : Pos} {T U : String} {t u : Str}
theorem pm_isi (hT : T ∈ tysB) (hg : Gl X "isinstance") (hm : X.mg "isinstance" = none) (hgt : Gl X t) (hmt : X.mg t = none) (hvt : bootBuiltins t = some (.type T)) (h : PM X e m) (hnt : t ≠ "__name__" := by decide) (hdt : (t == ("__debug__" : Str)) = false := by decide)
    (he : starEach (e :: [.Name t p1]) X.env = (false, eval e X.env) :: starEach [.Name t p1] X.env := by rfl) (hpl : (backTo pos (starEach [.Name t p1] X.env)).any (·.1) = false := by rfl) (hs1 : starEach (.Name t p1 :: []) X.env = (false, eval (.Name t p1) X.env) :: starEach [] X.env := by rfl) :
    PM X (.Call (.Name "isinstance" p) [e, .Name t p1] [] pos) (eIsi T m) := PE.imp (pe_callB call_isi hg hm PyProof.Rows.boot_isinstance (pa_cons (PM.v h) (pa_cons (pe_bltn (v := .ty T) hgt hmt hvt rfl hnt hdt) pa_nil hs1) he) (by decide) (by decide) he hpl) fun σ H Q ⟨Hk, ls, ρ, M, r, M', w, en, hm, q⟩ => by
  obtain ⟨s, M1, h1, h2⟩ := seq_some hm
  refine ⟨Hk, ls, ρ, M, s, M1, w, en, h1, fun v Hk1 H1 w1 x1 r1 => ?_⟩
  split at h2
  · rename_i b hb
    cases h2
    obtain ⟨ty, h3, h4⟩ := isiS_ok hT w1 r1 hb
    exact ⟨v, .ty T, ty, .type T, b, rfl, .ty T, h3, h4, q _ Hk1 H1 w1 x1 (Rp.bl _)⟩
  · cases h2
theorem pm_isi2 {kk : Nat} (hT : T ∈ tysB) (hU : U ∈ tysB) (hg : Gl X "isinstance") (hm : X.mg "isinstance" = none) (hgt : Gl X t) (hmt : X.mg t = none) (hvt : bootBuiltins t = some (.type T)) (hgu : Gl X u) (hmu : X.mg u = none) (hvu : bootBuiltins u = some (.type U)) (h : PM X e m)
    (hnt : t ≠ "__name__" := by decide) (hdt : (t == ("__debug__" : Str)) = false := by decide) (hnu : u ≠ "__name__" := by decide) (hdu : (u == ("__debug__" : Str)) = false := by decide)
    (he : starEach (e :: [.Tuple [.Name t p1, .Name u p2] kk p3]) X.env = (false, eval e X.env) :: starEach [.Tuple [.Name t p1, .Name u p2] kk p3] X.env := by rfl) (hpl : (backTo pos (starEach [.Tuple [.Name t p1, .Name u p2] kk p3] X.env)).any (·.1) = false := by rfl)
    (hs1 : starEach (.Tuple [.Name t p1, .Name u p2] kk p3 :: []) X.env = (false, eval (.Tuple [.Name t p1, .Name u p2] kk p3) X.env) :: starEach [] X.env := by rfl) (hs2 : starEach (.Name t p1 :: [.Name u p2]) X.env = (false, eval (.Name t p1) X.env) :: starEach [.Name u p2] X.env := by rfl) (hs3 : starEach (.Name u p2 :: []) X.env = (false, eval (.Name u p2) X.env) :: starEach [] X.env := by rfl) :
    PM X (.Call (.Name "isinstance" p) [e, .Tuple [.Name t p1, .Name u p2] kk p3] [] pos) (eIsi2 T U m) := PE.imp (pe_callB call_isiT hg hm PyProof.Rows.boot_isinstance (pa_cons (PM.v h) (pa_cons (pe_tup (pa_cons (pe_bltn (v := .ty T) hgt hmt hvt rfl hnt hdt) (pa_cons (pe_bltn (v := .ty U) hgu hmu hvu rfl hnu hdu) pa_nil hs3) hs2)) pa_nil hs1) he) (by decide) (by decide) he hpl) fun σ H Q ⟨Hk, ls, ρ, M, r, M', w, en, hm, q⟩ => by
  obtain ⟨s, M1, h1, h2⟩ := seq_some hm
  refine ⟨Hk, ls, ρ, M, s, M1, w, en, h1, fun v Hk1 H1 w1 x1 r1 => ⟨by show 2 ≤ sizeLine; decide, fun pp hp => ?_⟩⟩
  split at h2
  · rename_i b c hb hc
    cases h2
    have w2 := w1.upd_new (o := .tup [.ty T, .ty U]) hp
    obtain ⟨ty, h3, h4, h5⟩ := isiS_ok2 hT hU w2 r1 hb hc
    refine ⟨v, pp, [.ty T, .ty U], ty, [.type T, .type U], b || c, rfl, upd_same, .cons (.ty T) (.cons (.ty U) .nil), h3, ?_, q _ Hk1 _ w2 (x1.trans (Ext.upd_new hp)) (Rp.bl _)⟩
    refine kitAny_cons h4 (fun hb => ?_) fun hb => by rw [hb]; rfl
    refine kitAny_cons h5 (fun hc => ?_) fun hc => by rw [hc]; exact Bool.or_true _
    rw [hb, hc]
    rfl
  · cases h2
end
end Dy

set_option Elab.async false
set_option linter.all false
set_option maxRecDepth 100000
set_option maxHeartbeats 4000000
/-! Layer Dy, part 10: methods, stores, repr, dict displays. -/
namespace Dy
open PySem L2 PySem.Spec PyProof.Rows

/-! ### methods -/
def MtD (K : PySem.W.Frag) (r : V → List V → Hp → VK → Prop) (g : MS → SV → List SV → Option (R × MS)) : Prop := ∀ (Hk H : Hp) (M : MS) (ls : List Addr) (v : V) (s : SV) (vs : List V) (ss : List SV) (z : R) (M' : MS) (Q : VK), World K Hk H M ls → SVr K Hk ls ls.length v s → SVs K Hk ls ls.length vs ss → g M s ss = some (z, M') → Res K ls Hk H z M' Q → r v vs H Q
/-- the receiver's type -/
def isTyS (T : String) (M : MS) (s : SV) : Bool := match s with
  | .dt (.str _) => T == "str"
  | .dt (.lst _) => T == "list"
  | .dt (.dct _ _) => T == "dict"
  | .mu k => match M[k]? with
    | some (.l _) => T == "list"
    | some (.d _ _) => T == "dict"
    | _ => false
  | _ => false
theorem isTyS_ok {K : PySem.W.Frag} {Hk H : Hp} {M : MS} {ls : List Addr} {v : V} {s : SV} {T : String} (w : World K Hk H M ls) (r : SVr K Hk ls ls.length v s) (e : isTyS T M s = true) : tyV K T v H := by
  unfold isTyS at e
  split at e
  · rw [Rp.str_inv r]; exact beq_iff_eq.mp e
  · cases r with
    | lst h a => exact .inl ⟨beq_iff_eq.mp e, _, SqL.of (w.sub _ _ h)⟩
  · cases r with
    | dct h _ _ _ => exact .inr (.inr (.inl ⟨beq_iff_eq.mp e, .inl ⟨_, w.sub _ _ h⟩⟩))
  · rename_i k
    obtain ⟨_, l, hl, rfl⟩ := r
    split at e
    · rename_i xs hM
      obtain ⟨l', hl', vs, h, _⟩ := w.ms k _ hM
      rw [hl] at hl'; cases hl'
      exact .inl ⟨beq_iff_eq.mp e, _, SqL.of h⟩
    · rename_i ks xs hM
      obtain ⟨l', hl', vs, h, _⟩ := w.ms k _ hM
      rw [hl] at hl'; cases hl'
      exact .inr (.inr (.inl ⟨beq_iff_eq.mp e, .inl ⟨_, h⟩⟩))
    · cases e
  · cases e
def eMt (T : String) (g : MS → SV → List SV → Option (R × MS)) (m : EM R) (ms : EM (List SV)) : EM R := (fz m).seq fun s => fun ρ M => if isTyS T M s = true then ms.seq (fun ss => fun _ M' => g M' s ss) ρ M else none
section
variable {X : Cx} {o e : Expr} {es : List Expr} {m : EM R} {ms : EM (List SV)} {name : Str} {apos cpos pos : Pos} {T id : String} {r : V → List V → Hp → VK → Prop} {g : MS → SV → List SV → Option (R × MS)}
theorem emt_go (hd : MtD X.K r g) : ∀ σ H Q, tM X.K (eMt T g m ms) σ H Q → tBM X.K T r (tV X.K (fz m)) (tA X.K ms) σ H Q := fun σ H Q ⟨Hk, ls, ρ, M, z, M', w, en, hm, q⟩ => by
  obtain ⟨s, M1, h1, h2⟩ := seq_some hm
  refine ⟨Hk, ls, ρ, M, s, M1, w, en, h1, fun v Hk1 H1 w1 x1 r1 => ?_⟩
  split at h2
  · rename_i ht
    refine ⟨isTyS_ok w1 r1 ht, ?_⟩
    obtain ⟨ss, M2, h3, h4⟩ := seq_some h2
    refine ⟨Hk1, ls, ρ, M1, ss, M2, w1, en.mono x1.kk, h3, fun vs Hk2 H2 w2 x2 r2 => ?_⟩
    exact hd Hk2 H2 M2 ls v s vs ss z M' Q w2 (r1.mono x2.kk) r2 h4 (q.back (x1.trans x2))
  · cases h2
theorem emt0_go (hd : MtD X.K r g) : ∀ σ H Q, tM X.K (eMt T g m eNil) σ H Q → tBM0 X.K T r (tV X.K (fz m)) σ H Q := fun σ H Q ⟨Hk, ls, ρ, M, z, M', w, en, hm, q⟩ => by
  obtain ⟨s, M1, h1, h2⟩ := seq_some hm
  refine ⟨Hk, ls, ρ, M, s, M1, w, en, h1, fun v Hk1 H1 w1 x1 r1 => ?_⟩
  split at h2
  · rename_i ht
    refine ⟨isTyS_ok w1 r1 ht, ?_⟩
    obtain ⟨ss, M2, h3, h4⟩ := seq_some h2
    cases h3
    exact hd Hk1 H1 _ ls v s [] [] z M' Q w1 r1 .nil h4 (q.back x1)
  · cases h2
theorem pm_mt (pa : PlainAttrs T) (slot : Slot T name id) (hty : typeOf (.builtin id) = pure (.type "method_descriptor")) (hm : MtR X id r) (hd : MtD X.K r g) (ho : PM X o m) (ha : PAm X (e :: es) ms)
    (hbase : attributeBase o name X.env (eval o X.env) = eval o X.env := by rfl)
    (hfew : ((backTo cpos (starEach (e :: es) X.env)).all (fun x => !x.1) && (backToKw cpos (keywordEach [] X.env)).all (fun x => x.1.isSome) && decide ((e :: es).length + ([] : List Keyword).length + (if ([] : List Keyword).isEmpty then 0 else 1) < 30)) = true := by rfl)
    (hline : (apos.endLine == cpos.line) = true := by rfl) (hs : starEach (e :: es) X.env = (false, eval e X.env) :: starEach es X.env := by rfl) (hplain : (backTo cpos (starEach es X.env)).any (·.1) = false := by rfl) :
    PM X (.Call (.Attribute o name apos) (e :: es) [] cpos) (eMt T g m ms) := PE.imp (pe_bm pa slot hty hm (PM.v ho) ha hbase hfew hline hs hplain) (emt_go hd)
theorem pm_mt0 (pa : PlainAttrs T) (slot : Slot T name id) (hty : typeOf (.builtin id) = pure (.type "method_descriptor")) (hm : MtR X id r) (hd : MtD X.K r g) (ho : PM X o m)
    (hbase : attributeBase o name X.env (eval o X.env) = eval o X.env := by rfl) (hline : (apos.endLine == cpos.line) = true := by rfl) : PM X (.Call (.Attribute o name apos) [] [] cpos) (eMt T g m eNil) := PE.imp (pe_bm0 pa slot hty hm (PM.v ho) hbase hline) (emt0_go hd)
end

/-! ### a list that has a handle is changed -/
section
variable {K : PySem.W.Frag} {Hk H : Hp} {M : MS} {ls : List Addr}
theorem World.setM {k : Nat} {l : Addr} {o : HO} {x x' : MO} (w : World K Hk H M ls) (hl : ls[k]? = some l) (hM : M[k]? = some x) (hn : MOr K Hk (upd H l o) ls k l x') : World K Hk (upd H l o) (M.set k x') ls := by
  have hmem : l ∈ ls := List.mem_of_getElem? hl
  have hkl : k < M.length := (List.getElem?_eq_some_iff.mp hM).1
  refine ⟨fun b u e => ?_, by rw [List.length_set]; exact w.len, w.nd, w.dj, fun j y e => ?_⟩
  · have : b ≠ l := fun z => by rw [z, w.dj l hmem] at e; cases e
    rw [upd_ne this]
    exact w.sub b u e
  · by_cases hj : k = j
    · subst hj
      rw [List.getElem?_set_self hkl] at e
      cases e
      exact ⟨l, hl, hn⟩
    · rw [List.getElem?_set_ne hj] at e
      obtain ⟨l', a, b⟩ := w.ms j y e
      have nl : l' ≠ l := fun z => by
        subst z
        have h1 := List.getElem?_eq_some_iff.mp hl
        have h2 := List.getElem?_eq_some_iff.mp a
        exact hj ((List.getElem_inj w.nd).mp (h1.2.trans h2.2.symm))
      refine ⟨l', a, ?_⟩
      cases y with
      | l xs => obtain ⟨vs, p, q⟩ := b; exact ⟨vs, by rw [upd_ne nl]; exact p, q⟩
      | d ks xs => obtain ⟨vs, p, q, r⟩ := b; exact ⟨vs, by rw [upd_ne nl]; exact p, q, r⟩
      | i C ns xs => obtain ⟨dx, vs, p, q, r⟩ := b; exact ⟨dx, vs, by rw [upd_ne nl]; exact p, q, r⟩
theorem Ext.setM {l : Addr} {o : HO} (hl : l ∈ ls) : Ext ls Hk H Hk (upd H l o) where
  kk := fun _ _ e => e
  fr := fun a u e hn => by
    have : a ≠ l := fun z => hn (z ▸ hl)
    rw [upd_ne this]
    exact e
  gr := fun a e => .inl e
  st := fun a e => by
    by_cases z : a = l
    · subst z; rw [upd_same]; simp
    · rw [upd_ne z]; exact e
/-- the list behind a handle -/
def muL (M : MS) : SV → Option (Nat × List SV)
  | .mu k => match M[k]? with
    | some (.l xs) => some (k, xs)
    | _ => none
  | _ => none
theorem muL_ok {v : V} {s : SV} {k : Nat} {xs : List SV} (w : World K Hk H M ls) (r : SVr K Hk ls ls.length v s) (e : muL M s = some (k, xs)) : ∃ l vs, v = .ref l ∧ ls[k]? = some l ∧ M[k]? = some (.l xs) ∧ H l = some (.lst vs) ∧ SVs K Hk ls k vs xs := by
  unfold muL at e
  split at e
  · rename_i j
    split at e
    · rename_i ys hM
      cases e
      obtain ⟨_, l, hl, rfl⟩ := r
      obtain ⟨l', hl', vs, h, hs⟩ := w.ms _ _ hM
      rw [hl] at hl'; cases hl'
      exact ⟨l, vs, rfl, hl, hM, h, hs⟩
    · cases e
  · cases e
end
def gAppend (M : MS) (s : SV) (ss : List SV) : Option (R × MS) := match muL M s, ss with
  | some (k, xs), [.dt d] => if xs.length < sizeLine then some (.sv (.dt .non), M.set k (.l (xs ++ [.dt d]))) else none
  | _, _ => none
theorem mtd_append {K : PySem.W.Frag} : MtD K rAppend gAppend := by
  intro Hk H M ls v s vs ss z M' Q w rv rs e q
  unfold gAppend at e
  split at e
  · rename_i k xs d hm
    split at e
    · rename_i hz
      cases e
      obtain ⟨l, us, rfl, hl, hM, hH, hs⟩ := muL_ok w rv hm
      cases rs with
      | cons r1 t =>
        cases t
        refine ⟨l, us, _, rfl, rfl, hH, by rw [hs.length]; exact hz, q .non Hk _ (w.setM hl hM ⟨_, upd_same, hs.append (.cons (show SVr K Hk ls k _ (.dt d) from r1) .nil)⟩) (Ext.setM (List.mem_of_getElem? hl)) Rp.non⟩
    · cases e
  · cases e
def gPop (M : MS) (s : SV) (ss : List SV) : Option (R × MS) := match muL M s, ss with
  | some (k, xs), [] => match xs[xs.length - 1]? with
    | some (.dt d) => some (.sv (.dt d), M.set k (.l xs.dropLast))
    | _ => none
  | _, _ => none
theorem mtd_pop {K : PySem.W.Frag} : MtD K rPop gPop := by
  intro Hk H M ls v s vs ss z M' Q w rv rs e q
  unfold gPop at e
  split at e
  · rename_i k xs hm
    split at e
    · rename_i d hd
      cases e
      obtain ⟨l, us, rfl, hl, hM, hH, hs⟩ := muL_ok w rv hm
      cases rs
      obtain ⟨u, hu, ru⟩ := hs.get hd
      refine ⟨l, us, u, rfl, rfl, hH, by rw [hs.length]; exact hu, q u Hk _ (w.setM hl hM ⟨_, upd_same, hs.dropLast⟩) (Ext.setM (List.mem_of_getElem? hl)) ru⟩
    · cases e
  · cases e
def gPopAt (M : MS) (s : SV) (ss : List SV) : Option (R × MS) := match muL M s, ss with
  | some (k, xs), [.dt (.int i)] => if -(2 ^ 63) ≤ i ∧ i < 2 ^ 63 then match seqIndex? i xs.length with
      | some j => match xs[j]? with
        | some (.dt d) => some (.sv (.dt d), M.set k (.l (xs.eraseIdx j)))
        | _ => none
      | none => none
    else none
  | _, _ => none
theorem mtd_popAt {K : PySem.W.Frag} : MtD K rPopAt gPopAt := by
  intro Hk H M ls v s vs ss z M' Q w rv rs e q
  unfold gPopAt at e
  split at e
  · rename_i k xs i hm
    split at e
    · rename_i hz
      split at e
      · rename_i j hj
        split at e
        · rename_i d hd
          cases e
          obtain ⟨l, us, rfl, hl, hM, hH, hs⟩ := muL_ok w rv hm
          cases rs with
          | cons r1 t =>
            cases t
            have := Rp.int_inv r1
            subst this
            obtain ⟨u, hu, ru⟩ := hs.get hd
            refine ⟨l, us, i, j, u, rfl, rfl, hH, hz.1, hz.2, by rw [hs.length]; exact hj, hu, q u Hk _ (w.setM hl hM ⟨_, upd_same, hs.eraseIdx j⟩) (Ext.setM (List.mem_of_getElem? hl)) ru⟩
        · cases e
      · cases e
    · cases e
  · cases e
def gClear (M : MS) (s : SV) (ss : List SV) : Option (R × MS) := match muL M s, ss with
  | some (k, _), [] => some (.sv (.dt .non), M.set k (.l []))
  | _, _ => none
theorem mtd_clear {K : PySem.W.Frag} : MtD K rClear gClear := by
  intro Hk H M ls v s vs ss z M' Q w rv rs e q
  unfold gClear at e
  split at e
  · rename_i k xs hm
    cases e
    obtain ⟨l, us, rfl, hl, hM, hH, hs⟩ := muL_ok w rv hm
    cases rs
    exact ⟨l, us, rfl, rfl, hH, q .non Hk _ (w.setM hl hM ⟨_, upd_same, .nil⟩) (Ext.setM (List.mem_of_getElem? hl)) Rp.non⟩
  · cases e
def gExtend (M : MS) (s : SV) (ss : List SV) : Option (R × MS) := match muL M s, ss with
  | some (k, xs), [t] => match listD M t with
    | some ds => if xs.length + ds.length ≤ sizeLine then some (.sv (.dt .non), M.set k (.l (xs ++ ds.map .dt))) else none
    | none => none
  | _, _ => none
theorem mtd_extend {K : PySem.W.Frag} : MtD K rExtend gExtend := by
  intro Hk H M ls v s vs ss z M' Q w rv rs e q
  unfold gExtend at e
  split at e
  · rename_i k xs t hm
    split at e
    · rename_i ds hd
      split at e
      · rename_i hz
        cases e
        obtain ⟨l, us, rfl, hl, hM, hH, hs⟩ := muL_ok w rv hm
        cases rs with
        | cons r1 t0 =>
          cases t0
          obtain ⟨b, ws, rfl, hb, ra⟩ := listD_ok w r1 hd
          refine ⟨l, b, us, ws, rfl, rfl, hH, hb, by rw [hs.length, ra.length]; exact hz, q .non Hk _ (w.setM hl hM ⟨_, upd_same, hs.append (SVs.ofA ra)⟩) (Ext.setM (List.mem_of_getElem? hl)) Rp.non⟩
      · cases e
    · cases e
  · cases e
theorem SVs.take {K : PySem.W.Frag} {Hk : Hp} {ls : List Addr} {n : Nat} : ∀ {vs : List V} {ds : List SV} (i : Nat), SVs K Hk ls n vs ds → SVs K Hk ls n (vs.take i) (ds.take i)
  | _, _, 0, _ => .nil
  | _, _, _ + 1, .nil => .nil
  | _, _, n + 1, .cons r t => .cons r (SVs.take n t)
theorem SVs.drop {K : PySem.W.Frag} {Hk : Hp} {ls : List Addr} {n : Nat} : ∀ {vs : List V} {ds : List SV} (i : Nat), SVs K Hk ls n vs ds → SVs K Hk ls n (vs.drop i) (ds.drop i)
  | _, _, 0, r => r
  | _, _, _ + 1, .nil => .nil
  | _, _, n + 1, .cons _ t => SVs.drop n t
def gInsert (M : MS) (s : SV) (ss : List SV) : Option (R × MS) := match muL M s, ss with
  | some (k, xs), [.dt (.int i), .dt d] => if xs.length < sizeLine ∧ 0 ≤ i ∧ i < 2 ^ 63 then some (.sv (.dt .non), M.set k (.l (xs.take i.toNat ++ [.dt d] ++ xs.drop i.toNat))) else none
  | _, _ => none
theorem mtd_insert {K : PySem.W.Frag} : MtD K (fun x vs H Q => ∃ (l : Addr) (xs : List V) (i : Int) (y : V), x = .ref l ∧ vs = [.int i, y] ∧ H l = some (.lst xs) ∧ xs.length < sizeLine ∧ 0 ≤ i ∧ i < 2 ^ 63 ∧ Q .non (upd H l (.lst (xs.take i.toNat ++ [y] ++ xs.drop i.toNat)))) gInsert := by
  intro Hk H M ls v s vs ss z M' Q w rv rs e q
  unfold gInsert at e
  split at e
  · rename_i k xs i d hm
    split at e
    · rename_i hz
      cases e
      obtain ⟨l, us, rfl, hl, hM, hH, hs⟩ := muL_ok w rv hm
      cases rs with
      | cons r1 t =>
        cases t with
        | cons r2 t2 =>
          cases t2
          have := Rp.int_inv r1
          subst this
          refine ⟨l, us, i, _, rfl, rfl, hH, by rw [hs.length]; exact hz.1, hz.2.1, hz.2.2, q .non Hk _ (w.setM hl hM ⟨_, upd_same, ((hs.take _).append (.cons (show SVr K Hk ls k _ (.dt d) from r2) .nil)).append (hs.drop _)⟩) (Ext.setM (List.mem_of_getElem? hl)) Rp.non⟩
    · cases e
  · cases e
/-! ### texts -/
def gUpper (M : MS) (s : SV) (ss : List SV) : Option (R × MS) := match s, ss with
  | .dt (.str a), [] => if a.length ≤ 5592405 then some (.sv (.dt (.str (Txt.upper a))), M) else none
  | _, _ => none
theorem mtd_upper {K : PySem.W.Frag} : MtD K (fun x xs H Q => ∃ a, x = .str a ∧ xs = [] ∧ a.length ≤ 5592405 ∧ Q (.str (Txt.upper a)) H) gUpper := by
  intro Hk H M ls v s vs ss z M' Q w rv rs e q
  unfold gUpper at e
  split at e
  · split at e
    · rename_i hz
      cases e
      cases rs
      exact ⟨_, Rp.str_inv rv, rfl, hz, q.dt w (.str _)⟩
    · cases e
  · cases e
def gJoin (M : MS) (s : SV) (ss : List SV) : Option (R × MS) := match s, ss with
  | .dt (.str a), [t] => match itemsD M t with
    | some ds => match dStrs ds with
      | some ys => if (ys.map (·.length)).sum + ys.length * a.length ≤ 16777216 then some (.sv (.dt (.str (Txt.join a ys))), M) else none
      | none => none
    | none => none
  | _, _ => none
theorem mtd_join {K : PySem.W.Frag} : MtD K (fun x xs H Q => ∃ a p, ∃ ys : List Str, x = .str a ∧ xs = [.ref p] ∧ (SqL K H p (ys.map V.str) ∨ SqT K H p (ys.map V.str)) ∧ (ys.map (·.length)).sum + ys.length * a.length ≤ 16777216 ∧ Q (.str (Txt.join a ys)) H) gJoin := by
  intro Hk H M ls v s vs ss z M' Q w rv rs e q
  unfold gJoin at e
  split at e
  · split at e
    · rename_i ds hd
      split at e
      · rename_i ys hy
        split at e
        · rename_i hz
          cases e
          cases rs with
          | cons r1 t =>
            cases t
            obtain ⟨b, ws, rfl, hb, ra⟩ := itemsD_ok w r1 hd
            have := dStrs_ok ra hy
            subst this
            exact ⟨_, b, ys, Rp.str_inv rv, rfl, hb, hz, q.dt w (.str _)⟩
        · cases e
      · cases e
    · cases e
  · cases e

/-! ### o[i] = e, o[i] += e on a list that has a handle -/
def setAt (M : MS) (s t : SV) (d : SV) : Option MS := match muL M s, t, d with
  | some (k, xs), .dt (.int i), .dt d => match ixN xs.length i with
    | some j => some (M.set k (.l (xs.set j (.dt d))))
    | none => none
  | _, _, _ => none
theorem setAt_ok {K : PySem.W.Frag} {Hk H : Hp} {M M' : MS} {ls : List Addr} {o i v : V} {s t d : SV} {Q : Hp → Prop} (w : World K Hk H M ls) (ro : SVr K Hk ls ls.length o s) (ri : SVr K Hk ls ls.length i t) (rv : SVr K Hk ls ls.length v d) (e : setAt M s t d = some M')
    (q : ∀ H', World K Hk H' M' ls → Ext ls Hk H Hk H' → Q H') : rSetL o i v H Q := by
  unfold setAt at e
  split at e
  · rename_i k xs i' d' hm
    split at e
    · rename_i j hj
      cases e
      obtain ⟨l, us, rfl, hl, hM, hH, hs⟩ := muL_ok w ro hm
      have := Rp.int_inv ri
      subst this
      exact ⟨l, us, i', j, rfl, rfl, hH, by rw [hs.length]; exact hj, q _ (w.setM hl hM ⟨_, upd_same, hs.set (show SVr K Hk ls k v (.dt d') from rv) j⟩) (Ext.setM (List.mem_of_getElem? hl))⟩
    · cases e
  · cases e
def sPut (mo mi : EM R) (me : EM R) : SM := fun ρ M => match fz me ρ M with
  | some (d, M1) => match fz mo ρ M1 with
    | some (s, M2) => match fz mi ρ M2 with
      | some (t, M3) => match setAt M3 s t d with
        | some M4 => some (.nx ρ M4)
        | none => none
      | none => none
    | none => none
  | none => none
section
variable {X : Cx} {o i e tg : Expr} {mo mi me : EM R} {pos tpos : Pos}
theorem sput_go : ∀ E σ H, tS X.K (sPut mo mi me) E σ H → tAsg (tV X.K (fz me)) (L2.gSub (tV X.K (fz mo)) (tV X.K (fz mi)) rSetL) E σ H := fun E σ H ⟨Hk, ls, ρ, M, r, w, en, hm, q⟩ => by
  unfold sPut at hm
  split at hm
  · rename_i d M1 h1
    split at hm
    · rename_i s M2 h2
      split at hm
      · rename_i t M3 h3
        split at hm
        · rename_i M4 h4
          cases hm
          refine ⟨Hk, ls, ρ, M, d, M1, w, en, h1, fun v Hk1 H1 w1 x1 r1 => ?_⟩
          refine ⟨Hk1, ls, ρ, M1, s, M2, w1, en.mono x1.kk, h2, fun ov Hk2 H2 w2 x2 r2 => ?_⟩
          refine ⟨Hk2, ls, ρ, M2, t, M3, w2, en.mono (x1.trans x2).kk, h3, fun iv Hk3 H3 w3 x3 r3 => ?_⟩
          exact setAt_ok w3 (r2.mono x3.kk) r3 (r1.mono (x2.trans x3).kk) h4 fun H' w' x' => q σ Hk3 H' ls w' ((((x1.trans x2).trans x3).trans x').s) (en.mono ((x1.trans x2).trans x3).kk)
        · cases hm
      · cases hm
    · cases hm
  · cases hm
theorem psm_put (he : PM X e me) (ho : PM X o mo) (hi : PM X i mi) (ha : ∀ v, assign (.Subscript o i tpos) X.env v = (do
      let ov ← holding [v] (eval o X.env)
      let iv ← holding [v, ov] (eval i X.env)
      standAt tpos
      holding [v, ov, iv] (setItem ov iv v)
      release [v, ov, iv] []) := by intro _; rfl) (hs : swapsWithSole [.Subscript o i tpos] e pos.line X.env = pure false := by rfl) (hw : swappedStores [.Subscript o i tpos] e X.env = pure none := by rfl)
    (h1 : (assignEach [.Subscript o i tpos] X.env).map (·.2) = [assign (.Subscript o i tpos) X.env] := by rfl) : PSm X (.Assign [.Subscript o i tpos] e pos) (sPut mo mi me) :=
  PS.imp (ps_asg (PM.v he) (pg_sub (PM.v ho) (PM.v hi) set_list ha) hs hw h1) sput_go
theorem get_list : PGet X (rIxL X.K) := by
  intro pins s σ H o i ov iv Q I ro ri h
  obtain ⟨p, xs, k, v, rfl, rfl, hq, hv, q⟩ := h
  cases ro
  obtain ⟨t, rfl⟩ := ri
  obtain ⟨its, r, pl, hz⟩ := I.list hq
  obtain ⟨j, h1, h2, h3, h4, h5⟩ := atI_get hv
  obtain ⟨u, eu, ru⟩ := r.get h2
  have hl := r.length
  have hn := line63
  by_cases h0 : 0 ≤ k
  · have hj : k.toNat = j := by
      rw [seqIndex_of h0 h5] at h1
      exact Option.some.inj h1
    exact wpAny_getItem_list pl.isList h0 (by omega) (by rw [hj]; simpa using eu) ⟨v, H, I, ru, q⟩
  · have hj : (k + (its.toArray.size : Int)).toNat = j := by
      rw [seqIndex_neg (by omega) h4] at h1
      rw [List.size_toArray, ← hl]
      exact Option.some.inj h1
    exact wpAny_getItem_list_neg pl.isList (by omega) (by rw [List.size_toArray] <;> omega) (by omega) (by rw [hj]; simpa using eu) ⟨v, H, I, ru, q⟩
/-- o[i] op= e, ints -/
def sAugPut (f : Int → Int → Int) (mo mi me : EM R) : SM := fun ρ M => match fz mo ρ M with
  | some (s, M1) => match fz mi ρ M1 with
    | some (.dt (.int j), M2) => match listOf M2 s with
      | some xs => match atI xs j with
        | some (.dt (.int a)) => match fz me ρ M2 with
          | some (.dt (.int b), M3) => match setAt M3 s (.dt (.int j)) (.dt (.int (f a b))) with
            | some M4 => some (.nx ρ M4)
            | none => none
          | _ => none
        | _ => none
      | none => none
    | _ => none
  | none => none
theorem psm_augPut {op : Operator} {f : Int → Int → Int} (hp : PIp X op (ipI f)) (ho : PM X o mo) (hi : PM X i mi) (he : PM X e me)
    (ha : ∀ ov iv new, augStore i ov iv new = (do holding [new, ov, iv] (setItem ov iv new); release [new, ov, iv] []; pure .next) := by intros; rfl) : PSm X (.AugAssign (.Subscript o i tpos) op e pos) (sAugPut f mo mi me) :=
  PS.imp (ps_augS (PM.v ho) (PM.v hi) get_list (PM.v he) hp set_list ha) fun E σ H ⟨Hk, ls, ρ, M, r, w, en, hm, q⟩ => by
  unfold sAugPut at hm
  split at hm
  · rename_i s M1 h1
    split at hm
    · rename_i j M2 h2
      split at hm
      · rename_i xs hx
        split at hm
        · rename_i a hat
          split at hm
          · rename_i b M3 h3
            split at hm
            · rename_i M4 h4
              cases hm
              refine ⟨Hk, ls, ρ, M, s, M1, w, en, h1, fun ov Hk1 H1 w1 x1 r1 => ?_⟩
              refine ⟨Hk1, ls, ρ, M1, _, M2, w1, en.mono x1.kk, h2, fun iv Hk2 H2 w2 x2 r2 => ?_⟩
              obtain ⟨p, vs, rfl, hq, hss⟩ := listOf_ok w2 (r1.mono x2.kk) hx
              obtain ⟨v, hv, rv⟩ := hss.atI hat
              have := Rp.int_inv r2
              subst this
              have := Rp.int_inv rv
              subst this
              refine ⟨p, vs, j, _, rfl, rfl, SqL.of hq, hv, ?_⟩
              refine ⟨Hk2, ls, ρ, M2, _, M3, w2, en.mono (x1.trans x2).kk, h3, fun ev Hk3 H3 w3 x3 r3 => ?_⟩
              have := Rp.int_inv r3
              subst this
              refine ⟨a, b, rfl, rfl, ?_⟩
              exact setAt_ok (s := s) (t := .dt (.int j)) (d := .dt (.int (f a b))) w3 (r1.mono (x2.trans x3).kk) (Rp.int _) (Rp.int _) h4 fun H' w' x' => q σ Hk3 H' ls w' ((((x1.trans x2).trans x3).trans x').s) (en.mono ((x1.trans x2).trans x3).kk)
            · cases hm
          · cases hm
        · cases hm
      · cases hm
    · cases hm
  · cases hm
/-- x op= e, ints -/
def sAug (f : Int → Int → Int) (j : Nat) (me : EM R) : SM := fun ρ M => match ρ[j]? with
  | some (some (.dt (.int a))) => match fz me ρ M with
    | some (.dt (.int b), M1) => some (.nx (ρ.set j (some (.dt (.int (f a b))))) M1)
    | _ => none
  | _ => none
theorem psm_aug {op : Operator} {f : Int → Int → Int} {j : Nat} {x : Str} {pos' : Pos} (hN : X.N.Nodup) (hj : X.N[j]? = some x) (hx : Loc X.env.scope x) (he : PM X e me) (ho : PIp X op (ipI f)) (hf : X.fn x = true ∨ X.env.scope.names.lookup x = some .local := by first | exact .inl rfl | exact .inr rfl | assumption) :
    PSm X (.AugAssign (.Name x pos') op e pos) (sAug f j me) := PS.imp (ps_aug hN hj hx (PM.v he) ho hf) fun E σ H ⟨Hk, ls, ρ, M, r, w, en, hm, q⟩ => by
  unfold sAug at hm
  split at hm
  · rename_i a ha
    split at hm
    · rename_i b M1 h1
      cases hm
      obtain ⟨v, hv, rv⟩ := en.2 j _ ha
      have := Rp.int_inv rv
      subst this
      refine ⟨_, hv, Hk, ls, ρ, M, _, M1, w, en, h1, fun ev Hk1 H1 w1 x1 r1 => ?_⟩
      have := Rp.int_inv r1
      subst this
      exact ⟨a, b, rfl, rfl, q _ Hk1 H1 ls w1 x1.s ((en.mono x1.kk).set (Rp.int _))⟩
    · cases hm
  · cases hm
end
end Dy

set_option Elab.async false
set_option linter.all false
set_option maxRecDepth 100000
set_option maxHeartbeats 4000000
/-! Layer Dy, part 11: repr, dict displays, own classes, pairs of targets. -/
namespace Dy
open PySem L2 PySem.Spec PyProof.Rows

/-! ### repr -/
def kP : Key → PyData
  | .inl i => .int i
  | .inr x => .str x
mutual
/-- a datum as the library's data, dicts too -/
def toQ : D → Option PyData
  | .non => some .none
  | .bl b => some (.bool b)
  | .int i => some (.int i)
  | .str s => some (.str s)
  | .lst xs => match toQl xs with
    | some ps => some (.list ps)
    | none => none
  | .tup xs => match toQl xs with
    | some ps => some (.tuple ps)
    | none => none
  | .dct ks xs => match toQl xs with
    | some ps => some (.dict ((ks.map kP).zip ps))
    | none => none
  | _ => none
def toQl : List D → Option (List PyData)
  | [] => some []
  | d :: r => match toQ d, toQl r with
    | some p, some ps => some (p :: ps)
    | _, _ => none
end
theorem Pairs.reads {P : Program} {w : PySem.World} {h : Heap} : ∀ {es : List DictEntry} {vs : List (Key × Value)}, Pairs (mixKind P w) es vs → ReadsAll h (es.map (·.key)) ((vs.map (·.1)).map kP) [] ∧ es.map (·.val) = vs.map (·.2)
  | _, _, .nil => ⟨.nil, rfl⟩
  | _, _, .cons (e := e) (kv := kv) hk hv t => by
    obtain ⟨a, b⟩ := Pairs.reads (h := h) t
    obtain ⟨k, v⟩ := kv
    refine ⟨?_, by simp only [List.map_cons, hv, b]⟩
    rcases keyIs_shape (show keyIs k e.key = true from hk) with ⟨i, tk, rfl, ek⟩ | ⟨x, tk, rfl, ek⟩
    · simp only [List.map_cons]
      rw [ek]
      exact ReadsAll.cons (as := []) (bs := []) (.int i tk) a
    · simp only [List.map_cons]
      rw [ek]
      exact ReadsAll.cons (as := []) (bs := []) (.str x tk) a
section
variable {X : Cx} {pins : List (Addr × Obj)} {σ : L2.St} {H : Hp} {s : Shared}
theorem KV.keys {kvs : List (Key × V)} {vs : List (Key × Value)} (h : KV kvs vs) : kvs.map (·.1) = vs.map (·.1) ∧ Vals (kvs.map (·.2)) (vs.map (·.2)) := by
  unfold KV at h
  induction h with
  | nil => exact ⟨rfl, .nil⟩
  | cons r t ih =>
    obtain ⟨r1, r2⟩ := r
    exact ⟨by simp only [List.map_cons, r1, ih.1], .cons r2 ih.2⟩
/-- sys.modules is no list -/
def NoSys (K : PySem.W.Frag) : Prop := ∃ o, K.lookup sysModules = some o ∧ o.cls ≠ .type "list"
mutual
theorem Rp.reads (N : NoSys X.K) (I : Inv X pins σ H s) : ∀ (d : D) (v : V) (u : Value) (p : PyData), Rp X.K H v d → RelV v u → toQ d = some p → ∃ as, Reads s.heap u p as ∧ sysModules ∉ as
  | .non, _, _, _, h, r, e => by simp only [toQ] at e; cases e; cases h; cases r; exact ⟨_, .none, by simp⟩
  | .bl b, _, _, _, h, r, e => by simp only [toQ] at e; cases e; cases h; cases r; exact ⟨_, .bool b, by simp⟩
  | .int i, _, _, _, h, r, e => by simp only [toQ] at e; cases e; cases h; obtain ⟨t, rfl⟩ := r; exact ⟨_, .int i t, by simp⟩
  | .str x, _, _, _, h, r, e => by simp only [toQ] at e; cases e; cases h; obtain ⟨t, rfl⟩ := r; exact ⟨_, .str x t, by simp⟩
  | .lst ds, _, _, _, h, r, e => by
    simp only [toQ] at e
    cases hp : toQl ds with
    | none => rw [hp] at e; cases e
    | some ps =>
      rw [hp] at e
      cases e
      cases h with
      | lst hs ha =>
        cases r
        obtain ⟨its, rv, ⟨o, n, ho, hc, _, hd⟩, _⟩ := I.list (SqL.of hs)
        obtain ⟨as, hr, hn⟩ := Rp.readsA N I ds _ its ps ha rv hp
        refine ⟨_, Reads.list ho hc hd hr, ?_⟩
        intro z
        rcases List.mem_cons.mp z with z | z
        · obtain ⟨o', h1, h2⟩ := N
          have := I.kIn _ _ h1
          rw [z, ho] at this
          cases this
          exact h2 hc
        · exact hn z
  | .tup ds, _, _, _, h, r, e => by
    simp only [toQ] at e
    cases hp : toQl ds with
    | none => rw [hp] at e; cases e
    | some ps =>
      rw [hp] at e
      cases e
      cases h with
      | tup hs ha =>
        cases r
        obtain ⟨its, rv, ⟨o, ho, hc, n, hd⟩, _⟩ := I.tuple hs
        obtain ⟨as, hr, hn⟩ := Rp.readsA N I ds _ its ps ha rv hp
        exact ⟨_, Reads.tuple ho hc hd hr, hn⟩
  | .dct ks ds, _, _, _, h, r, e => by
    simp only [toQ] at e
    cases hp : toQl ds with
    | none => rw [hp] at e; cases e
    | some ps =>
      rw [hp] at e
      cases e
      cases h with
      | dct hs hk hx ha =>
        rename_i a kvs xs
        cases r
        obtain ⟨_, hsys, vs, hkv, o, es, ep, ho, hex, hd, _, hpr, _⟩ := (show ObjOk X.prog X.w H s.heap a (.dK kvs) from I.hok a _ hs)
        obtain ⟨k1, k2⟩ := KV.keys hkv
        obtain ⟨p1, p2⟩ := Pairs.reads (h := s.heap) hpr
        rw [hx] at k2
        obtain ⟨as, hr, hn⟩ := Rp.readsA N I ds _ _ ps ha k2 hp
        have hlen : (ks.map kP).length = ps.length := by
          have l1 : ks.length = kvs.length := by rw [← hk, List.length_map]
          have l2 : xs.length = kvs.length := by rw [← hx, List.length_map]
          have l3 := ha.length
          have l4 : ds.length = ps.length := toQl_len hp
          rw [List.length_map]
          omega
        have e1 : ((ks.map kP).zip ps).map (·.1) = ks.map kP := by rw [List.map_fst_zip]; omega
        have e2 : ((ks.map kP).zip ps).map (·.2) = ps := by rw [List.map_snd_zip]; omega
        refine ⟨_, Reads.dict (as := []) (bs := as) ho hex.1 hd (by rw [e1, ← hk, k1]; exact p1) (by rw [e2, p2]; exact hr), ?_⟩
        intro z
        simp only [List.append_nil, List.cons_append, List.nil_append] at z
        rcases List.mem_cons.mp z with z | z
        · rw [← z] at hsys
          simp at hsys
        · exact hn z
  | .ins _ _ _, _, _, _, _, _, e => by simp only [toQ] at e; cases e
  | .scr _, _, _, _, _, _, e => by simp only [toQ] at e; cases e
  | .obj _, _, _, _, _, _, e => by simp only [toQ] at e; cases e
theorem Rp.readsA (N : NoSys X.K) (I : Inv X pins σ H s) : ∀ (ds : List D) (vs : List V) (us : List Value) (ps : List PyData), RpA X.K H vs ds → Vals vs us → toQl ds = some ps → ∃ as, ReadsAll s.heap us ps as ∧ sysModules ∉ as
  | [], _, _, _, h, r, e => by simp only [toQl] at e; cases e; cases h; cases r; exact ⟨_, .nil, by simp⟩
  | d :: ds, _, _, _, h, r, e => by
    simp only [toQl] at e
    cases h1 : toQ d with
    | none => rw [h1] at e; cases e
    | some p =>
      cases h2 : toQl ds with
      | none => rw [h1, h2] at e; cases e
      | some ps =>
        rw [h1, h2] at e
        cases e
        cases h with
        | cons ha hb =>
          cases r with
          | cons ra rb =>
            obtain ⟨as, q1, n1⟩ := Rp.reads N I d _ _ p ha ra h1
            obtain ⟨bs, q2, n2⟩ := Rp.readsA N I ds _ _ ps hb rb h2
            exact ⟨_, .cons q1 q2, fun z => (List.mem_append.mp z).elim n1 n2⟩
theorem toQl_len : ∀ {ds : List D} {ps : List PyData}, toQl ds = some ps → ds.length = ps.length
  | [], _, e => by simp only [toQl] at e; cases e; rfl
  | d :: ds, _, e => by
    simp only [toQl] at e
    cases h1 : toQ d with
    | none => rw [h1] at e; cases e
    | some p =>
      cases h2 : toQl ds with
      | none => rw [h1, h2] at e; cases e
      | some ps =>
        rw [h1, h2] at e
        cases e
        exact congrArg (· + 1) (toQl_len h2)
end
def rRepr (K : PySem.W.Frag) : List V → Hp → VK → Prop := fun xs H Q => ∃ x d p, xs = [x] ∧ Rp K H x d ∧ toQ d = some p ∧ p.showable = true ∧ p.shown.length ≤ sizeLine ∧ p.depth ≤ 63 ∧ Q (.str p.shown) H
theorem call_reprD (N : NoSys X.K) (hgd : X.A.guards = some []) (hu : X.A.units + 64 < cLine) : CallR X (.builtin "repr") (rRepr X.K) := by
  intro pins s σ H xs us Q I r h
  obtain ⟨x, d, p, rfl, hr, hp, h1, h2, h3, q⟩ := h
  obtain ⟨u, rfl, ru⟩ := vals1 r
  obtain ⟨as, hrd, hn⟩ := Rp.reads N I d x u p hr ru hp
  have fin : ∀ (h' : Heap) (t : Tok) (tk : Nat), (∀ b o, s.heap.get? b = some o → h'.get? b = some o) → EP X pins σ Q (.str p.shown t) { s with heap := h', toks := tk } := fun h' t tk hk => ⟨.str p.shown, H, I.kept hk, ⟨t, rfl⟩, q⟩
  cases hrd with
  | none => rw [PyData.shown_none] at fin; exact P.repr_of_none (fin s.heap _ _ fun _ _ e => e)
  | bool b => rw [PyData.shown_bool] at fin; exact P.repr_of_bool (fin s.heap _ _ fun _ _ e => e)
  | int i t =>
    rw [PyData.shown_int] at fin
    exact P.repr_of_int (of_decide_eq_true (by simpa only [PyData.showable] using h1)) (fin s.heap _ _ fun _ _ e => e)
  | str y t =>
    rw [PyData.shown_str] at fin h2
    exact P.repr_of_str (fin s.heap _ _ fun _ _ e => e) h2
  | list a b c e => exact repr_of_reads' (.list a b c e) h1 (fun _ => hn) hgd (by omega) (fun _ _ e => e) fin h2
  | tuple a b c e => exact repr_of_reads' (.tuple a b c e) h1 (fun _ => hn) hgd (by omega) (fun _ _ e => e) fin h2
  | dict a b c e f => exact repr_of_reads' (.dict a b c e f) h1 (fun _ => hn) hgd (by omega) (fun _ _ e => e) fin h2
end
def reprS (M : MS) (s : SV) : Option R := match peek M s with
  | some d => match toQ d with
    | some p => if p.showable = true ∧ p.shown.length ≤ sizeLine ∧ p.depth ≤ 63 then some (.sv (.dt (.str p.shown))) else none
    | none => none
  | none => none
theorem calld_repr {K : PySem.W.Frag} : CallD K (rRepr K) (g1 reprS) := CallD.one fun Hk H M ls v s z Q w r e q => by
  unfold reprS at e
  split at e
  · rename_i d hd
    split at e
    · rename_i p hp
      split at e
      · rename_i hz
        cases e
        exact ⟨v, d, p, rfl, peek_ok w _ _ _ _ _ r hd, hp, hz.1, hz.2.1, hz.2.2, q.dt w (.str _)⟩
      · cases e
    · cases e
  · cases e

/-! ### dict displays -/
section
variable {X : Cx} {ek ev e : Expr} {mk mv me : EM R} {pos : Pos}
def eDict0 : EM R := EM.ret (.fd [] [])
theorem pm_dict0 : PM X (.Dict [] [] pos) eDict0 := PE.imp pe_dnewK fun σ H Q ⟨Hk, ls, ρ, M, r, M', w, en, hm, q⟩ => by
  cases hm
  intro p hp
  exact q.newD w hp rfl .nil
def keyD : SV → Option Key
  | .dt (.int i) => some (.inl i)
  | .dt (.str x) => some (.inr x)
  | _ => none
theorem keyD_ok {K : PySem.W.Frag} {Hk : Hp} {ls : List Addr} {n : Nat} {v : V} {s : SV} {k : Key} (r : SVr K Hk ls n v s) (e : keyD s = some k) : v = kV k := by
  unfold keyD at e
  split at e
  · cases e; exact Rp.int_inv r
  · cases e; exact Rp.str_inv r
  · cases e
def eDict1 (mk mv : EM R) : EM R := (fz mk).seq fun s => (fz mv).seq fun t => fun _ M => match keyD s, t with
  | some k, .dt d => some (.fd [k] [d], M)
  | _, _ => none
theorem pm_dict1 (hk : PM X ek mk) (hv : PM X ev mv) : PM X (.Dict [some ek] [ev] pos) (eDict1 mk mv) := PE.imp (pe_disp (pps_cons (PM.v hk) (PM.v hv) pps_nil) (by rfl) (by rfl) (by simp) (by show 1 ≤ 15; decide)) fun σ H Q ⟨Hk, ls, ρ, M, r, M', w, en, hm, q⟩ => by
  obtain ⟨s, M1, h1, h2⟩ := seq_some hm
  obtain ⟨t, M2, h3, h4⟩ := seq_some h2
  intro p hp
  have w0 := w.upd_new (o := .dK []) hp
  refine ⟨Hk, ls, ρ, M, s, M1, w0, en, h1, fun v Hk1 H1 w1 x1 r1 => ?_⟩
  refine ⟨Hk1, ls, ρ, M1, t, M2, w1, en.mono x1.kk, h3, fun u Hk2 H2 w2 x2 r2 => ?_⟩
  have x12 := x1.trans x2
  have hpl := (w.fresh hp).2
  have hp2 : H2 p = some (.dK []) := x12.fr p _ upd_same hpl
  refine ⟨hp2, ?_⟩
  split at h4
  · rename_i k d hkd
    cases h4
    refine ⟨[(k, u)], by rw [keyD_ok r1 hkd]; rfl, by show 1 ≤ 15; decide, ?_⟩
    have hk2 : Hk2 p = none := by
      cases e : Hk2 p with
      | none => rfl
      | some o =>
        rcases x12.gr p (by rw [e]; simp) with z | z
        · exact absurd (w.fresh hp).1 z
        · rw [upd_same] at z; cases z
    have x02 : Ext ls Hk H Hk2 H2 := ⟨x12.kk, fun a o e hn => x12.fr a o (by rw [upd_ne (ne_of_none e hp)]; exact e) hn, fun a e => by
        rcases x12.gr a e with z | z
        · exact .inl z
        · by_cases hap : a = p
          · subst hap; exact .inr hp
          · rw [upd_ne hap] at z; exact .inr z, fun a e => x12.st a (by
        by_cases hap : a = p
        · subst hap; exact absurd hp e
        · rw [upd_ne hap]; exact e)⟩
    exact q (.ref p) Hk2 _ (w2.upd_other hk2 hpl) (x02.upd_other hp) ⟨p, [(k, u)], rfl, hp, hk2, hpl, upd_same, rfl, .cons r2 .nil⟩
  · cases h4
/-! ### isinstance of an own class -/
structure IsiC (K : PySem.W.Frag) (C : Addr) : Prop where
  no : ∀ T ∈ tysN, PySem.W.kitOne K (.type T) (.ref C) = some false
  ys : PySem.W.kitOne K (.ref C) (.ref C) = some true
def isiCS (C : Addr) (M : MS) (s : SV) : Option Bool := match s with
  | .dt (.obj C') => if C' = C then some true else none
  | s => match tyS M s with
    | some _ => some false
    | none => none
def eIsiC (C : Addr) (m : EM R) : EM R := (fz m).seq fun s => fun _ M => match isiCS C M s with
  | some b => some (.sv (.dt (.bl b)), M)
  | none => none
theorem pm_isiC {C : Addr} {t : Str} {p p1 : Pos} (hC : IsiC X.K C) (hg : Gl X "isinstance") (hm : X.mg "isinstance" = none) (hgt : Gl X t) (hmt : X.mg t = some (.ref C)) (h : PM X e me) (hdt : (t == ("__debug__" : Str)) = false := by decide)
    (he : starEach (e :: [.Name t p1]) X.env = (false, eval e X.env) :: starEach [.Name t p1] X.env := by rfl) (hpl : (backTo pos (starEach [.Name t p1] X.env)).any (·.1) = false := by rfl) (hs1 : starEach (.Name t p1 :: []) X.env = (false, eval (.Name t p1) X.env) :: starEach [] X.env := by rfl) :
    PM X (.Call (.Name "isinstance" p) [e, .Name t p1] [] pos) (eIsiC C me) := PE.imp (pe_callB call_isi hg hm PyProof.Rows.boot_isinstance (pa_cons (PM.v h) (pa_cons (pe_glob (v := .ref C) hgt hmt rfl hdt) pa_nil hs1) he) (by decide) (by decide) he hpl) fun σ H Q ⟨Hk, ls, ρ, M, r, M', w, en, hm, q⟩ => by
  obtain ⟨s, M1, h1, h2⟩ := seq_some hm
  refine ⟨Hk, ls, ρ, M, s, M1, w, en, h1, fun v Hk1 H1 w1 x1 r1 => ?_⟩
  split at h2
  · rename_i b hb
    cases h2
    unfold isiCS at hb
    split at hb
    · rename_i C'
      split at hb
      · rename_i hcc
        cases hb
        subst hcc
        cases r1 with
        | obj h c => exact ⟨_, .ref C', .ref C', .ref C', true, rfl, .own C', .base (.ins (w1.sub _ _ h) c.cl c.ha c.hn c.htk c.hm), hC.ys, q _ Hk1 H1 w1 x1 (Rp.bl _)⟩
      · cases hb
    · split at hb
      · rename_i T hT
        cases hb
        exact ⟨v, .ref C, .type T, .ref C, false, rfl, .own C, tyS_ok w1 r1 hT, hC.no T (tyS_mem hT), q _ Hk1 H1 w1 x1 (Rp.bl _)⟩
      · cases hb
  · cases h2
end

/-! ### two targets -/
section
variable {X : Cx} {e o ix a b : Expr} {me mo mi : EM R} {pos : Pos} {ms : EM (List SV)}
/-- x, o[i] = e -/
def sNamePut (j : Nat) (mo mi me : EM R) : SM := fun ρ M => match fz me ρ M with
  | some (.dt (.tup [d1, d2]), M1) => match fz mo (ρ.set j (some (.dt d1))) M1 with
    | some (s, M2) => match fz mi (ρ.set j (some (.dt d1))) M2 with
      | some (t, M3) => match setAt M3 s t (.dt d2) with
        | some M4 => some (.nx (ρ.set j (some (.dt d1))) M4)
        | none => none
      | none => none
    | none => none
  | _ => none
theorem psm_namePut {j : Nat} {tn : Expr} {tpos sp : Pos} {kk : Nat} (hc : X.calm = true) (he : PM X e me) (hg : PG X tn (gName j)) (ho : PM X o mo) (hi : PM X ix mi) (ha : ∀ v, assign (.Subscript o ix sp) X.env v = (do
      let ov ← holding [v] (eval o X.env)
      let iv ← holding [v, ov] (eval ix X.env)
      standAt sp
      holding [v, ov, iv] (setItem ov iv v)
      release [v, ov, iv] []) := by intro _; rfl) (hs : swapsWithSole [.Tuple [tn, .Subscript o ix sp] kk tpos] e pos.line X.env = pure false := by rfl) (hw : swappedStores [.Tuple [tn, .Subscript o ix sp] kk tpos] e X.env = pure none := by rfl)
    (h1 : (assignEach [.Tuple [tn, .Subscript o ix sp] kk tpos] X.env).map (·.2) = [assign (.Tuple [tn, .Subscript o ix sp] kk tpos) X.env] := by rfl)
    (h2 : (assignEach [tn, .Subscript o ix sp] X.env).map (·.2) = assign tn X.env :: (assignEach [.Subscript o ix sp] X.env).map (·.2) := by rfl) (h3 : (assignEach [.Subscript o ix sp] X.env).map (·.2) = assign (.Subscript o ix sp) X.env :: (assignEach [] X.env).map (·.2) := by rfl)
    (hn : (assignEach [tn, .Subscript o ix sp] X.env).length = 2 := by rfl) (hst : (assignEach [tn, .Subscript o ix sp] X.env).findIdx? (·.1) = none := by rfl) : PSm X (.Assign [.Tuple [tn, .Subscript o ix sp] kk tpos] e pos) (sNamePut j mo mi me) :=
  PS.imp (ps_asg (PM.v he) (pg_tup hc (pgs_cons hg (pgs_cons (pg_sub (PM.v ho) (PM.v hi) set_list ha) pgs_nil h3) h2) hn hst) hs hw h1) fun E σ H ⟨Hk, ls, ρ, M, r, w, en, hm, q⟩ => by
  unfold sNamePut at hm
  split at hm
  · rename_i d1 d2 M1 h1
    split at hm
    · rename_i s M2 h2
      split at hm
      · rename_i t M3 h3
        split at hm
        · rename_i M4 h4
          cases hm
          refine ⟨Hk, ls, ρ, M, _, M1, w, en, h1, fun v Hk1 H1 w1 x1 r1 => ?_⟩
          cases r1 with
          | tup hq ra =>
            cases ra with
            | cons ra1 ra2 =>
              cases ra2 with
              | cons ra2 ra3 =>
                cases ra3
                have en1 := (en.mono x1.kk).set (i := j) (s := .dt d1) ra1
                refine ⟨_, _, rfl, same_t w1.sub hq, rfl, _, _, rfl, _, _, rfl, ?_⟩
                refine ⟨Hk1, ls, _, M1, s, M2, w1, en1, h2, fun ov Hk2 H2 w2 x2 r2 => ?_⟩
                refine ⟨Hk2, ls, _, M2, t, M3, w2, en1.mono x2.kk, h3, fun iv Hk3 H3 w3 x3 r3 => ?_⟩
                exact setAt_ok (d := .dt d2) w3 (r2.mono x3.kk) r3 (Rp.mono (x2.trans x3).kk ra2) h4 fun H' w' x' => ⟨rfl, q _ Hk3 H' ls w' ((((x1.trans x2).trans x3).trans x').s) (en1.mono (x2.trans x3).kk)⟩
        · cases hm
      · cases hm
    · cases hm
  · cases hm
/-- x, y = a, b -/
def sPar (i j : Nat) (ms : EM (List SV)) : SM := fun ρ M => match ms ρ M with
  | some ([s, t], M1) => some (.nx ((ρ.set i (some s)).set j (some t)) M1)
  | _ => none
theorem psm_par {i j : Nat} {st : Stmt} (h : PS X st (tPar i j (tA X.K ms))) : PSm X st (sPar i j ms) := PS.imp h fun E σ H ⟨Hk, ls, ρ, M, r, w, en, hm, q⟩ => by
  unfold sPar at hm
  split at hm
  · rename_i s t M1 h1
    cases hm
    refine ⟨Hk, ls, ρ, M, _, M1, w, en, h1, fun vs Hk1 H1 w1 x1 r1 => ?_⟩
    cases r1 with
    | cons r1 r2 =>
      cases r2 with
      | cons r2 r3 =>
        cases r3
        exact ⟨_, _, rfl, q _ Hk1 H1 ls w1 x1.s (((en.mono x1.kk).set r1).set r2)⟩
  · cases hm
end
end Dy

set_option Elab.async false
set_option linter.all false
set_option maxRecDepth 100000
set_option maxHeartbeats 4000000
/-! Layer Dy, part 12: short words for printed derivations; the head. -/
namespace Dy
open PySem L2 PySem.Spec PyProof.Rows

/-- the built-in names are the built-ins -/
def bltNames : List Str := ["len", "abs", "int", "all", "any", "sum", "repr", "list", "tuple", "isinstance", "str", "bool", "dict", "range", "enumerate", "zip", "sorted", "max", "min", "set"]
def Blt (mg : Str → Option Value) : Prop := ∀ x ∈ bltNames, mg x = none
section
variable {X : Cx} {e e2 tg : Expr} {es : List Expr} {ms : EM (List SV)} {me : EM R} {p pos : Pos} {st : Stmt}
theorem pm_len (B : Blt X.mg) (ha : PAm X [e] ms) (hg : Gl X "len" := by rfl) (he : starEach (e :: []) X.env = (false, eval e X.env) :: starEach [] X.env := by rfl) : PM X (.Call (.Name "len" p) [e] [] pos) (eCall (g1 lenS) ms) := pm_callB call_len calld_len hg (B _ (by decide +kernel)) boot_len ha (by decide) (by decide) he rfl
theorem pm_abs (B : Blt X.mg) (ha : PAm X [e] ms) (hg : Gl X "abs" := by rfl) (he : starEach (e :: []) X.env = (false, eval e X.env) :: starEach [] X.env := by rfl) : PM X (.Call (.Name "abs" p) [e] [] pos) (eCall (g1 absS) ms) := pm_callB call_abs calld_abs hg (B _ (by decide +kernel)) boot_abs ha (by decide) (by decide) he rfl
theorem pm_toint (B : Blt X.mg) (ha : PAm X [e] ms) (hg : Gl X "int" := by rfl) (he : starEach (e :: []) X.env = (false, eval e X.env) :: starEach [] X.env := by rfl) : PM X (.Call (.Name "int" p) [e] [] pos) (eCall (g1 intS) ms) := pm_callTy call_int1 calld_int hg (B _ (by decide +kernel)) PyProof.Rows.boot_int ha (by decide) (by decide) he rfl
theorem pm_all (B : Blt X.mg) (hc : X.calm = true) (ha : PAm X [e] ms) (hg : Gl X "all" := by rfl) (he : starEach (e :: []) X.env = (false, eval e X.env) :: starEach [] X.env := by rfl) : PM X (.Call (.Name "all" p) [e] [] pos) (eCall (g1 allS) ms) := pm_callB (cr_all hc) calld_all hg (B _ (by decide +kernel)) boot_all ha (by decide) (by decide) he rfl
theorem pm_sum (B : Blt X.mg) (hc : X.calm = true) (ha : PAm X [e] ms) (hg : Gl X "sum" := by rfl) (he : starEach (e :: []) X.env = (false, eval e X.env) :: starEach [] X.env := by rfl) : PM X (.Call (.Name "sum" p) [e] [] pos) (eCall (g1 sumS) ms) := pm_callB (cr_sum hc) calld_sum hg (B _ (by decide +kernel)) boot_sum ha (by decide) (by decide) he rfl
theorem pm_repr (B : Blt X.mg) (N : NoSys X.K) (hgd : X.A.guards = some []) (hu : X.A.units + 64 < cLine) (ha : PAm X [e] ms) (hg : Gl X "repr" := by rfl) (he : starEach (e :: []) X.env = (false, eval e X.env) :: starEach [] X.env := by rfl) : PM X (.Call (.Name "repr" p) [e] [] pos) (eCall (g1 reprS) ms) := pm_callB (call_reprD N hgd hu) calld_repr hg (B _ (by decide +kernel)) boot_repr ha (by decide) (by decide) he rfl
theorem pm_tolist (B : Blt X.mg) (ha : PAm X [e] ms) (hg : Gl X "list" := by rfl) (he : starEach (e :: []) X.env = (false, eval e X.env) :: starEach [] X.env := by rfl) : PM X (.Call (.Name "list" p) [e] [] pos) (eCall (g1 listS) ms) := pm_callTy call_list_of calld_list hg (B _ (by decide +kernel)) PyProof.Rows.boot_list ha (by decide) (by decide) he rfl
theorem pm_totuple (B : Blt X.mg) (ha : PAm X [e] ms) (hg : Gl X "tuple" := by rfl) (he : starEach (e :: []) X.env = (false, eval e X.env) :: starEach [] X.env := by rfl) : PM X (.Call (.Name "tuple" p) [e] [] pos) (eCall (g1 tupleS) ms) := pm_callTy call_tuple_of calld_tuple hg (B _ (by decide +kernel)) PyProof.Rows.boot_tuple ha (by decide) (by decide) he rfl
theorem pm_append {o : Expr} {mo : EM R} {apos : Pos} (ho : PM X o mo) (ha : PAm X [e] ms) (hbase : attributeBase o "append" X.env (eval o X.env) = eval o X.env := by rfl) (hfew : ((backTo pos (starEach (e :: []) X.env)).all (fun x => !x.1) && (backToKw pos (keywordEach [] X.env)).all (fun x => x.1.isSome) && decide ((e :: ([] : List Expr)).length + ([] : List Keyword).length + (if ([] : List Keyword).isEmpty then 0 else 1) < 30)) = true := by rfl)
    (hline : (apos.endLine == pos.line) = true := by rfl) (he : starEach (e :: []) X.env = (false, eval e X.env) :: starEach [] X.env := by rfl) : PM X (.Call (.Attribute o "append" apos) [e] [] pos) (eMt "list" gAppend mo ms) := pm_mt PySem.F.plainAttrs_list PySem.F.slot_list_append PySem.F.type_list_append mt_append mtd_append ho ha hbase hfew hline he rfl
theorem pm_extend {o : Expr} {mo : EM R} {apos : Pos} (ho : PM X o mo) (ha : PAm X [e] ms) (hbase : attributeBase o "extend" X.env (eval o X.env) = eval o X.env := by rfl) (hfew : ((backTo pos (starEach (e :: []) X.env)).all (fun x => !x.1) && (backToKw pos (keywordEach [] X.env)).all (fun x => x.1.isSome) && decide ((e :: ([] : List Expr)).length + ([] : List Keyword).length + (if ([] : List Keyword).isEmpty then 0 else 1) < 30)) = true := by rfl)
    (hline : (apos.endLine == pos.line) = true := by rfl) (he : starEach (e :: []) X.env = (false, eval e X.env) :: starEach [] X.env := by rfl) : PM X (.Call (.Attribute o "extend" apos) [e] [] pos) (eMt "list" gExtend mo ms) := pm_mt PySem.F.plainAttrs_list PySem.F.slot_list_extend PySem.F.type_list_extend mt_extend mtd_extend ho ha hbase hfew hline he rfl
theorem pm_popAt {o : Expr} {mo : EM R} {apos : Pos} (ho : PM X o mo) (ha : PAm X [e] ms) (hbase : attributeBase o "pop" X.env (eval o X.env) = eval o X.env := by rfl) (hfew : ((backTo pos (starEach (e :: []) X.env)).all (fun x => !x.1) && (backToKw pos (keywordEach [] X.env)).all (fun x => x.1.isSome) && decide ((e :: ([] : List Expr)).length + ([] : List Keyword).length + (if ([] : List Keyword).isEmpty then 0 else 1) < 30)) = true := by rfl)
    (hline : (apos.endLine == pos.line) = true := by rfl) (he : starEach (e :: []) X.env = (false, eval e X.env) :: starEach [] X.env := by rfl) : PM X (.Call (.Attribute o "pop" apos) [e] [] pos) (eMt "list" gPopAt mo ms) := pm_mt PySem.F.plainAttrs_list PySem.F.slot_list_pop PySem.F.type_list_pop mt_popAt mtd_popAt ho ha hbase hfew hline he rfl
theorem pm_pop {o : Expr} {mo : EM R} {apos : Pos} (ho : PM X o mo) (hbase : attributeBase o "pop" X.env (eval o X.env) = eval o X.env := by rfl) (hline : (apos.endLine == pos.line) = true := by rfl) : PM X (.Call (.Attribute o "pop" apos) [] [] pos) (eMt "list" gPop mo eNil) := pm_mt0 PySem.F.plainAttrs_list PySem.F.slot_list_pop PySem.F.type_list_pop mt_pop mtd_pop ho hbase hline
theorem pm_clear {o : Expr} {mo : EM R} {apos : Pos} (ho : PM X o mo) (hbase : attributeBase o "clear" X.env (eval o X.env) = eval o X.env := by rfl) (hline : (apos.endLine == pos.line) = true := by rfl) : PM X (.Call (.Attribute o "clear" apos) [] [] pos) (eMt "list" gClear mo eNil) := pm_mt0 PySem.F.plainAttrs_list PySem.F.slot_list_clear PySem.F.type_list_clear mt_clear mtd_clear ho hbase hline
theorem pm_upper {o : Expr} {mo : EM R} {apos : Pos} (ho : PM X o mo) (hbase : attributeBase o "upper" X.env (eval o X.env) = eval o X.env := by rfl) (hline : (apos.endLine == pos.line) = true := by rfl) : PM X (.Call (.Attribute o "upper" apos) [] [] pos) (eMt "str" gUpper mo eNil) := pm_mt0 PySem.F.plainAttrs_str PySem.F.slot_str_upper PySem.F.type_str_upper mt_upper mtd_upper ho hbase hline
theorem pm_join {o : Expr} {mo : EM R} {apos : Pos} (ho : PM X o mo) (ha : PAm X [e] ms) (hbase : attributeBase o "join" X.env (eval o X.env) = eval o X.env := by rfl) (hfew : ((backTo pos (starEach (e :: []) X.env)).all (fun x => !x.1) && (backToKw pos (keywordEach [] X.env)).all (fun x => x.1.isSome) && decide ((e :: ([] : List Expr)).length + ([] : List Keyword).length + (if ([] : List Keyword).isEmpty then 0 else 1) < 30)) = true := by rfl)
    (hline : (apos.endLine == pos.line) = true := by rfl) (he : starEach (e :: []) X.env = (false, eval e X.env) :: starEach [] X.env := by rfl) : PM X (.Call (.Attribute o "join" apos) [e] [] pos) (eMt "str" gJoin mo ms) := pm_mt PySem.F.plainAttrs_str PySem.F.slot_str_join PySem.F.type_str_join mt_join mtd_join ho ha hbase hfew hline he rfl
theorem pm_insert {o : Expr} {mo : EM R} {apos : Pos} (ho : PM X o mo) (ha : PAm X [e, e2] ms) (hbase : attributeBase o "insert" X.env (eval o X.env) = eval o X.env := by rfl) (hfew : ((backTo pos (starEach (e :: [e2]) X.env)).all (fun x => !x.1) && (backToKw pos (keywordEach [] X.env)).all (fun x => x.1.isSome) && decide ((e :: [e2]).length + ([] : List Keyword).length + (if ([] : List Keyword).isEmpty then 0 else 1) < 30)) = true := by rfl)
    (hline : (apos.endLine == pos.line) = true := by rfl) (he : starEach (e :: [e2]) X.env = (false, eval e X.env) :: starEach [e2] X.env := by rfl) (hpl : (backTo pos (starEach [e2] X.env)).any (·.1) = false := by rfl) : PM X (.Call (.Attribute o "insert" apos) [e, e2] [] pos) (eMt "list" gInsert mo ms) := pm_mt PySem.F.plainAttrs_list PySem.F.slot_list_insert PySem.F.type_list_insert mt_insert mtd_insert ho ha hbase hfew hline he hpl
/-- isinstance(x, T) -/
theorem pm_isT {T : String} {p1 : Pos} (B : Blt X.mg) (t : Str) (hT : T ∈ tysB) (ht : t ∈ bltNames) (hvt : bootBuiltins t = some (.type T)) (h : PM X e me) (hg : Gl X "isinstance" := by rfl) (hgt : Gl X t := by rfl) (hnt : t ≠ "__name__" := by decide) (hdt : (t == ("__debug__" : Str)) = false := by decide)
    (he : starEach (e :: [.Name t p1]) X.env = (false, eval e X.env) :: starEach [.Name t p1] X.env := by rfl) : PM X (.Call (.Name "isinstance" p) [e, .Name t p1] [] pos) (eIsi T me) := pm_isi hT hg (B _ (by decide +kernel)) hgt (B t ht) hvt h hnt hdt he rfl rfl
theorem pm_isT2 {T U : String} {p1 p2 p3 : Pos} {kk : Nat} (B : Blt X.mg) (t u : Str) (hT : T ∈ tysB) (ht : t ∈ bltNames) (hvt : bootBuiltins t = some (.type T)) (hU : U ∈ tysB) (hu : u ∈ bltNames) (hvu : bootBuiltins u = some (.type U)) (h : PM X e me) (hg : Gl X "isinstance" := by rfl) (hgt : Gl X t := by rfl) (hgu : Gl X u := by rfl)
    (hnt : t ≠ "__name__" := by decide) (hdt : (t == ("__debug__" : Str)) = false := by decide) (hnu : u ≠ "__name__" := by decide) (hdu : (u == ("__debug__" : Str)) = false := by decide)
    (he : starEach (e :: [.Tuple [.Name t p1, .Name u p2] kk p3]) X.env = (false, eval e X.env) :: starEach [.Tuple [.Name t p1, .Name u p2] kk p3] X.env := by rfl) : PM X (.Call (.Name "isinstance" p) [e, .Tuple [.Name t p1, .Name u p2] kk p3] [] pos) (eIsi2 T U me) :=
  pm_isi2 hT hU hg (B _ (by decide +kernel)) hgt (B t ht) hvt hgu (B u hu) hvu h hnt hdt hnu hdu he rfl rfl rfl rfl
theorem pim_rng1 (B : Blt X.mg) (ha : PAm X [e] ms) (hg : Gl X "range" := by rfl) (hs : starEach [e] X.env = [(false, eval e X.env)] := by rfl) : PIm X tg (.Call (.Name "range" p) [e] [] pos) (eRng1 ms) := pim_range1 hg (B _ (by decide +kernel)) ha hs
theorem pim_rng2 (B : Blt X.mg) (ha : PAm X [e, e2] ms) (hg : Gl X "range" := by rfl) (hs : starEach [e, e2] X.env = [(false, eval e X.env), (false, eval e2 X.env)] := by rfl) (hs2 : starEach [e2] X.env = [(false, eval e2 X.env)] := by rfl) : PIm X tg (.Call (.Name "range" p) [e, e2] [] pos) (eRng2 ms) := pim_range2 hg (B _ (by decide +kernel)) ha hs hs2
theorem pim_enm {elts : List Expr} {kk : Nat} {tpos : Pos} (B : Blt X.mg) (ha : PAm X [e] ms) (hg : Gl X "enumerate" := by rfl) (hs : starEach [e] X.env = [(false, eval e X.env)] := by rfl) : PIm X (.Tuple elts kk tpos) (.Call (.Name "enumerate" p) [e] [] pos) (eEnum ms) := pim_enum hg (B _ (by decide +kernel)) ha hs
theorem pim_zp {elts : List Expr} {kk : Nat} {tpos : Pos} (B : Blt X.mg) (ha : PAm X [e, e2] ms) (hg : Gl X "zip" := by rfl) (hs : starEach [e, e2] X.env = (false, eval e X.env) :: starEach [e2] X.env := by rfl) (hpl : (backTo pos (starEach [e2] X.env)).any (·.1) = false := by rfl) : PIm X (.Tuple elts kk tpos) (.Call (.Name "zip" p) [e, e2] [] pos) (eZip ms) := pim_zip hg (B _ (by decide +kernel)) ha hs hpl
/-- constants of the module -/
theorem pm_gint {x : Str} {i : Int} (h : ∃ t, X.mg x = some (.int i t)) (hg : Gl X x := by rfl) (hd : (x == ("__debug__" : Str)) = false := by decide) : PM X (.Name x pos) (eC (.int i)) := by
  obtain ⟨t, ht⟩ := h
  exact pm_const (pe_glob (v := .int i) hg ht ⟨t, rfl⟩ hd) fun _ => .int i
theorem pm_gstr {x z : Str} (h : ∃ t, X.mg x = some (.str z t)) (hg : Gl X x := by rfl) (hd : (x == ("__debug__" : Str)) = false := by decide) : PM X (.Name x pos) (eC (.str z)) := by
  obtain ⟨t, ht⟩ := h
  exact pm_const (pe_glob (v := .str z) hg ht ⟨t, rfl⟩ hd) fun _ => .str z
theorem RpA.strs {K : PySem.W.Frag} {H : Hp} : ∀ zs : List Str, RpA K H (zs.map V.str) (zs.map D.str)
  | [] => .nil
  | z :: r => .cons (.str z) (RpA.strs r)
theorem pm_gtup {x : Str} {zs : List Str} (h : ∃ a, X.mg x = some (.ref a) ∧ ∀ H, SqT X.K H a (zs.map V.str)) (hg : Gl X x := by rfl) (hd : (x == ("__debug__" : Str)) = false := by decide) : PM X (.Name x pos) (eC (.tup (zs.map .str))) := by
  obtain ⟨a, ha, hs⟩ := h
  exact pm_const (pe_glob (v := .ref a) hg ha rfl hd) fun H => .tup (hs H) (RpA.strs zs)
/-- tg = e by the target's binding -/
def sBind (b : Bnd) (me : EM R) : SM := fun ρ M => match fz me ρ M with
  | some (s, M1) => match b s ρ with
    | some ρ' => some (.nx ρ' M1)
    | none => none
  | none => none
theorem psm_bind {b : Bnd} {is : List Nat} (he : PM X e me) (hg : PGm X tg b is) (hs : swapsWithSole [tg] e pos.line X.env = pure false := by rfl) (hw : swappedStores [tg] e X.env = pure none := by rfl) (h1 : (assignEach [tg] X.env).map (·.2) = [assign tg X.env] := by rfl) : PSm X (.Assign [tg] e pos) (sBind b me) :=
  PS.imp (ps_asg (PM.v he) hg hs hw h1) fun E σ H ⟨Hk, ls, ρ, M, r, w, en, hm, q⟩ => by
  unfold sBind at hm
  split at hm
  · rename_i s M1 h1
    split at hm
    · rename_i ρ' h2
      cases hm
      exact ⟨Hk, ls, ρ, M, s, M1, w, en, h1, fun v Hk1 H1 w1 x1 r1 => ⟨Hk1, ls, ρ, M1, s, ρ', w1, en.mono x1.kk, r1, h2, fun σ' en' _ => q σ' Hk1 H1 ls w1 x1.s en'⟩⟩
    · cases hm
  · cases hm
end
/-- a def by its mirror, where it stands -/
structure DefOk (P : Program) (w : PySem.World) (K : PySem.W.Frag) (mg : Str → Option Value) (base : Heap) (k : Nat) (x : Str) (f : Addr) (fd : FuncData) (ps : List Str) (g : Fn) : Prop where
  gl : mg x = some (.ref f)
  kp : PySem.W.keepIn K (.ref f) = true
  bd : Binds K fd ps []
  ok : FnG P w K mg base CX0 k f fd ps (spM K ps.length g)
theorem pm_def {X : Cx} {k : Nat} {x : Str} {f : Addr} {fd : FuncData} {ps : List Str} {g : Fn} {e : Expr} {es : List Expr} {ms : EM (List SV)} {p pos : Pos} (F : DefOk X.prog X.w X.K X.mg X.base k x f fd ps g) (hgd : X.A.guards = some []) (hr : Room k X.A) (ha : PAm X (e :: es) ms)
    (hn : ∀ ρ M ss M', ms ρ M = some (ss, M') → ss.length = ps.length) (hg : Gl X x := by rfl) (hdb : (x == ("__debug__" : Str)) = false := by decide) (he : starEach (e :: es) X.env = (false, eval e X.env) :: starEach es X.env := by rfl) (hpl : (backTo pos (starEach es X.env)).any (·.1) = false := by rfl) :
    PM X (.Call (.Name x p) (e :: es) [] pos) (eFn g ms) := pm_call F.ok hgd hr hg F.gl F.kp F.bd ha hn hdb he hpl
theorem FunDG.ok {P : Program} {w : PySem.World} {K : PySem.W.Frag} {mg : Str → Option Value} {base : Heap} {x qual : Str} {params : Arguments} {body : List Stmt} {scope : Scope} {dvs : List V} {kws : List (Str × V)} {f : Addr} {fd : FuncData} {N ps : List Str} {k : Nat} {b : SM} {n : Nat} (F : FunD K x qual params body scope dvs kws f fd) (S : FnScope N ps scope) (hl : ps.length = n)
    (hbody : ∀ (cdv : Value) (A : Around) (outer : List PySem.Env) (s : Shared) (H : Hp) (E : XK), A.guards = some [] → Room k (A.deeper (envOfC qual scope s.heap.objs.size f cdv)) → PSsm (cxOf CX0 P w K mg base N qual scope f cdv A outer s H E).nox body b) : FnG P w K mg base CX0 (k + 1) f fd ps (spM K n (runBody b N.length)) := by
  obtain ⟨oc, od, dV, kV, doc, pm, an, cdv, ct, osl, rfl, lk, hcd, _, _⟩ := F.ex
  exact fng_of lk hcd S (spM_len hl) fun A outer s H vs Q E hgd hr h => ⟨_, (hbody cdv A outer s H E hgd hr).nox, body_go h⟩

/-! ### the head -/
/-- a Hook of one's own: any look at the written part that says yes -/
def obsX (n : Nat) (chk : PySem.W.Frag → Bool) (fn : List He.DefD) (g : Addr → Option Obj) : He.AlD := (fun K => (chk K && fn.all fun d => d.ok K, fn.map fun d => He.fnW K d.at_)) (He.frG g (sysModules :: He.asD g n))
def SaysX (chk : PySem.W.Frag → Bool) (fn : List He.DefD) (K : PySem.W.Frag) : Prop := (chk K && fn.all fun d => d.ok K) = true ∧ (fn.map fun d => He.fnW K d.at_) = fn.map He.DefD.val
def hookX (n : Nat) (chk : PySem.W.Frag → Bool) (fn : List He.DefD) : PySem.W.Hook where
  α := He.AlD
  obs := fun s => obsX n chk fn s.heap.get?
  val := fun _ => He.valD fn
  says := fun _ h => ∃ K : PySem.W.Frag, K.In h ∧ SaysX chk fn K
  of := fun _ _ e => ⟨_, He.frG_in, congrArg (fun z : He.AlD => z.1) e, congrArg (fun z : He.AlD => z.2) e⟩
  keeps := fun _ _ _ ⟨K, hK, c⟩ k => ⟨K, PySem.W.Frag.In.keeps hK k, c⟩
theorem obsX_eq {n : Nat} {chk : PySem.W.Frag → Bool} {fn : List He.DefD} {g : Addr → Option Obj} {s : Shared} (h : ∀ a, g a = s.heap.get? a) : obsX n chk fn g = (hookX n chk fn).obs s := by
  have e : g = s.heap.get? := funext h
  rw [e] <;> rfl
theorem SaysX.yes {chk : PySem.W.Frag → Bool} {fn : List He.DefD} {K : PySem.W.Frag} (c : SaysX chk fn K) : chk K = true := (Bool.and_eq_true_iff.mp c.1).1
theorem SaysX.dfn {chk : PySem.W.Frag → Bool} {fn : List He.DefD} {K : PySem.W.Frag} (c : SaysX chk fn K) (i : Nat) {d : He.DefD} (h : fn[i]? = some d := by rfl) : ∃ fd, FunD K d.name d.qual d.params d.body d.scope (d.dvs K) (d.kws K) (He.fAd K d.at_) fd := by
  have c2 := (Bool.and_eq_true_iff.mp c.1).2
  have e2 := congrArg (fun l => l[i]?) c.2
  simp only [List.getElem?_map, h, Option.map_some] at e2
  exact He.DefD.funD (Option.some.inj e2) (List.all_eq_true.mp c2 d (List.mem_of_getElem? h))
/-- looks -/
def noSysB (K : PySem.W.Frag) : Bool := match K.lookup sysModules with
  | some o => (match o.cls with
    | .type "dict" => true
    | _ => false)
  | none => false
theorem noSysB_ok {K : PySem.W.Frag} (h : noSysB K = true) : NoSys K := by
  unfold noSysB at h
  split at h
  · rename_i o ho
    split at h
    · rename_i hc
      exact ⟨o, ho, by rw [hc]; decide⟩
    · cases h
  · cases h
def frees (xs : List Str) (K : PySem.W.Frag) : Bool := xs.all fun x => (He.Fa.free x).ok K
theorem frees_ok {K : PySem.W.Frag} {h : Heap} {mg : Str → Option Value} {xs : List Str} (X : K.In h) (G : h.Ns mainGlobals mg) (c : frees xs K = true) : ∀ x ∈ xs, mg x = none := fun x hx => He.free_ok X G (List.all_eq_true.mp c x hx)
end Dy

set_option Elab.async false
set_option linter.all false
set_option maxRecDepth 100000
set_option maxHeartbeats 4000000
/-! Layer Dy, part 13: instances that are being made: fields, methods, C(..). -/
namespace Dy
open PySem L2 PySem.Spec PyProof.Rows

/-! ### nothing is promised of what is never come to -/
def eNo : EM R := fun _ _ => none
def sNo : SM := fun _ _ => none
theorem pm_no {X : Cx} {e : Expr} : PM X e eNo := ⟨fun _ _ _ _ _ _ h => by obtain ⟨_, _, _, _, _, _, _, _, z, _⟩ := h; cases z⟩
theorem psm_no {X : Cx} {st : Stmt} : PSm X st sNo := ⟨fun _ _ _ _ _ _ h => by obtain ⟨_, _, _, _, _, _, _, z, _⟩ := h; cases z⟩
theorem pssm_no {X : Cx} {st : List Stmt} : PSsm X st sNo := ⟨fun _ _ _ _ _ _ h => by obtain ⟨_, _, _, _, _, _, _, z, _⟩ := h; cases z⟩

/-! ### fields by name -/
def lookF (f : Str) : List Str → List D → Option D
  | n :: ns, d :: ds => if f = n then some d else lookF f ns ds
  | _, _ => none
def putN (f : Str) (d : D) : List Str → List D → List Str × List D
  | n :: ns, x :: xs => if n = f then (n :: ns, d :: xs) else (n :: (putN f d ns xs).1, x :: (putN f d ns xs).2)
  | _, _ => ([f], [d])
section
variable {K : PySem.W.Frag} {Hk H : Hp} {M M' : MS} {ls : List Addr}
theorem lookF_ok {f : Str} {d : D} : ∀ {fs : List (Str × V)} {ds : List D}, RpA K Hk (fs.map (·.2)) ds → lookF f (fs.map (·.1)) ds = some d → ∃ v, fs.lookup f = some v ∧ Rp K Hk v d
  | [], _, r, e => by cases r; cases e
  | (n, v) :: fs, _, .cons (d := x) (ds := xs) r t, e => by
    have e2 : (if f = n then some x else lookF f (fs.map (·.1)) xs) = some d := e
    by_cases h : f = n
    · rw [if_pos h] at e2
      cases e2
      exact ⟨v, by rw [List.lookup_cons, beq_iff_eq.mpr h], r⟩
    · rw [if_neg h] at e2
      obtain ⟨u, h1, h2⟩ := lookF_ok t e2
      exact ⟨u, by rw [List.lookup_cons, beq_eq_false_iff_ne.mpr h]; exact h1, h2⟩
theorem lookup_nope {f : Str} : ∀ {fs : List (Str × V)}, (fs.map (·.1)).contains f = false → fs.lookup f = none
  | [], _ => rfl
  | (n, v) :: fs, h => by
    rw [List.map_cons, List.contains_cons, Bool.or_eq_false_iff] at h
    rw [List.lookup_cons, h.1]
    exact lookup_nope h.2
theorem putN_ok {f : Str} {v : V} {d : D} (rv : Rp K Hk v d) : ∀ {fs : List (Str × V)} {ds : List D}, RpA K Hk (fs.map (·.2)) ds →
    (putF f v fs).map (·.1) = (putN f d (fs.map (·.1)) ds).1 ∧ RpA K Hk ((putF f v fs).map (·.2)) (putN f d (fs.map (·.1)) ds).2
  | [], _, r => by cases r; exact ⟨rfl, .cons rv .nil⟩
  | (n, u) :: fs, _, .cons (d := x) (ds := xs) r t => by
    by_cases h : n = f
    · simp only [putF, List.map_cons, putN, if_pos h]
      exact ⟨trivial, .cons rv t⟩
    · obtain ⟨h1, h2⟩ := putN_ok rv (f := f) t
      simp only [putF, List.map_cons, putN, if_neg h]
      exact ⟨by rw [h1], .cons r h2⟩
/-- the handle of an instance -/
def muI (M : MS) : SV → Option (Nat × Addr × List Str × List D)
  | .mu k => match M[k]? with
    | some (.i C ns ds) => some (k, C, ns, ds)
    | _ => none
  | _ => none
theorem muI_ok {v : V} {s : SV} {k : Nat} {C : Addr} {ns : List Str} {ds : List D} (w : World K Hk H M ls) (r : SVr K Hk ls ls.length v s) (e : muI M s = some (k, C, ns, ds)) :
    ∃ (l dx : Addr) (fs : List (Str × V)), v = .ref l ∧ ls[k]? = some l ∧ M[k]? = some (.i C ns ds) ∧ H l = some (.ins C dx fs) ∧ fs.map (·.1) = ns ∧ RpA K Hk (fs.map (·.2)) ds := by
  unfold muI at e
  split at e
  · rename_i j
    split at e
    · rename_i C' ns' ds' hM
      cases e
      obtain ⟨_, l, hl, rfl⟩ := r
      obtain ⟨l', hl', dx, fs, h1, h2, h3⟩ := w.ms k _ hM
      rw [hl] at hl'
      cases hl'
      exact ⟨l, dx, fs, rfl, hl, hM, h1, h2, h3⟩
    · cases e
  · cases e
end

/-! ### o.f -/
def fldS (C : Addr) (f : Str) (M : MS) (s : SV) : Option D := match muI M s with
  | some (_, C', ns, ds) => if C' = C then lookF f ns ds else none
  | none => none
def eFld (C : Addr) (f : Str) (m : EM R) : EM R := (fz m).seq fun s => fun _ M => match fldS C f M s with
  | some d => some (.sv (.dt d), M)
  | none => none
section
variable {X : Cx} {e o : Expr} {me mo : EM R} {f : Str} {C : Addr} {pos pos' : Pos}
theorem pm_fld (c : Cls X.K C) (n : NoAttr X.K C f) (h : PM X e me) (hb : attributeBase e f X.env (eval e X.env) = eval e X.env := by rfl) : PM X (.Attribute e f pos) (eFld C f me) :=
  PE.imp (pe_fld (PM.v h) hb) fun σ H Q ⟨Hk, ls, ρ, M, r, M', w, en, hm, q⟩ => by
  obtain ⟨s, M1, h1, h2⟩ := seq_some hm
  refine ⟨Hk, ls, ρ, M, s, M1, w, en, h1, fun v Hk1 H1 w1 x1 r1 => ?_⟩
  split at h2
  · rename_i d hd
    cases h2
    unfold fldS at hd
    split at hd
    · rename_i k C' ns ds hi
      split at hd
      · rename_i hC
        subst hC
        obtain ⟨l, dx, fs, rfl, hl, hM, hH, hn, hr⟩ := muI_ok w1 r1 hi
        subst hn
        obtain ⟨u, hu, ru⟩ := lookF_ok hr hd
        exact ⟨l, C', dx, fs, u, rfl, hH, c, n, hu, q u Hk1 H1 w1 x1 ru⟩
      · cases hd
    · cases hd
  · cases h2
/-- o.f = d -/
def putFld (C : Addr) (f : Str) (M : MS) (s : SV) (d : D) : Option MS := match muI M s with
  | some (k, C', ns, ds) => if C' = C ∧ ns.length < 1000 then some (M.set k (.i C (putN f d ns ds).1 (putN f d ns ds).2)) else none
  | none => none
theorem putFld_ok {K : PySem.W.Frag} {Hk H : Hp} {M M' : MS} {ls : List Addr} {x v : V} {s : SV} {d : D} (w : World K Hk H M ls) (rx : SVr K Hk ls ls.length x s) (rv : Rp K Hk v d) (e : putFld C f M s d = some M') :
    ∃ (a dx : Addr) (fs : List (Str × V)), x = .ref a ∧ H a = some (.ins C dx fs) ∧ fs.length < 1000 ∧ World K Hk (upd H a (.ins C dx (putF f v fs))) M' ls ∧ Ext ls Hk H Hk (upd H a (.ins C dx (putF f v fs))) := by
  unfold putFld at e
  split at e
  · rename_i k C' ns ds hi
    split at e
    · rename_i hC
      cases e
      obtain ⟨hC, hz⟩ := hC
      subst hC
      obtain ⟨l, dx, fs, rfl, hl, hM, hH, hn, hr⟩ := muI_ok w rx hi
      subst hn
      obtain ⟨p1, p2⟩ := putN_ok (f := f) rv hr
      refine ⟨l, dx, fs, rfl, hH, by rw [List.length_map] at hz; exact hz, w.setM hl hM ⟨dx, _, upd_same, p1, p2⟩, Ext.setM (List.mem_of_getElem? hl)⟩
    · cases e
  · cases e
def sFldPut (C : Addr) (f : Str) (mo me : EM R) : SM := fun ρ M => match fz me ρ M with
  | some (.dt d, M1) => match fz mo ρ M1 with
    | some (s, M2) => match putFld C f M2 s d with
      | some M3 => some (.nx ρ M3)
      | none => none
    | none => none
  | _ => none
theorem psm_fldPut (c : Cls X.K C) (n : NoAttr X.K C f) (ho : PM X o mo) (he : PM X e me) (hs : swapsWith e (some (.Attribute o f pos')) pos.line X.env = pure false := by rfl) : PSm X (.Assign [.Attribute o f pos'] e pos) (sFldPut C f mo me) :=
  PS.imp (ps_fld (PM.v ho) (PM.v he) hs) fun E σ H ⟨Hk, ls, ρ, M, r, w, en, hm, q⟩ => by
  unfold sFldPut at hm
  split at hm
  · rename_i d M1 h1
    split at hm
    · rename_i s M2 h2
      split at hm
      · rename_i M3 h3
        cases hm
        refine ⟨Hk, ls, ρ, M, _, M1, w, en, h1, fun y Hk1 H1 w1 x1 r1 => ?_⟩
        refine ⟨Hk1, ls, ρ, M1, s, M2, w1, en.mono x1.kk, h2, fun x Hk2 H2 w2 x2 r2 => ?_⟩
        obtain ⟨a, dx, fs, rfl, hH, hz, w3, x3⟩ := putFld_ok w2 r2 (Rp.mono x2.kk r1) h3
        exact ⟨a, C, dx, fs, rfl, hH, c, n, hz, q _ Hk2 _ ls w3 ((x1.trans x2).trans x3).s (en.mono (x1.trans x2).kk)⟩
      · cases hm
    · cases hm
  · cases hm

/-! ### several targets o.f, o.g, .. = a tuple -/
def gFld (K : PySem.W.Frag) (to : TE) (f : Str) : TG := fun v σ H Q => to σ H fun x H1 => ∃ a C dx fs, x = .ref a ∧ H1 a = some (.ins C dx fs) ∧ Cls K C ∧ NoAttr K C f ∧ fs.length < 1000 ∧ Q σ (upd H1 a (.ins C dx (putF f v fs)))
theorem pg_fld {to : TE} (ho : PE X o to) (ha : ∀ v, assign (.Attribute o f pos) X.env v = (do
      let ov ← holding [v] (eval o X.env)
      standAt pos.atName
      holding [v, ov] (setAttr ov f v)
      release [v, ov] []) := by intro _; rfl) : PG X (.Attribute o f pos) (gFld X.K to f) := by
  refine ⟨fun pins s σ H v u Q I r h => ?_⟩
  rw [ha]
  refine wpAny_bind (wpAny_holding (thn (ho.run pins s σ H _ I h) fun ov s1 ⟨x, H1, I1, r1, a, C, dx, fs, ex, ea, c, n, l, q⟩ => ?_))
  subst ex
  obtain rfl : ov = Value.ref a := r1
  refine wpAny_bind (wpAny_standAt (wpAny_bind (wpAny_holding (setattr_ok I1 ea c n l r fun s3 I3 => ?_))))
  exact wpAny_release ⟨σ, _, I3, q⟩
def FsM := List D → Env → MS → Option MS
def tFs (K : PySem.W.Frag) (g : FsM) : TGs := fun vs σ H Q => ∃ Hk ls ρ M ds M', World K Hk H M ls ∧ EnvR K Hk ls σ ρ ∧ RpA K Hk vs ds ∧ g ds ρ M = some M' ∧ ∀ Hk' H', World K Hk' H' M' ls → Ext ls Hk H Hk' H' → Q σ H'
def fsNil : FsM := fun ds _ M => match ds with
  | [] => some M
  | _ => none
def fsCons (C : Addr) (f : Str) (mo : EM R) (g : FsM) : FsM := fun ds ρ M => match ds with
  | d :: ds => match fz mo ρ M with
    | some (s, M1) => match putFld C f M1 s d with
      | some M2 => g ds ρ M2
      | none => none
    | none => none
  | [] => none
theorem pfs_nil : PGs X [] (tFs X.K fsNil) := PGs.imp pgs_nil fun vs σ H Q ⟨Hk, ls, ρ, M, ds, M', w, en, ra, hm, q⟩ => by
  unfold fsNil at hm
  split at hm
  · cases hm
    cases ra
    exact ⟨rfl, q Hk H w (Ext.refl _ _ _)⟩
  · cases hm
theorem pfs_cons {es : List Expr} {g : FsM} (c : Cls X.K C) (n : NoAttr X.K C f) (ho : PM X o mo) (hs : PGs X es (tFs X.K g)) (ha : ∀ v, assign (.Attribute o f pos) X.env v = (do
      let ov ← holding [v] (eval o X.env)
      standAt pos.atName
      holding [v, ov] (setAttr ov f v)
      release [v, ov] []) := by intro _; rfl) (h2 : (assignEach (.Attribute o f pos :: es) X.env).map (·.2) = assign (.Attribute o f pos) X.env :: (assignEach es X.env).map (·.2) := by rfl) : PGs X (.Attribute o f pos :: es) (tFs X.K (fsCons C f mo g)) :=
  PGs.imp (pgs_cons (pg_fld (PM.v ho) ha) hs h2) fun vs σ H Q ⟨Hk, ls, ρ, M, ds, M', w, en, ra, hm, q⟩ => by
  unfold fsCons at hm
  split at hm
  · rename_i d ds
    split at hm
    · rename_i s M1 h1
      split at hm
      · rename_i M2 h3
        cases ra with
        | cons rv rt =>
          refine ⟨_, _, rfl, Hk, ls, ρ, M, s, M1, w, en, h1, fun x Hk1 H1 w1 x1 r1 => ?_⟩
          obtain ⟨a, dx, fs, rfl, hH, hz, w3, x3⟩ := putFld_ok w1 r1 (Rp.mono x1.kk rv) h3
          exact ⟨a, C, dx, fs, rfl, hH, c, n, hz, Hk1, ls, ρ, M2, ds, M', w3, en.mono x1.kk, RpA.mono x1.kk rt, hm, fun Hk' H' w' x' => q Hk' H' w' ((x1.trans x3).trans x')⟩
      · cases hm
    · cases hm
  · cases hm
def sFlds (g : FsM) (n : Nat) (me : EM R) : SM := fun ρ M => match fz me ρ M with
  | some (.dt (.tup ds), M1) => if ds.length = n then (match g ds ρ M1 with
    | some M2 => some (.nx ρ M2)
    | none => none) else none
  | _ => none
theorem psm_flds {es : List Expr} {g : FsM} {n kk : Nat} {tpos : Pos} (hc : X.calm = true) (he : PM X e me) (hg : PGs X es (tFs X.K g)) (hs : swapsWithSole [.Tuple es kk tpos] e pos.line X.env = pure false := by rfl) (hw : swappedStores [.Tuple es kk tpos] e X.env = pure none := by rfl)
    (h1 : (assignEach [.Tuple es kk tpos] X.env).map (·.2) = [assign (.Tuple es kk tpos) X.env] := by rfl) (hn : (assignEach es X.env).length = n := by rfl) (hst : (assignEach es X.env).findIdx? (·.1) = none := by rfl) : PSm X (.Assign [.Tuple es kk tpos] e pos) (sFlds g n me) :=
  PS.imp (ps_asg (PM.v he) (pg_tup hc hg hn hst) hs hw h1) fun E σ H ⟨Hk, ls, ρ, M, r, w, en, hm, q⟩ => by
  unfold sFlds at hm
  split at hm
  · rename_i ds M1 h1
    split at hm
    · rename_i hlen
      split at hm
      · rename_i M2 h2
        cases hm
        refine ⟨Hk, ls, ρ, M, _, M1, w, en, h1, fun v Hk1 H1 w1 x1 r1 => ?_⟩
        cases r1 with
        | tup hq ra =>
          exact ⟨_, _, rfl, same_t w1.sub hq, by rw [ra.length]; exact hlen, Hk1, ls, ρ, M1, ds, M2, w1, en.mono x1.kk, ra, h2, fun Hk' H' w' x' => q _ Hk' H' ls w' (x1.trans x').s (en.mono (x1.trans x').kk)⟩
      · cases hm
    · cases hm
  · cases hm
end

/-! ### o.m(..) -/
section
variable {X : Cx} {CX : CXT} {k : Nat} {f C : Addr} {fd : FuncData} {ps : List Str} {sp : Sp} {dvs : List V} {ds : List Value} {E : XK} {x m : Str} {p pos apos : Pos} {e o : Expr} {es : List Expr} {ta : TE} {t : TA}
theorem pe_methG {pl : Sem Bool} (he : PE X o ta) (c : Cls X.K C) (hm : Meth X.K C m f) (F : FnG X.prog X.w X.K X.mg X.base CX k f fd ps sp) (hgd : X.A.guards = some []) (hr : Room k X.A) (hb : Binds X.K fd ps ds) (hd : Vals dvs ds) (hx : Passes CX X E) (ha : PA X (e :: es) t)
    (hst : starEach (e :: es) X.env = (false, eval e X.env) :: starEach es X.env := by rfl) (hpl : (backTo pos (starEach es X.env)).any (·.1) = false := by rfl)
    (ht : eval (.Call (.Attribute o m apos) (e :: es) [] pos) X.env = (do
      let ov ← eval o X.env
      standAt apos.atName
      let (f, first) ← holding [ov] (getMethod ov m pl)
      callWith pos f first (backTo pos (starEach (e :: es) X.env)) (backToKw pos (keywordEach [] X.env))) := by rfl) :
    PE X (.Call (.Attribute o m apos) (e :: es) [] pos) (tMeth C m sp dvs E ta t) := by
  constructor
  intro pins s σ H Q I h
  refine PySem.W.methodCall_KW (pl := pl) (thn (he.run pins s σ H _ I h) fun u s1 ⟨x, H1, I1, rx, a, dx, fs, ex, ea, l, q⟩ => ?_) ht
  cases ex
  cases (show u = Value.ref a from rx)
  refine getmeth_ok I1 ea c hm l ?_
  refine PySem.W.callWith_K (first := [.ref a]) (h₀ := X.base) I.ok.mod.kin hm.kp (thn (ha.run pos pins s1 σ H1 _ I1 q) fun us s2 ⟨vs, H2, I2, r, q2⟩ => ⟨I2.kIn, ?_⟩) hst hpl
  exact run_fng (us := .ref a :: us) (vs := .ref a :: vs) F hgd hr hb hd hx I2 (.cons rfl r) q2
theorem pe_methG0 {pl : Sem Bool} (he : PE X o ta) (c : Cls X.K C) (hm : Meth X.K C m f) (F : FnG X.prog X.w X.K X.mg X.base CX k f fd ps sp) (hgd : X.A.guards = some []) (hr : Room k X.A) (hb : Binds X.K fd ps ds) (hd : Vals dvs ds) (hx : Passes CX X E)
    (ht : eval (.Call (.Attribute o m apos) [] [] pos) X.env = (do
      let ov ← eval o X.env
      standAt apos.atName
      let (f, first) ← holding [ov] (getMethod ov m pl)
      callWith pos f first (backTo pos (starEach [] X.env)) (backToKw pos (keywordEach [] X.env))) := by rfl) :
    PE X (.Call (.Attribute o m apos) [] [] pos) (tMeth C m sp dvs E ta tNil) := by
  constructor
  intro pins s σ H Q I h
  refine PySem.W.methodCall_KW (pl := pl) (thn (he.run pins s σ H _ I h) fun u s1 ⟨x, H1, I1, rx, a, dx, fs, ex, ea, l, q⟩ => ?_) ht
  cases ex
  cases (show u = Value.ref a from rx)
  refine getmeth_ok I1 ea c hm l ?_
  exact PySem.W.callWith_K0 (first := [.ref a]) I1.kIn hm.kp (run_fng (us := [.ref a]) (vs := [.ref a]) F hgd hr hb hd hx I1 (.cons rfl .nil) q)
def eMeth (C : Addr) (m : Str) (g : Fn) (mo : EM R) (ms : EM (List SV)) : EM R := (fz mo).seq fun s => fun ρ M => match muI M s with
  | some (_, C', ns, _) => if C' = C ∧ ns.contains m = false then ms.seq (fun ss => fun _ M' => g (s :: ss) M') ρ M else none
  | none => none
theorem emeth_go {n : Nat} {g : Fn} {mo : EM R} {ms : EM (List SV)} {E : XK} (hn : ∀ ρ M ss M', ms ρ M = some (ss, M') → ss.length + 1 = n) : ∀ σ H Q, tM X.K (eMeth C m g mo ms) σ H Q → tMeth C m (spM X.K n g) [] E (tV X.K (fz mo)) (tA X.K ms) σ H Q := fun σ H Q ⟨Hk, ls, ρ, M, z, M', w, en, hm, q⟩ => by
  obtain ⟨s, M1, h1, h2⟩ := seq_some hm
  refine ⟨Hk, ls, ρ, M, s, M1, w, en, h1, fun v Hk1 H1 w1 x1 r1 => ?_⟩
  split at h2
  · rename_i k C' ns ds hi
    split at h2
    · rename_i hC
      obtain ⟨hC, hno⟩ := hC
      subst hC
      obtain ⟨l, dx, fs, rfl, hl, hM, hH, hns, hr⟩ := muI_ok w1 r1 hi
      subst hns
      obtain ⟨ss, M2, h3, h4⟩ := seq_some h2
      refine ⟨l, dx, fs, rfl, hH, lookup_nope hno, Hk1, ls, ρ, M1, ss, M2, w1, en.mono x1.kk, h3, fun vs Hk2 H2 w2 x2 r2 => ?_⟩
      show spM X.K n g (V.ref l :: (vs ++ [])) H2 Q E
      rw [List.append_nil]
      exact ⟨Hk2, ls, M2, s :: ss, z, M', w2, .cons (r1.mono x2.kk) r2, hn ρ M1 ss M2 h3, h4, q.back (x1.trans x2)⟩
    · cases h2
  · cases h2
theorem emeth0_go {g : Fn} {mo : EM R} {E : XK} : ∀ σ H Q, tM X.K (eMeth C m g mo eNil) σ H Q → tMeth C m (spM X.K 1 g) [] E (tV X.K (fz mo)) tNil σ H Q := fun σ H Q ⟨Hk, ls, ρ, M, z, M', w, en, hm, q⟩ => by
  obtain ⟨s, M1, h1, h2⟩ := seq_some hm
  refine ⟨Hk, ls, ρ, M, s, M1, w, en, h1, fun v Hk1 H1 w1 x1 r1 => ?_⟩
  split at h2
  · rename_i k C' ns ds hi
    split at h2
    · rename_i hC
      obtain ⟨hC, hno⟩ := hC
      subst hC
      obtain ⟨l, dx, fs, rfl, hl, hM, hH, hns, hr⟩ := muI_ok w1 r1 hi
      subst hns
      obtain ⟨ss, M2, h3, h4⟩ := seq_some h2
      cases h3
      exact ⟨l, dx, fs, rfl, hH, lookup_nope hno, Hk1, ls, M1, [s], z, M', w1, .cons r1 .nil, rfl, h4, q.back x1⟩
    · cases h2
  · cases h2
/-- a method by its mirror, where it stands -/
structure MethOk (P : Program) (w : PySem.World) (K : PySem.W.Frag) (mg : Str → Option Value) (base : Heap) (k : Nat) (C : Addr) (m : Str) (f : Addr) (fd : FuncData) (ps : List Str) (g : Fn) : Prop where
  cl : Cls K C
  mt : Meth K C m f
  bd : Binds K fd ps []
  ok : FnG P w K mg base CX0 k f fd ps (spM K ps.length g)
theorem pm_meth {g : Fn} {mo : EM R} {ms : EM (List SV)} {pl : Sem Bool} (F : MethOk X.prog X.w X.K X.mg X.base k C m f fd ps g) (hgd : X.A.guards = some []) (hr : Room k X.A) (ho : PM X o mo) (ha : PAm X (e :: es) ms) (hn : ∀ ρ M ss M', ms ρ M = some (ss, M') → ss.length + 1 = ps.length)
    (hst : starEach (e :: es) X.env = (false, eval e X.env) :: starEach es X.env := by rfl) (hpl : (backTo pos (starEach es X.env)).any (·.1) = false := by rfl)
    (ht : eval (.Call (.Attribute o m apos) (e :: es) [] pos) X.env = (do
      let ov ← eval o X.env
      standAt apos.atName
      let (f, first) ← holding [ov] (getMethod ov m pl)
      callWith pos f first (backTo pos (starEach (e :: es) X.env)) (backToKw pos (keywordEach [] X.env))) := by rfl) :
    PM X (.Call (.Attribute o m apos) (e :: es) [] pos) (eMeth C m g mo ms) := PE.imp (pe_methG (pl := pl) (PM.v ho) F.cl F.mt F.ok hgd hr F.bd .nil pass0 ha hst hpl ht) (emeth_go hn)
theorem pm_meth0 {g : Fn} {mo : EM R} {pl : Sem Bool} (F : MethOk X.prog X.w X.K X.mg X.base k C m f fd ps g) (h1 : ps.length = 1) (hgd : X.A.guards = some []) (hr : Room k X.A) (ho : PM X o mo)
    (ht : eval (.Call (.Attribute o m apos) [] [] pos) X.env = (do
      let ov ← eval o X.env
      standAt apos.atName
      let (f, first) ← holding [ov] (getMethod ov m pl)
      callWith pos f first (backTo pos (starEach [] X.env)) (backToKw pos (keywordEach [] X.env))) := by rfl) :
    PM X (.Call (.Attribute o m apos) [] [] pos) (eMeth C m g mo eNil) := by
  have G := F.ok
  rw [h1] at G
  exact PE.imp (pe_methG0 (pl := pl) (PM.v ho) F.cl F.mt G hgd hr F.bd .nil pass0 ht) emeth0_go

/-! ### C(..) -/
theorem under_guards {A : Around} {C : Addr} {us : List Value} (h : A.guards = some []) : (A.under (.builtin "type.__call__" ⟨.ref C :: us, []⟩)).guards = some [] := by
  show pushGuards (Code.guards (.builtin "type.__call__" ⟨.ref C :: us, []⟩)) A.guards = some []
  have e : Code.guards (.builtin "type.__call__" ⟨.ref C :: us, []⟩) = [] := by
    unfold Code.guards
    rw [if_neg]
    show ¬ (Code.isGuard (.builtin "type.__call__" ⟨.ref C :: us, []⟩) = true)
    have : Code.isGuard (.builtin "type.__call__" ⟨.ref C :: us, []⟩) = false := by
      kernel_rfl
    rw [this]
    exact Bool.false_ne_true
  rw [e]
  exact h
theorem run_makeG {pins : List (Addr × Obj)} {σ : L2.St} {H : Hp} {s : Shared} {Q : VK} {us : List Value} {vs : List V} (M : Mk X.K C f) (F : FnG X.prog X.w X.K X.mg X.base CX k f fd ps sp) (hgd : X.A.guards = some []) (hr : Room (k + 1) X.A) (hb : Binds X.K fd ps ds) (hd : Vals dvs ds)
    (hx : Passes CX X E) (I : Inv X pins σ H s) (r : Vals vs us)
    (h : ∀ x dx, H x = none → H dx = none → dx ≠ x → sp (.ref x :: (vs ++ dvs)) (upd (upd H dx (.own x)) x (.ins C dx [])) (fun v H2 => v = .non ∧ Q (.ref x) H2) E) :
    wpAny (model X.prog X.w) X.A (call (.ref C) us) (EP X pins σ Q) X.xe s := by
  have hq := h (s.heap.objs.size + 1) s.heap.objs.size (I.hok.fresh (Nat.le_succ _)) (I.hok.fresh (Nat.le_refl _)) (Nat.ne_of_lt (Nat.lt_succ_self _))
  have I2 := Inv.made (C := C) I
  have r2 : Vals (V.ref (s.heap.objs.size + 1) :: (vs ++ dvs)) (Value.ref (s.heap.objs.size + 1) :: (us ++ ds)) := .cons rfl (r.append hd)
  have hl : (Value.ref (s.heap.objs.size + 1) :: us ++ ds).length = ps.length := r2.length.symm.trans (F.ln _ _ _ _ hq)
  refine wpAny_call (make_map (f := f) I.kIn M.makes M.init (beq_iff_eq.mp M.fn) (codeAny_mono (F.go _ X.stack _ _ ⟨Value.ref (s.heap.objs.size + 1) :: us, []⟩ (Value.ref (s.heap.objs.size + 1) :: (us ++ ds)) _ _ E (under_guards hgd) (hr.make C us [])
    (I2.env0.make C us []) (hb _ (Value.ref (s.heap.objs.size + 1) :: us) I2.kIn hl) r2 hq) ?_))
  rintro (e | (_ | _ | _ | u)) s' hq'
  · exact hx pins σ _ _ e s' I2 hq'
  · exact hq'.elim
  · exact hq'.elim
  · exact hq'.elim
  · obtain ⟨v, H', I3, rv, ev, q3⟩ := I2.after hq'
    cases ev
    exact ⟨rv, ⟨V.ref (s.heap.objs.size + 1), H', I3, rfl, q3⟩⟩
theorem pe_makeG (M : Mk X.K C f) (F : FnG X.prog X.w X.K X.mg X.base CX k f fd ps sp) (hgd : X.A.guards = some []) (hr : Room (k + 1) X.A) (hg : Gl X x) (hm : X.mg x = some (.ref C)) (hb : Binds X.K fd ps ds) (hd : Vals dvs ds) (hx : Passes CX X E)
    (ha : PA X (e :: es) t) (hdb : (x == ("__debug__" : Str)) = false := by decide) (he : starEach (e :: es) X.env = (false, eval e X.env) :: starEach es X.env := by rfl) (hpl : (backTo pos (starEach es X.env)).any (·.1) = false := by rfl) :
    PE X (.Call (.Name x p) (e :: es) [] pos) (tMake C sp dvs E t) := by
  constructor
  intro pins s σ H Q I h
  refine wpAny_Call_Name_kw (ld_glob I hg hm (PySem.W.callWith_K (h₀ := X.base) I.ok.mod.kin M.kp ?_ he hpl) hdb)
  exact thn (ha.run pos pins s σ H _ I h) fun us s1 ⟨vs, H1, I1, r, q⟩ => ⟨I1.kIn, run_makeG M F hgd hr hb hd hx I1 r q⟩
/-- C(..), its instance a closed thing -/
def eMake (C : Addr) (g : Fn) (ms : EM (List SV)) : EM R := ms.seq fun ss => fun _ M => match g (.mu M.length :: ss) (M ++ [.i C [] []]) with
  | some (.sv (.dt .non), M') => match M'[M.length]? with
    | some (.i C' _ _) => if C' = C then some (.sv (.dt (.obj C)), M'.take M.length) else none
    | _ => none
  | _ => none
theorem emake_go {n : Nat} {g : Fn} {ms : EM (List SV)} {E : XK} (O : ObjC X.K C) (hn : ∀ ρ M ss M', ms ρ M = some (ss, M') → ss.length + 1 = n) : ∀ σ H Q, tM X.K (eMake C g ms) σ H Q → tMake C (spM X.K n g) [] E (tA X.K ms) σ H Q := fun σ H Q ⟨Hk, ls, ρ, M, z, M', w, en, hm, q⟩ => by
  obtain ⟨ss, M1, h1, h2⟩ := seq_some hm
  refine ⟨Hk, ls, ρ, M, ss, M1, w, en, h1, fun vs Hk1 H1 w1 x1 r1 => ?_⟩
  intro x dx hx hdx hne
  rw [List.append_nil]
  split at h2
  · rename_i M2 hg
    split at h2
    · rename_i C' ns ds hM2
      split at h2
      · rename_i hC
        subst hC
        cases h2
        have fx := w1.fresh hx
        have wA : World X.K Hk1 (upd (upd H1 dx (.own x)) x (.ins C' dx [])) M1 ls := (w1.upd_new hdx).upd_new (by rw [upd_ne (Ne.symm hne)]; exact hx)
        have wB := wA.push (l := x) (o := .i C' [] []) fx.2 fx.1 ⟨dx, [], upd_same, rfl, .nil⟩
        have old : ∀ a, H1 a ≠ none → a ≠ x ∧ a ≠ dx := fun a h => ⟨fun z => h (z ▸ hx), fun z => h (z ▸ hdx)⟩
        refine ⟨Hk1, ls ++ [x], M1 ++ [.i C' [] []], .mu M1.length :: ss, _, M2, wB, .cons ⟨by rw [w1.len]; simp, x, by rw [w1.len, List.getElem?_append_right (Nat.le_refl _)]; simp, rfl⟩ ((SVs.more r1).up (by simp)), hn ρ M ss M1 h1, hg, ?_⟩
        intro v Hk2 H2 w2 x2 r2
        refine ⟨by cases (show Rp X.K Hk2 v .non from r2); rfl, ?_⟩
        have hlen : M1.length = ls.length := w1.len
        rw [hlen] at hM2
        obtain ⟨l, hl, dx', fs, hH, _, _⟩ := w2.ms _ _ hM2
        rw [List.getElem?_append_right (Nat.le_refl _)] at hl
        have el : x = l := by simpa using hl
        subst el
        have w3 := w2.cut
        have hk2 : Hk2 x = none := w2.dj x (List.mem_append_right _ (List.mem_singleton.mpr rfl))
        have x3 : Ext ls Hk1 H1 Hk2 H2 := by
          refine ⟨x2.kk, fun a o h hn => ?_, fun a h => ?_, fun a h => ?_⟩
          · obtain ⟨n1, n2⟩ := old a (by rw [h]; simp)
            refine x2.fr a o (by rw [upd_ne n1, upd_ne n2]; exact h) fun z => ?_
            rcases List.mem_append.mp z with z | z
            · exact hn z
            · exact n1 (List.mem_singleton.mp z)
          · rcases x2.gr a h with h | h
            · exact .inl h
            · right
              cases e : H1 a with
              | none => rfl
              | some o =>
                obtain ⟨n1, n2⟩ := old a (by rw [e]; simp)
                rw [upd_ne n1, upd_ne n2, e] at h
                cases h
          · obtain ⟨n1, n2⟩ := old a h
            exact x2.st a (by rw [upd_ne n1, upd_ne n2]; exact h)
        rw [hlen] at q
        refine q (.ref x) (upd Hk2 x (.ins C' dx' fs)) H2 (w3.freeze fx.2 hH hk2) (x1.trans (x3.freeze hx hk2)) ?_
        exact Rp.obj upd_same O
      · cases h2
    · cases h2
  · cases h2
/-- a class that is made by its __init__'s mirror -/
structure MakeOk (P : Program) (w : PySem.World) (K : PySem.W.Frag) (mg : Str → Option Value) (base : Heap) (k : Nat) (x : Str) (C f : Addr) (fd : FuncData) (ps : List Str) (g : Fn) : Prop where
  gl : mg x = some (.ref C)
  ob : ObjC K C
  mr : Mk K C f
  bd : Binds K fd ps []
  ok : FnG P w K mg base CX0 k f fd ps (spM K ps.length g)
theorem pm_make {g : Fn} {ms : EM (List SV)} (F : MakeOk X.prog X.w X.K X.mg X.base k x C f fd ps g) (hgd : X.A.guards = some []) (hr : Room (k + 1) X.A) (ha : PAm X (e :: es) ms) (hn : ∀ ρ M ss M', ms ρ M = some (ss, M') → ss.length + 1 = ps.length)
    (hg : Gl X x := by rfl) (hdb : (x == ("__debug__" : Str)) = false := by decide) (he : starEach (e :: es) X.env = (false, eval e X.env) :: starEach es X.env := by rfl) (hpl : (backTo pos (starEach es X.env)).any (·.1) = false := by rfl) :
    PM X (.Call (.Name x p) (e :: es) [] pos) (eMake C g ms) := PE.imp (pe_makeG F.mr F.ok hgd hr hg F.gl F.bd .nil pass0 ha hdb he hpl) (emake_go F.ob hn)
end
end Dy

set_option Elab.async false
set_option linter.all false
set_option maxRecDepth 100000
set_option maxHeartbeats 4000000
/-! Layer Dy, part 14: calls and loops over empty things, dict(pairs). -/
namespace Dy
open PySem L2 PySem.Spec PyProof.Rows

/-! ### max([], default = d) -/
theorem args_maxD (a d : Value) : argsOk "max" ⟨[a], [(Str.ofString "default", d)]⟩ := by unfold argsOk; kernel_rfl
theorem call_kw_tree {prog : Program} {w : PySem.World} {A : Around} {E : Value → Shared → Prop} {s : Shared} {id : String} {b : Builtin} {args : List Value} {kw : List (Str × Value)} {Q : Value → Shared → Prop} (hk : builtinKind id = none) (hp : plainId id = true)
    (hb : entryFor table id = some b) (ha : argsOk id ⟨args, kw⟩)
    (hc : wpAny (model prog w) A.in1 (b ⟨args, kw⟩) (fun fin s' => match fin with
      | .done f => (match (Except.ok f : Result) with | .ok (.ret v) => Q v s' | .ok _ => False | .error e => E e s')
      | .again c' => c'.quiet = true ∧ codeAny (model prog w) A c' (fun r s' => match r with | .ok (.ret v) => Q v s' | .ok _ => False | .error e => E e s') s') E s) :
    wpAny (model prog w) A (call (.builtin id) args kw) Q E s := by
  refine wpAny_call (codeAny_call_builtin hp hb ?_)
  simp only [checkBuiltinCall, hk]
  cases hsig : Manifest.signature? id with
  | none => exact wpAny_pure hc
  | some sig =>
    simp only [argsOk, hsig] at ha
    have h2 : Bind.checkArgs id sig ⟨args, kw⟩ = pure () := ha
    show wpAny _ A.in1 (Bind.checkArgs id sig ⟨args, kw⟩) _ _ s
    rw [h2]
    exact wpAny_pure hc
theorem max_default0 {prog : Program} {w : PySem.World} {A : Around} {E : Value → Shared → Prop} {s : Shared} {l : Addr} {d : Value} {Q : Value → Shared → Prop} (hh : A.handled = none) (hl : s.heap.IsList l #[])
    (h : ∀ h' tk, (∀ b o, s.heap.get? b = some o → h'.get? b = some o) → Q d { s with heap := h', toks := tk }) : wpAny (model prog w) A (call (.builtin "max") [.ref l] [(Str.ofString "default", d)]) Q E s := by
  have hname : (toString "max" ++ toString ".loop" : String) = "max.loop" := by decide
  have e0 : intItems #[] = #[] := by simp [intItems]
  have hl2 : s.heap.IsList l (intItems #[]) := by rw [e0]; exact hl
  refine call_kw_tree F.kind_max F.plain_max F.entry_max (args_maxD _ _) ?_
  show wpAny _ A.in1 (Builtin.Builtins.bindParams "max" ["key", "default"] 0 ⟨[], [(Str.ofString "default", d)]⟩ >>= _) _ _ s
  refine wpAny_bind (wpAny_of_eq (show Builtin.Builtins.bindParams "max" ["key", "default"] 0 ⟨[], [(Str.ofString "default", d)]⟩ = pure [none, some d] from rfl) ?_)
  refine wpAny_bind (wpAny_pure ?_)
  refine wpAny_bind (iter_intList hl2 fun s₂ e st hfp hlI => ?_)
  subst e
  rw [e0] at st
  have W := Walks.list (prog := prog) (w := w) (A := A.in1) hh _ l hlI #[]
  refine wpAny_bind (wpAny_newObj_type ?_)
  rw [hname]
  refine wpAny_pure ⟨plainId_quiet F.plain_max_loop _, ?_⟩
  refine codeAny_builtin F.entry_max_loop ?_
  rw [Around.under_plainId F.plain_max_loop _]
  show wpAny _ A.in1 (seqItems? (.ref _) >>= _) _ _ _
  refine wpAny_bind (wpAny_seqItems (Heap.get?_push_size _ rfl) rfl ?_)
  show wpAny _ A.in1 (tryCatch (pyNext (.ref _)) _ >>= _) _ _ _
  refine wpAny_bind (wpAny_tryCatch (W.done _ _ _ (W.frame _ _ _ st fun b _ o e => Heap.get?_push_of_some _ e) fun h' tk hk' => ?_))
  show wpAny _ A.in1 (rule _ >>= _) _ _ _
  refine wpAny_bind (wpAny_rule ?_)
  refine wpAny_pure (h h' tk fun b o e => ?_)
  refine hk' b o (fun z => ?_) (Heap.get?_push_of_some _ (Heap.get?_push_of_some _ e))
  have hb : b = s.heap.objs.size := by simpa using z
  exact absurd hb (Nat.ne_of_lt (Heap.lt_size e))

/-! ### mirrors -/
section
variable {X : Cx} {e e2 tg : Expr} {es : List Expr} {ms : EM (List SV)} {me : EM R} {p p2 q pos kpos : Pos} {st : Stmt}
/-- len(set(e)), no text or one -/
def lenSetS (M : MS) (s : SV) : Option D := match itemsD M s with
  | some ds => match dStrs ds with
    | some ys => if ys.length ≤ 1 then some (.int ys.length) else none
    | none => none
  | none => none
def eLenSet (m : EM R) : EM R := (fz m).seq fun s => fun _ M => match lenSetS M s with
  | some d => some (.sv (.dt d), M)
  | none => none
theorem pm_lenSet (B : Blt X.mg) (hc : X.calm = true) (h : PM X e me) (hg : Gl X "len" := by rfl) (hg2 : Gl X "set" := by rfl) (na : starEach [e] X.env = (false, eval e X.env) :: starEach [] X.env := by rfl) : PM X (.Call (.Name "len" p) [.Call (.Name "set" p2) [e] [] q] [] pos) (eLenSet me) :=
  PE.imp (pe_lenSet hc hg (B _ (by decide +kernel)) hg2 (B _ (by decide +kernel)) (PM.v h) na) fun σ H Q ⟨Hk, ls, ρ, M, r, M', w, en, hm, q⟩ => by
  obtain ⟨s, M1, h1, h2⟩ := seq_some hm
  refine ⟨Hk, ls, ρ, M, s, M1, w, en, h1, fun v Hk1 H1 w1 x1 r1 => ?_⟩
  split at h2
  · rename_i d hd
    cases h2
    unfold lenSetS at hd
    split at hd
    · rename_i ds hds
      split at hd
      · rename_i ys hy
        split at hd
        · rename_i hz
          cases hd
          obtain ⟨b, ws, rfl, hb, ra⟩ := itemsD_ok w1 r1 hds
          have := dStrs_ok ra hy
          subst this
          exact ⟨b, ys, rfl, hb, hz, q _ Hk1 H1 w1 x1 (Rp.int _)⟩
        · cases hd
      · cases hd
    · cases hd
  · cases h2
/-- sorted(e), nothing in it -/
def sorted0S (M : MS) (s : SV) : Option R := match listD M s with
  | some [] => some (.fr [])
  | some _ => none
  | none => match s with
    | .dt (.dct [] []) => some (.fr [])
    | _ => none
def rSorted0 (K : PySem.W.Frag) : List V → Hp → VK → Prop := fun vs H Q => ∃ a, vs = [.ref a] ∧ (H a = some (.lst []) ∨ Rd H a (.dK [])) ∧ ∀ p, H p = none → Q (.ref p) (upd H p (.lst []))
theorem cr_sorted0 (hc : X.calm = true) : CallR X (.builtin "sorted") (rSorted0 X.K) := by
  intro pins s σ H vs us Q I r h
  obtain ⟨a, rfl, hs | hs, q⟩ := h
  · refine cr_sortedS pins s σ H _ us Q I r ⟨a, [], rfl, SqL.of hs, by decide, fun ys p hp _ hn => ?_⟩
    cases List.perm_nil.mp hp
    exact q p hn
  · refine call_sortedD hc pins s σ H _ us Q I r ⟨a, [], [], rfl, hs, rfl, by decide, fun ys p hp _ hn => ?_⟩
    cases List.perm_nil.mp hp
    exact q p hn
theorem calld_sorted0 {K : PySem.W.Frag} : CallD K (rSorted0 K) (g1 sorted0S) := CallD.one fun Hk H M ls v s z Q w r e q => by
  unfold sorted0S at e
  split at e
  · rename_i hd
    cases e
    obtain ⟨a, vs, rfl, hq, ra⟩ := listD_ok w r hd
    cases ra
    exact ⟨a, rfl, .inl hq, fun p hp => q.newL w hp .nil⟩
  · cases e
  · split at e
    · cases e
      cases r with
      | dct h hk hx ha =>
        rename_i a kvs xs
        have : kvs = [] := List.map_eq_nil_iff.mp hk
        subst this
        exact ⟨_, rfl, .inr (.inl (w.sub _ _ h)), fun p hp => q.newL w hp .nil⟩
    · cases e
theorem pm_sorted0 (B : Blt X.mg) (hc : X.calm = true) (ha : PAm X [e] ms) (hg : Gl X "sorted" := by rfl) (he : starEach (e :: []) X.env = (false, eval e X.env) :: starEach [] X.env := by rfl) : PM X (.Call (.Name "sorted" p) [e] [] pos) (eCall (g1 sorted0S) ms) := pm_callB (cr_sorted0 hc) calld_sorted0 hg (B _ (by decide +kernel)) PyProof.Rows.boot_sorted ha (by decide) (by decide) he rfl
/-- max(e, default = d), nothing in e -/
def rMax0 : List V → List V → Hp → VK → Prop := fun vs zs H Q => ∃ a z, vs = [.ref a] ∧ zs = [z] ∧ H a = some (.lst []) ∧ Q z H
theorem cr_max0 (hc : X.calm = true) : CallRK X (.builtin "max") [Str.ofString "default"] rMax0 := by
  intro pins s σ H vs zs us ws Q I r rz h
  obtain ⟨a, z, rfl, rfl, hs, q⟩ := h
  obtain rfl := Vals.ref1 r
  obtain ⟨w1, rfl, e1⟩ := vals1 rz
  obtain ⟨its, rv, hl, _⟩ := I.list (SqL.of hs)
  cases rv
  exact max_default0 (I.ok.hd hc) hl.isList fun h' tk hk => ⟨z, H, I.kept hk, e1, q⟩
def eMax0 (me md : EM R) : EM R := (fz me).seq fun s => (fz md).seq fun t => fun _ M => match listD M s with
  | some [] => some (.sv t, M)
  | _ => none
theorem pm_max0 {md : EM R} {nm : Option Str} (B : Blt X.mg) (hc : X.calm = true) (h : PM X e me) (hd : PM X e2 md) (hg : Gl X "max" := by rfl)
    (he : backTo pos (starEach (e :: []) X.env) = (false, eval e X.env) :: backTo pos (starEach [] X.env) := by rfl) (hpl : (backTo pos (starEach (e :: []) X.env)).any (·.1) = false := by rfl) (hst : starEach (e :: []) X.env = (false, eval e X.env) :: starEach [] X.env := by rfl)
    (hall : (backToKw pos (keywordEach [⟨nm, e2, kpos⟩] X.env)).all (·.1.isSome) = true := by rfl) (hnone : (backToKw pos (keywordEach [⟨nm, e2, kpos⟩] X.env)).any (·.1.isNone) = false := by rfl) (hks : (backToKw pos (keywordEach [⟨nm, e2, kpos⟩] X.env)).filterMap (·.1) = [Str.ofString "default"] := by rfl) :
    PM X (.Call (.Name "max" p) [e] [⟨nm, e2, kpos⟩] pos) (eMax0 me md) :=
  PE.imp (pe_callBK (cr_max0 hc) hg (B _ (by decide +kernel)) PyProof.Rows.boot_max (pa_cons (PM.v h) pa_nil hst) (pk_cons (PM.v hd) pk_nil) (by decide) (by decide) he hpl hall hnone hks) fun σ H Q ⟨Hk, ls, ρ, M, r, M', w, en, hm, q⟩ => by
  obtain ⟨s, M1, h1, h2⟩ := seq_some hm
  obtain ⟨t, M2, h3, h4⟩ := seq_some h2
  refine ⟨Hk, ls, ρ, M, s, M1, w, en, h1, fun v Hk1 H1 w1 x1 r1 => ?_⟩
  refine ⟨Hk1, ls, ρ, M1, t, M2, w1, en.mono x1.kk, h3, fun u Hk2 H2 w2 x2 r2 => ?_⟩
  split at h4
  · rename_i hd
    cases h4
    obtain ⟨a, vs, rfl, hq, ra⟩ := listD_ok w2 (r1.mono x2.kk) hd
    cases ra
    exact ⟨a, u, rfl, rfl, hq, q u Hk2 H2 w2 (x1.trans x2) r2⟩
  · cases h4
/-! ### dict(pairs) -/
def swapD (k : Key) (d : D) : List Key → List D → List D
  | j :: ks, x :: xs => (if j = k then d else x) :: swapD k d ks xs
  | _, _ => []
def putKD (k : Key) (d : D) (ks : List Key) (vs : List D) : List Key × List D := if (ks.any fun j => decide (j = k)) = true then (ks, swapD k d ks vs) else (ks ++ [k], vs ++ [d])
theorem swapD_ok {K : PySem.W.Frag} {Hk : Hp} {k : Key} {v : V} {d : D} (rv : Rp K Hk v d) : ∀ {kvs : List (Key × V)} {ds : List D}, RpA K Hk (kvs.map (·.2)) ds → RpA K Hk ((kvs.map fun kv => if kv.1 = k then (kv.1, v) else kv).map (·.2)) (swapD k d (kvs.map (·.1)) ds)
  | [], _, r => by cases r; exact .nil
  | (j, u) :: kvs, _, .cons (d := x) (ds := xs) r t => by
    by_cases h : j = k
    · simp only [List.map_cons, swapD, if_pos h]
      exact .cons rv (swapD_ok rv t)
    · simp only [List.map_cons, swapD, if_neg h]
      exact .cons r (swapD_ok rv t)
theorem any_contains (k : Key) (kvs : List (Key × V)) : (kvs.any fun kv => decide (kv.1 = k)) = (kvs.map (·.1)).any (fun j => decide (j = k)) := by
  rw [List.any_map]
  rfl
theorem putKD_ok {K : PySem.W.Frag} {Hk : Hp} {k : Key} {v : V} {d : D} {kvs : List (Key × V)} {ds : List D} (rv : Rp K Hk v d) (r : RpA K Hk (kvs.map (·.2)) ds) :
    (putK kvs k v).map (·.1) = (putKD k d (kvs.map (·.1)) ds).1 ∧ RpA K Hk ((putK kvs k v).map (·.2)) (putKD k d (kvs.map (·.1)) ds).2 := by
  have e := any_contains k kvs
  unfold putK putKD
  rw [e]
  split
  · refine ⟨?_, swapD_ok rv r⟩
    rw [List.map_map]
    refine List.map_congr_left fun a _ => ?_
    show (if a.1 = k then (a.1, v) else a).1 = a.1
    split <;> rfl
  · rw [List.map_append, List.map_append]
    exact ⟨rfl, r.append (.cons rv .nil)⟩
def pairsD : List D → Option (List (Key × D))
  | [] => some []
  | .tup [a, b] :: r => match keyD (.dt a), pairsD r with
    | some k, some ps => some ((k, b) :: ps)
    | _, _ => none
  | _ => none
theorem pairsD_ok {K : PySem.W.Frag} {Hk H : Hp} (sub : Same Hk H) : ∀ {vs : List V} {ds : List D} {kds : List (Key × D)}, RpA K Hk vs ds → pairsD ds = some kds →
    ∃ (ps : List Addr) (kvs : List (Key × V)), vs = ps.map V.ref ∧ Paired (fun p kv => SqT K H p [kV kv.1, kv.2]) ps kvs ∧ kvs.map (·.1) = kds.map (·.1) ∧ RpA K Hk (kvs.map (·.2)) (kds.map (·.2))
  | _, _, _, .nil, e => by cases e; exact ⟨[], [], rfl, .nil, rfl, .nil⟩
  | _, _, _, .cons (d := d) (ds := ds) r t, e => by
    unfold pairsD at e
    split at e
    · cases ‹_ :: _ = []›
    · rename_i a b r' heq
      cases heq
      split at e
      · rename_i k ps hk hp
        cases e
        obtain ⟨qs, kvs, rfl, h1, h2, h3⟩ := pairsD_ok sub t hp
        cases r with
        | tup hq ra =>
          rename_i p xs
          cases ra with
          | cons ra1 ra2 =>
            cases ra2 with
            | cons ra2 ra3 =>
              cases ra3
              have ek := keyD_ok (K := K) (Hk := Hk) (ls := []) (n := 0) (s := .dt a) ra1 hk
              subst ek
              exact ⟨p :: qs, (k, _) :: kvs, rfl, .cons (same_t sub hq) h1, by rw [List.map_cons, h2]; rfl, .cons ra2 h3⟩
      · cases e
    · cases e
def mergeD (ks : List Key) (vs : List D) : List (Key × D) → List Key × List D
  | [] => (ks, vs)
  | (k, d) :: r => mergeD (putKD k d ks vs).1 (putKD k d ks vs).2 r
theorem mergeD_ok {K : PySem.W.Frag} {Hk : Hp} : ∀ {more : List (Key × V)} {kds : List (Key × D)} {kvs : List (Key × V)} {ds : List D}, more.map (·.1) = kds.map (·.1) → RpA K Hk (more.map (·.2)) (kds.map (·.2)) → RpA K Hk (kvs.map (·.2)) ds →
    (mergeK kvs more).map (·.1) = (mergeD (kvs.map (·.1)) ds kds).1 ∧ RpA K Hk ((mergeK kvs more).map (·.2)) (mergeD (kvs.map (·.1)) ds kds).2
  | [], [], _, _, _, _, r => ⟨rfl, r⟩
  | [], _ :: _, _, _, e, _, _ => by cases e
  | _ :: _, [], _, _, e, _, _ => by cases e
  | (k, v) :: more, (j, d) :: kds, kvs, ds, e, .cons r1 r2, r => by
    rw [List.map_cons, List.map_cons] at e
    injection e with e1 e2
    have e1' : k = j := e1
    subst e1'
    obtain ⟨h1, h2⟩ := putKD_ok (k := k) (v := v) (d := d) r1 r
    have ih := mergeD_ok (kvs := putK kvs k v) e2 r2 h2
    rw [h1] at ih
    exact ih
def dictPS (M : MS) (s : SV) : Option R := match listD M s with
  | some ds => match pairsD ds with
    | some kds => some (.fd (mergeD [] [] kds).1 (mergeD [] [] kds).2)
    | none => none
  | none => none
theorem calld_dictP {K : PySem.W.Frag} : CallD K (fun xs H Q => ∃ (a : Addr) (ps : List Addr) (kvs : List (Key × V)), xs = [.ref a] ∧ SqL K H a (ps.map V.ref) ∧ Paired (fun p kv => SqT K H p [kV kv.1, kv.2]) ps kvs ∧
    ∀ p, H p = none → Q (.ref p) (upd H p (.dK (mergeK [] kvs)))) (g1 dictPS) := CallD.one fun Hk H M ls v s z Q w r e q => by
  unfold dictPS at e
  split at e
  · rename_i ds hd
    split at e
    · rename_i kds hp
      cases e
      obtain ⟨a, vs, rfl, hq, ra⟩ := listD_ok w r hd
      obtain ⟨ps, kvs, rfl, h1, h2, h3⟩ := pairsD_ok w.sub ra hp
      obtain ⟨m1, m2⟩ := mergeD_ok (kvs := []) (ds := []) h2 h3 .nil
      exact ⟨a, ps, kvs, rfl, SqL.of hq, h1, fun p hp => q.newD w hp m1 m2⟩
    · cases e
  · cases e
theorem pm_dictP (B : Blt X.mg) (hc : X.calm = true) (ha : PAm X [e] ms) (hg : Gl X "dict" := by rfl) (he : starEach (e :: []) X.env = (false, eval e X.env) :: starEach [] X.env := by rfl) : PM X (.Call (.Name "dict" p) [e] [] pos) (eCall (g1 dictPS) ms) := pm_callTy (call_dictP hc) calld_dictP hg (B _ (by decide +kernel)) PyProof.Rows.boot_dict ha (by decide) (by decide) he rfl
end
/-! ### loops over nothing -/
section
variable {X : Cx} {e tg : Expr} {pos apos cpos fpos : Pos}
theorem pg_none : PG X tg (fun _ _ _ _ => False) := ⟨fun _ _ _ _ _ _ _ _ _ h => h.elim⟩
theorem pss_none {body : List Stmt} : PSs X body (fun _ _ _ => False) := ⟨fun _ _ _ _ _ _ h => h.elim⟩
theorem pe_none : PE X e (fun _ _ _ => False) := ⟨fun _ _ _ _ _ _ h => h.elim⟩
theorem pts_none {es : List Expr} : PTs X es (fun _ _ _ => False) := ⟨fun _ _ _ _ _ _ h => h.elim⟩
theorem pi_none : PI X tg e (fun _ _ _ => False) := ⟨fun _ _ _ _ _ _ h => h.elim⟩
/-- for .. in x.f.items(), nothing in it -/
def sForFld0 (C : Addr) (i : Nat) (f : Str) : SM := fun ρ M => match eFld C f (eVar i) ρ M with
  | some (.sv (.dt (.dct [] [])), _) => some (.nx ρ M)
  | _ => none
theorem psm_forFld0 {x : Str} {np : Pos} {C : Addr} {i : Nat} {f : Str} {elts : List Expr} {kk : Nat} {tpos : Pos} {body : List Stmt} (hp : PassesOwn (model X.prog X.w) X.A X.env X.xe) (hc : X.calm = true) (c : Cls X.K C) (n : NoAttr X.K C f) (hx : PE X (.Name x np) (tVar i))
    (hb : attributeBase (.Name x np) f X.env (eval (.Name x np) X.env) = eval (.Name x np) X.env := by rfl) (hbase : attributeBase (.Attribute (.Name x np) f fpos) "items" X.env (eval (.Attribute (.Name x np) f fpos) X.env) = eval (.Attribute (.Name x np) f fpos) X.env := by rfl) (hline : (apos.endLine == cpos.line) = true := by rfl)
    (hs : ∀ y, foldedSetIterable (.Call (.Attribute (.Attribute (.Name x np) f fpos) "items" apos) [] [] cpos) X.env y = pure y := by intro _; rfl) :
    PSm X (.For (.Tuple elts kk tpos) (.Call (.Attribute (.Attribute (.Name x np) f fpos) "items" apos) [] [] cpos) body [] pos) (sForFld0 C i f) :=
  PS.imp (ps_lock (ps_for hp hc (pi_items (pe_fld hx hb) hbase hline) pg_none pss_none hs)) fun E σ H ⟨Hk, ls, ρ, M, o, w, en, hm, q⟩ => by
  unfold sForFld0 at hm
  split at hm
  · rename_i M' h1
    cases hm
    obtain ⟨s, M1, h2, h3⟩ := seq_some h1
    obtain ⟨a, M2, h4, h5⟩ := seq_some h2
    obtain ⟨s', hs', e⟩ := eVar_some h4
    cases e
    cases h5
    split at h3
    · rename_i d hd
      cases h3
      unfold fldS at hd
      split at hd
      · rename_i k C' ns ds hi
        split at hd
        · rename_i hC
          subst hC
          obtain ⟨v, hv, rv⟩ := en.2 i _ hs'
          obtain ⟨l, dx, fs, rfl, hl, hM, hH, hn, hr⟩ := muI_ok w rv hi
          subst hn
          obtain ⟨u, hu, ru⟩ := lookF_ok hr hd
          cases ru with
          | dct h hk hx ha =>
            rename_i a kvs xs
            have : kvs = [] := List.map_eq_nil_iff.mp hk
            subst this
            have hHa := w.sub _ _ h
            have nl : l ≠ a := ne_of hH hHa (by intro z; cases z)
            refine ⟨a, .dK [], hHa, trivial, fun od => ?_⟩
            refine ⟨.ref l, hv, l, C', dx, fs, .ref a, rfl, by rw [upd_ne nl]; exact hH, c, n, hu, a, od, [], rfl, upd_same, ?_⟩
            refine ⟨fun i m σ' H' => i = 0 ∧ σ' = σ ∧ H' = upd H a (.frz od (.dK [])), ⟨0, rfl, rfl, rfl⟩, ?_⟩
            rintro i m σ' H' ⟨rfl, rfl, rfl⟩
            refine .inl ⟨⟨upd_same, Nat.le_refl _⟩, upd_same, ?_⟩
            have eH : upd (upd H a (.frz od (.dK []))) a (.dK []) = H := by
              rw [upd_upd]
              funext b
              by_cases hb : b = a
              · subst hb; rw [upd_same, hHa]
              · rw [upd_ne hb]
            rw [eH]
            exact q σ' Hk H ls w (ExtS.refl _ _ _) en
        · cases hd
      · cases hd
    · cases h3
  · cases hm
/-- [.. for .. in e for .. in ..], nothing in e -/
def eComp20 (ms : EM Src) : EM R := fun ρ M => match ms ρ M with
  | some (src, M') => if src.stop M' 0 = true then some (.fr [], M') else none
  | none => none
theorem pm_comp20 {elt iter tg1 iter1 : Expr} {ifs ifs1 : List Expr} {scope : Scope} {own : List (Str × Nat)} {ms : EM Src} (hc : X.calm = true) (hN : X.N.Nodup) (hi : PIm X tg iter ms) (ok : BlkOk X.N X.env.scope scope own)
    (hs : ∀ x, foldedSetIterable iter X.env x = pure x := by intro _; rfl) (hs1 : ∀ env x, foldedSetIterable iter1 env x = pure x := by intro _ _; rfl) : PM X (.ListComp elt [⟨tg, iter, ifs, 0⟩, ⟨tg1, iter1, ifs1, 0⟩] scope pos) (eComp20 ms) :=
  PE.imp (pe_lc2 (vs1 := []) hc hN hi ok (fun _ h => nomatch h) (fun _ _ _ _ _ => pg_none) (fun _ _ _ _ _ => pts_none) (fun _ _ _ _ _ => pi_none) (fun _ _ _ _ _ => pg_none) (fun _ _ _ _ _ => pts_none) (fun _ _ _ _ _ => pe_none) hs hs1) fun σ H Q ⟨Hk, ls, ρ, M, r, M', w, en, hm, q⟩ => by
  unfold eComp20 at hm
  split at hm
  · rename_i src M1 h1
    split at hm
    · rename_i hst
      cases hm
      refine ⟨Hk, ls, ρ, M, src, _, w, en, h1, fun J Hk1 H1 w1 x1 sr => ?_⟩
      intro D hD
      refine ⟨fun i m H' => i = 0 ∧ H' = upd H1 D (.lst []), ⟨0, rfl, rfl⟩, ?_⟩
      rintro i m H' ⟨rfl, rfl⟩
      have wD := w1.upd_new (o := .lst []) hD
      obtain ⟨_, ss⟩ := sr Hk1 (upd H1 D (.lst [])) _ ls wD (fun _ _ h => h) ⟨[], by simp⟩
      exact .inl ⟨ss 0 hst, (q.back x1).newL w1 hD .nil⟩
    · cases hm
  · cases hm
/-- {.. : .. for .. in e}, nothing in e -/
def eDcE (ms : EM Src) : EM R := fun ρ M => match ms ρ M with
  | some (src, M') => if src.stop M' 0 = true then some (.fd [] [], M') else none
  | none => none
theorem pm_dcE {kx vx iter : Expr} {ifs : List Expr} {scope : Scope} {own : List (Str × Nat)} {ms : EM Src} (hc : X.calm = true) (hN : X.N.Nodup) (hi : PIm X tg iter ms) (ok : BlkOk X.N X.env.scope scope own)
    (hs : ∀ x, foldedSetIterable iter X.env x = pure x := by intro _; rfl) : PM X (.DictComp kx vx [⟨tg, iter, ifs, 0⟩] scope pos) (eDcE ms) :=
  PE.imp (pe_dc hc hN hi ok (fun _ _ _ _ _ => pg_none) (fun _ _ _ _ _ => pts_none) (fun _ _ _ _ _ => pe_none) (fun _ _ _ _ _ => pe_none) hs) fun σ H Q ⟨Hk, ls, ρ, M, r, M', w, en, hm, q⟩ => by
  unfold eDcE at hm
  split at hm
  · rename_i src M1 h1
    split at hm
    · rename_i hst
      cases hm
      refine ⟨Hk, ls, ρ, M, src, _, w, en, h1, fun J Hk1 H1 w1 x1 sr => ?_⟩
      intro D hD
      refine ⟨fun i m H' => i = 0 ∧ H' = upd H1 D (.dK []), ⟨0, rfl, rfl⟩, ?_⟩
      rintro i m H' ⟨rfl, rfl⟩
      have wD := w1.upd_new (o := .dK []) hD
      obtain ⟨_, ss⟩ := sr Hk1 (upd H1 D (.dK [])) _ ls wD (fun _ _ h => h) ⟨[], by simp⟩
      exact .inl ⟨ss 0 hst, (q.back x1).newD w1 hD rfl .nil⟩
    · cases hm
  · cases hm
end
end Dy

set_option Elab.async false
set_option linter.all false
set_option maxRecDepth 100000
set_option maxHeartbeats 4000000
/-! Layer Dy, part 15: looks at the head's leavings; the law's end by mirrors. -/
namespace Dy
open PySem L2 PySem.Spec PyProof.Rows
def meth (s : Stmt) (j : Nat) : Stmt := match s with
  | .ClassDef _ _ _ b _ _ _ _ _ _ _ => b.getD j (.Pass ⟨0, 0, 0, 0⟩)
  | _ => .Pass ⟨0, 0, 0, 0⟩
/-! ### classes -/
def objB (x : Str) (K : PySem.W.Frag) : Bool := (He.Fa.cls x).ok K && ((He.Fa.glo x).ok K && (He.eqO (PySem.W.findIn K (.ref (He.ga K x)) "__class__") (some (some (.builtin "object.__class__"))) && (He.eqO (PySem.W.specialIn K (.builtin "object.__class__") "__get__") (some (some (.builtin "getset_descriptor.__get__"))) &&
  (decide (PySem.W.takesIn K (.builtin "object.__class__") = some true) && (decide (PySem.W.mroIn K (He.ga K x) (.type "object") = some true) && tysB.all fun T => decide (PySem.W.kitOne K (.ref (He.ga K x)) (.type T) = some false))))))
def isiB (x : Str) (K : PySem.W.Frag) : Bool := (tysN.all fun T => decide (PySem.W.kitOne K (.type T) (.ref (He.ga K x)) = some false)) && decide (PySem.W.kitOne K (.ref (He.ga K x)) (.ref (He.ga K x)) = some true)
section
variable {K : PySem.W.Frag} {h : Heap} {mg : Str → Option Value} {x : Str}
theorem objB_ok (c : objB x K = true) : ObjC K (He.ga K x) := by
  obtain ⟨c1, c⟩ := He.ba c
  obtain ⟨_, c⟩ := He.ba c
  obtain ⟨c2, c⟩ := He.ba c
  obtain ⟨c3, c⟩ := He.ba c
  obtain ⟨c4, c⟩ := He.ba c
  obtain ⟨c5, c6⟩ := He.ba c
  exact ⟨He.cls_ok c1, He.eqO_ok c2, He.eqO_ok c3, of_decide_eq_true c4, of_decide_eq_true c5, fun T hT => of_decide_eq_true (List.all_eq_true.mp c6 T hT)⟩
theorem objB_cl (c : objB x K = true) : Cls K (He.ga K x) := (objB_ok c).cl
theorem objB_gl (X : K.In h) (G : h.Ns mainGlobals mg) (c : objB x K = true) : mg x = some (.ref (He.ga K x)) := He.glo_ok X G (He.ba (He.ba c).2).1
theorem isiB_ok (c : isiB x K = true) : IsiC K (He.ga K x) := ⟨fun T hT => of_decide_eq_true (List.all_eq_true.mp (He.ba c).1 T hT), of_decide_eq_true (He.ba c).2⟩
/-! ### a tuple of texts -/
def strsB : List Str → List Value → Bool
  | [], [] => true
  | z :: zs, .str y _ :: us => decide (z = y) && strsB zs us
  | _, _ => false
theorem strsB_ok : ∀ {zs : List Str} {us : List Value}, strsB zs us = true → Vals (zs.map V.str) us
  | [], [], _ => .nil
  | [], _ :: _, h => by cases h
  | _ :: _, [], h => by cases h
  | z :: zs, u :: us, h => by
    cases u with
    | str y t =>
      obtain ⟨h1, h2⟩ := He.ba (show (decide (z = y) && strsB zs us) = true from h)
      have e : z = y := of_decide_eq_true h1
      subst e
      exact .cons ⟨t, rfl⟩ (strsB_ok h2)
    | _ => cases h
def tupB (x : Str) (zs : List Str) (K : PySem.W.Frag) : Bool := (He.Fa.glo x).ok K && match K.lookup (He.ga K x) with
  | some ⟨.type c, none, .seq its _, _⟩ => decide (c = "tuple") && (decide (zs.length ≤ 1000) && strsB zs its.toList)
  | _ => false
theorem tupB_ok {zs : List Str} (X : K.In h) (G : h.Ns mainGlobals mg) (c : tupB x zs K = true) : ∃ a, mg x = some (.ref a) ∧ ∀ H, SqT K H a (zs.map V.str) := by
  obtain ⟨c1, c2⟩ := He.ba c
  refine ⟨_, He.glo_ok X G c1, fun H => ?_⟩
  split at c2
  · rename_i c its n sl q
    obtain ⟨d1, d2⟩ := He.ba c2
    obtain ⟨d2, d3⟩ := He.ba d2
    have e : c = "tuple" := of_decide_eq_true d1
    have r := strsB_ok d3
    have hl : zs.length = its.size := by
      have := r.length
      simpa using this
    refine .inr ⟨_, its, n, q, by rw [e], rfl, ?_, r⟩
    have : zs.length ≤ 1000 := of_decide_eq_true d2
    rw [← hl, sizeLine_eq]
    omega
  · cases c2
end
/-! ### the defs of the text -/
theorem SaysX.all {chk : PySem.W.Frag → Bool} {fn : List He.DefD} {K : PySem.W.Frag} (c : SaysX chk fn K) : ∃ fds : Nat → FuncData, ∀ (i : Nat) (d : He.DefD), fn[i]? = some d → FunD K d.name d.qual d.params d.body d.scope (d.dvs K) (d.kws K) (He.fAd K d.at_) (fds i) := by
  have z : ∀ i : Nat, ∃ fd, ∀ d : He.DefD, fn[i]? = some d → FunD K d.name d.qual d.params d.body d.scope (d.dvs K) (d.kws K) (He.fAd K d.at_) fd := fun i => by
    cases q : fn[i]? with
    | none => exact ⟨default, fun d e => by cases e⟩
    | some d =>
      obtain ⟨fd, F⟩ := c.dfn i q
      exact ⟨fd, fun d' e => by cases e; exact F⟩
  exact ⟨fun i => Classical.choose (z i), fun i => Classical.choose_spec (z i)⟩
theorem FnG.zero {P : Program} {w : PySem.World} {K : PySem.W.Frag} {mg : Str → Option Value} {base : Heap} {k n : Nat} {f : Addr} {fd : FuncData} {ps : List Str} {CX : CXT} : FnG P w K mg base CX k f fd ps (spM K n fun _ _ => none) :=
  FnG.no.imp fun vs H Q E ⟨_, _, _, _, _, _, _, _, _, z, _⟩ => by cases z
/-- the law's promise by its mirror -/
theorem law_sp {K : PySem.W.Frag} {H : Hp} {a : Addr} {ns : List Int} {g : Fn} {E : XK} (hS : SqL K H a (ns.map V.int)) (h : g [.dt (.scr ns)] [] = some (.sv (.dt (.bl true)), [])) : spM K 1 g [.ref a] H (fun v _ => v = .bl true) E := by
  refine ⟨H, [], [], [.dt (.scr ns)], _, [], ⟨fun _ _ e => e, rfl, .nil, fun _ e => (nomatch e), fun k o e => by cases k <;> cases e⟩, .cons (Rp.scr hS) .nil, rfl, h, fun v Hk' H' w' x' r' => ?_⟩
  cases (show Rp K Hk' v (.bl true) from r')
  rfl
end Dy

set_option Elab.async false
set_option linter.all false
set_option maxRecDepth 100000
set_option maxHeartbeats 4000000
/-! Layer Dy, part 16: what mirrors compute: comprehensions, loops, the bag. -/
namespace Dy
open PySem L2

/-! ### sources -/
structure IsSrc (src : Src) (xs : List SV) : Prop where
  n : src.n = xs.length
  get : ∀ M i, src.get M i = xs[i]?
  stop : ∀ M i, src.stop M i = decide (xs.length ≤ i)
theorem isSrc_rng (lo : Int) (n : Nat) : IsSrc (rngSrc lo n) ((List.range n).map fun i : Nat => SV.dt (D.int (lo + (i : Int)))) where
  n := by simp [rngSrc]
  get := fun M i => by
    unfold rngSrc
    dsimp only
    rw [List.getElem?_map]
    by_cases h : i < n
    · rw [if_pos h, List.getElem?_range h]
      rfl
    · rw [if_neg h, List.getElem?_eq_none (by simpa using h)]
      rfl
  stop := fun M i => by simp [rngSrc]
theorem isSrc_lst {M : MS} {ds : List D} : ∃ src, seqSrc M (.dt (.lst ds)) = some src ∧ IsSrc src (ds.map .dt) := ⟨_, rfl, ⟨rfl, fun _ _ => rfl, fun _ _ => rfl⟩⟩
theorem isSrc_tup {M : MS} {ds : List D} : ∃ src, seqSrc M (.dt (.tup ds)) = some src ∧ IsSrc src (ds.map .dt) := ⟨_, rfl, ⟨rfl, fun _ _ => rfl, fun _ _ => rfl⟩⟩
def signs (z : Str) : List D := z.cps.toList.map fun c => .str ⟨#[c]⟩
theorem isSrc_str {M : MS} {z : Str} : ∃ src, seqSrc M (.dt (.str z)) = some src ∧ IsSrc src ((signs z).map .dt) := by
  refine ⟨_, rfl, ⟨by simp [signs], fun _ i => ?_, fun _ i => ?_⟩⟩
  · show (match z.cps[i]? with
      | some c => some (SV.dt (.str ⟨#[c]⟩))
      | none => none) = _
    unfold signs
    rw [List.map_map, List.getElem?_map, Array.getElem?_toList]
    cases z.cps[i]? <;> rfl
  · show decide (z.cps.size ≤ i) = _
    simp [signs]

/-! ### comprehensions -/
section
variable {src : Src} {xs : List SV} {b : Bnd} {c : EM Bool} {el : EM R} {ρ0 : Env}
theorem comp_inv_go (hs : IsSrc src xs) (Inv : MS → Prop) (P : D → Prop) (hl : xs.length ≤ sizeLine)
    (step : ∀ x ∈ xs, ∀ M, Inv M → ∃ ρ1, b x ρ0 = some ρ1 ∧ ∃ k M1, c ρ1 M = some (k, M1) ∧ Inv M1 ∧ (k = true → ∃ r d M2, el ρ1 M1 = some (r, M2) ∧ r.toSV = .dt d ∧ P d ∧ Inv M2)) :
    ∀ (k i : Nat) (acc : List D) (M : MS), i + k = xs.length → acc.length ≤ i → (∀ d ∈ acc, P d) → Inv M → ∃ ds M', compGo src b c el ρ0 k i acc M = some (ds, M') ∧ Inv M' ∧ (∀ d ∈ ds, P d) ∧ ds.length ≤ xs.length
  | 0, i, acc, M, hi, ha, hp, hM => by
    refine ⟨acc, M, ?_, hM, hp, by omega⟩
    show (if src.stop M i = true then some (acc, M) else none) = _
    rw [hs.stop, if_pos (decide_eq_true (by omega))]
  | k + 1, i, acc, M, hi, ha, hp, hM => by
    have hx : xs[i]? = some xs[i] := List.getElem?_eq_getElem (by omega)
    obtain ⟨ρ1, hb, kk, M1, hc, hM1, hk⟩ := step xs[i] (List.getElem_mem _) M hM
    unfold compGo
    rw [hs.get, hx]
    simp only [hb, hc]
    cases kk with
    | false => exact comp_inv_go hs Inv P hl step k (i + 1) acc M1 (by omega) (by omega) hp hM1
    | true =>
      obtain ⟨r, d, M2, he, hr, hd, hM2⟩ := hk rfl
      have hf : fz el ρ1 M1 = some (.dt d, M2) := by
        unfold fz EM.seq
        rw [he]
        show some (r.toSV, M2) = _
        rw [hr]
      simp only [hf]
      rw [if_pos (by omega)]
      refine comp_inv_go hs Inv P hl step k (i + 1) (acc ++ [d]) M2 (by omega) (by simp; omega) (fun y hy => ?_) hM2
      rcases List.mem_append.mp hy with h | h
      · exact hp y h
      · rw [List.mem_singleton.mp h]; exact hd
theorem comp_inv {ms : EM Src} {vs : List Nat} {ρ : Env} {M M0 : MS} (Inv : MS → Prop) (P : D → Prop) (hm : ms ρ M = some (src, M0)) (hs : IsSrc src xs) (hl : xs.length ≤ sizeLine) (h0 : Inv M0)
    (step : ∀ x ∈ xs, ∀ M, Inv M → ∃ ρ1, b x (wipeE ρ vs) = some ρ1 ∧ ∃ k M1, c ρ1 M = some (k, M1) ∧ Inv M1 ∧ (k = true → ∃ r d M2, el ρ1 M1 = some (r, M2) ∧ r.toSV = .dt d ∧ P d ∧ Inv M2)) :
    ∃ ds M', eComp ms b c el vs ρ M = some (.fr ds, M') ∧ Inv M' ∧ (∀ d ∈ ds, P d) ∧ ds.length ≤ xs.length := by
  obtain ⟨ds, M', h1, h2, h3, h4⟩ := comp_inv_go (ρ0 := wipeE ρ vs) hs Inv P hl step xs.length 0 [] M0 (by omega) (by simp) (by simp) h0
  refine ⟨ds, M', ?_, h2, h3, h4⟩
  unfold eComp
  simp only [hm]
  rw [hs.n, h1]
/-- nothing changes -/
theorem comp_pure_go (hs : IsSrc src xs) (p : SV → Bool) (f : SV → D) (hl : xs.length ≤ sizeLine) {M : MS}
    (step : ∀ x ∈ xs, ∃ ρ1, b x ρ0 = some ρ1 ∧ c ρ1 M = some (p x, M) ∧ (p x = true → ∃ r, el ρ1 M = some (r, M) ∧ r.toSV = .dt (f x))) :
    ∀ (k i : Nat) (acc : List D), i + k = xs.length → acc.length ≤ i → compGo src b c el ρ0 k i acc M = some (acc ++ ((xs.drop i).filter p).map f, M)
  | 0, i, acc, hi, ha => by
    show (if src.stop M i = true then some (acc, M) else none) = _
    rw [hs.stop, if_pos (decide_eq_true (by omega)), List.drop_eq_nil_of_le (by omega)]
    simp
  | k + 1, i, acc, hi, ha => by
    have hlt : i < xs.length := by omega
    have hx : xs[i]? = some xs[i] := List.getElem?_eq_getElem hlt
    obtain ⟨ρ1, hb, hc, hk⟩ := step xs[i] (List.getElem_mem _)
    unfold compGo
    rw [hs.get, hx, List.drop_eq_getElem_cons hlt]
    simp only [hb, hc]
    cases hp : p xs[i] with
    | false =>
      rw [List.filter_cons_of_neg (by rw [hp]; exact Bool.false_ne_true)]
      exact comp_pure_go hs p f hl step k (i + 1) acc (by omega) (by omega)
    | true =>
      obtain ⟨r, he, hr⟩ := hk hp
      have hf : fz el ρ1 M = some (.dt (f xs[i]), M) := by
        unfold fz EM.seq
        rw [he]
        show some (r.toSV, M) = _
        rw [hr]
      simp only [hf]
      rw [if_pos (by omega), List.filter_cons_of_pos hp, comp_pure_go hs p f hl step k (i + 1) (acc ++ [f xs[i]]) (by omega) (by simp; omega)]
      simp
theorem comp_pure {ms : EM Src} {vs : List Nat} {ρ : Env} {M M0 : MS} (p : SV → Bool) (f : SV → D) (hm : ms ρ M = some (src, M0)) (hs : IsSrc src xs) (hl : xs.length ≤ sizeLine)
    (step : ∀ x ∈ xs, ∃ ρ1, b x (wipeE ρ vs) = some ρ1 ∧ c ρ1 M0 = some (p x, M0) ∧ (p x = true → ∃ r, el ρ1 M0 = some (r, M0) ∧ r.toSV = .dt (f x))) :
    eComp ms b c el vs ρ M = some (.fr ((xs.filter p).map f), M0) := by
  unfold eComp
  simp only [hm]
  rw [hs.n, comp_pure_go (ρ0 := wipeE ρ vs) hs p f hl step xs.length 0 [] (by omega) (by simp)]
  simp
end

/-! ### loops -/
section
variable {src : Src} {xs : List SV} {b : Bnd} {body : SM}
theorem for_inv_go (hs : IsSrc src xs) (Inv : Env → MS → Prop) (step : ∀ x ∈ xs, ∀ ρ M, Inv ρ M → ∃ ρ1, b x ρ = some ρ1 ∧ ∃ ρ2 M2, body ρ1 M = some (.nx ρ2 M2) ∧ Inv ρ2 M2) :
    ∀ (k i : Nat) (ρ : Env) (M : MS), i + k = xs.length → Inv ρ M → ∃ ρ' M', forGo src b body k i ρ M = some (.nx ρ' M') ∧ Inv ρ' M'
  | 0, i, ρ, M, hi, hI => ⟨ρ, M, by
    show (if src.stop M i = true then some (Out.nx ρ M) else none) = _
    rw [hs.stop, if_pos (decide_eq_true (by omega))], hI⟩
  | k + 1, i, ρ, M, hi, hI => by
    have hx : xs[i]? = some xs[i] := List.getElem?_eq_getElem (by omega)
    obtain ⟨ρ1, hb, ρ2, M2, h1, h2⟩ := step xs[i] (List.getElem_mem _) ρ M hI
    obtain ⟨ρ', M', h3, h4⟩ := for_inv_go hs Inv step k (i + 1) ρ2 M2 (by omega) h2
    refine ⟨ρ', M', ?_, h4⟩
    unfold forGo
    rw [hs.get, hx]
    simp only [hb, h1]
    exact h3
theorem for_inv {ms : EM Src} {ρ : Env} {M M0 : MS} (Inv : Env → MS → Prop) (hm : ms ρ M = some (src, M0)) (hs : IsSrc src xs) (h0 : Inv ρ M0)
    (step : ∀ x ∈ xs, ∀ ρ M, Inv ρ M → ∃ ρ1, b x ρ = some ρ1 ∧ ∃ ρ2 M2, body ρ1 M = some (.nx ρ2 M2) ∧ Inv ρ2 M2) : ∃ ρ' M', sFor ms b body ρ M = some (.nx ρ' M') ∧ Inv ρ' M' := by
  obtain ⟨ρ', M', h3, h4⟩ := for_inv_go hs Inv step xs.length 0 ρ M0 (by omega) h0
  refine ⟨ρ', M', ?_, h4⟩
  unfold sFor
  simp only [hm]
  rw [hs.n]
  exact h3
end

/-! ### the bag -/
/-- a bag's list -/
def bagL (a b c : Int) (cells : List Int) : MO := .l [.dt (.int a), .dt (.int b), .dt (.int c), .dt (.lst (cells.map .int))]
structure BagO (B : MO) : Prop where
  ex : ∃ (a b c : Int) (cells : List Int), B = bagL a b c cells ∧ 0 ≤ a ∧ 0 ≤ b ∧ b < 2147483647 ∧ 0 ≤ c ∧ cells.length ≤ 63 ∧ ∀ y ∈ cells, 0 ≤ y
def takeM : SM := (sSeq (sIf (eBool (eBin gEq (eBin gIx (eVar 0) (eC (.int 0))) (eC (.int 0)))) (sSeq (sSet 2 (eBin gIx (eBin gAdd (eSlice (eBin gIx (eVar 0) (eC (.int 3))) (ePart (eBin gIx (eVar 0) (eC (.int 2)))) eNoPart) (eLst (eCons (eC (.int 0)) eNil))) (eC (.int 0))))
    (sSeq (sAugPut (fun i j => i + j) (eVar 0) (eC (.int 2)) (eC (.int 1)))
    (sSeq (sPut (eVar 0) (eC (.int 0)) (eBin gMul (eVar 2) (eCall (g1 intS) (eCons (eBin gGe (eVar 2) (eBin gPow (eC (.int 10)) (eC (.int 18)))) eNil))))
    (sSeq (sSet 3 (eBin gAdd (eBin gAdd (eBin gMul (eBin gIx (eVar 0) (eC (.int 1))) (eC (.int 48271))) (eBin gMod (eCall (g1 intS) (eCons (eVar 2) eNil)) (eC (.int 2147483647)))) (eBin gMul (eC (.int 7919)) (eBin gIx (eVar 0) (eC (.int 2))))))
    (sPut (eVar 0) (eC (.int 1)) (eBin gMod (eCall (g1 intS) (eCons (eVar 3) eNil)) (eC (.int 2147483647)))))))) sNext)
    (sSeq (sIf (eBool (eBin gGt (eBin gIx (eVar 0) (eC (.int 0))) (eC (.int 0)))) (sSeq (sNamePut 4 (eVar 0) (eC (.int 0)) (eTup (eCons (eBin gMod (eCall (g1 intS) (eCons (eBin gIx (eVar 0) (eC (.int 0))) eNil)) (eVar 1)) (eCons (eBin gFdiv (eCall (g1 intS) (eCons (eBin gIx (eVar 0) (eC (.int 0))) eNil)) (eVar 1)) eNil))))
    (sRet (eVar 4))) sNext)
    (sSeq (sSet 5 (eBin gMod (eCall (g1 intS) (eCons (eBin gMul (eBin gAdd (eBin gIx (eVar 0) (eC (.int 1))) (eC (.int 1))) (eC (.int 39373))) eNil)) (eC (.int 1000000007))))
    (sSeq (sSet 6 (eBin gMod (eCall (g1 intS) (eCons (eBin gMul (eBin gMod (eCall (g1 intS) (eCons (eBin gMul (eVar 5) (eVar 5)) eNil)) (eC (.int 998244353))) (eC (.int 30011))) eNil)) (eC (.int 998244353))))
    (sRet (eBin gMod (eCall (g1 intS) (eCons (eBin gFdiv (eVar 6) (eC (.int 7))) eNil)) (eVar 1)))))))
/-! ### evaluation by simp -/
section
variable {α β : Type} {ρ : Env} {M : MS} {m ma mb mc : EM R} {ms : EM (List SV)}
@[simp] theorem sizeLine_ev : sizeLine = 16777216 := sizeLine_eq
@[simp] theorem seq_ev (m : EM α) (f : α → EM β) : m.seq f ρ M = (m ρ M).bind fun p => f p.1 ρ p.2 := by
  unfold EM.seq
  cases m ρ M with
  | none => rfl
  | some p => rfl
@[simp] theorem ret_ev (a : α) : EM.ret a ρ M = some (a, M) := rfl
@[simp] theorem fz_ev (m : EM R) : fz m ρ M = (m ρ M).bind fun p => some (p.1.toSV, p.2) := by
  unfold fz
  rw [seq_ev]
  rfl
@[simp] theorem toSV_sv (x : SV) : (Dy.R.sv x).toSV = x := rfl
@[simp] theorem toSV_fr (x : List D) : (Dy.R.fr x).toSV = .dt (.lst x) := rfl
@[simp] theorem toSV_fd (k : List Key) (x : List D) : (Dy.R.fd k x).toSV = .dt (.dct k x) := rfl
@[simp] theorem eC_ev (d : D) : eC d ρ M = some (.sv (.dt d), M) := rfl
theorem eVar_of {i : Nat} {s : SV} (h : ρ[i]? = some (some s)) : eVar i ρ M = some (.sv s, M) := by
  unfold eVar
  rw [h]
@[simp] theorem eNil_ev : eNil ρ M = some ([], M) := rfl
@[simp] theorem eCons_ev (m : EM R) (ms : EM (List SV)) : eCons m ms ρ M = (m ρ M).bind fun p => (ms ρ p.2).bind fun q => some (p.1.toSV :: q.1, q.2) := by
  unfold eCons
  rw [seq_ev, fz_ev]
  cases m ρ M with
  | none => rfl
  | some p =>
    simp only [Option.bind_some, seq_ev]
    rfl
@[simp] theorem eBin_ev (g : MS → SV → SV → Option R) (ma mb : EM R) : eBin g ma mb ρ M = (ma ρ M).bind fun p => (mb ρ p.2).bind fun q => (g q.2 p.1.toSV q.1.toSV).bind fun z => some (z, q.2) := by
  unfold eBin
  rw [seq_ev, fz_ev]
  cases ma ρ M with
  | none => rfl
  | some p =>
    simp only [Option.bind_some, seq_ev, fz_ev]
    cases mb ρ p.2 with
    | none => rfl
    | some q =>
      simp only [Option.bind_some]
      cases g q.2 p.1.toSV q.1.toSV <;> rfl
@[simp] theorem eCall_ev (g : MS → List SV → Option R) (ms : EM (List SV)) : eCall g ms ρ M = (ms ρ M).bind fun p => (g p.2 p.1).bind fun z => some (z, p.2) := by
  unfold eCall
  rw [seq_ev]
  cases ms ρ M with
  | none => rfl
  | some p =>
    simp only [Option.bind_some]
    cases g p.2 p.1 <;> rfl
@[simp] theorem g1_ev (g : MS → SV → Option R) (s : SV) : g1 g M [s] = g M s := rfl
@[simp] theorem eFn_ev (f : Fn) (ms : EM (List SV)) : eFn f ms ρ M = (ms ρ M).bind fun p => f p.1 p.2 := by
  unfold eFn
  rw [seq_ev]
@[simp] theorem eLst_ev (ms : EM (List SV)) : eLst ms ρ M = (ms ρ M).bind fun p => (allD p.1).bind fun ds => if ds.length ≤ sizeLine then some (.fr ds, p.2) else none := by
  unfold eLst
  rw [seq_ev]
  cases ms ρ M with
  | none => rfl
  | some p =>
    simp only [Option.bind_some]
    cases allD p.1 <;> rfl
@[simp] theorem eTup_ev (ms : EM (List SV)) : eTup ms ρ M = (ms ρ M).bind fun p => (allD p.1).bind fun ds => if ds.length ≤ sizeLine then some (.sv (.dt (.tup ds)), p.2) else none := by
  unfold eTup
  rw [seq_ev]
  cases ms ρ M with
  | none => rfl
  | some p =>
    simp only [Option.bind_some]
    cases allD p.1 <;> rfl
@[simp] theorem allD_nil : allD [] = some [] := rfl
@[simp] theorem allD_dt (d : D) (r : List SV) : allD (.dt d :: r) = (allD r).bind fun ds => some (d :: ds) := by
  show (match allD r with
    | some ds => some (d :: ds)
    | none => none) = _
  cases allD r <;> rfl
def asB : R → Option Bool
  | .sv (.dt (.bl k)) => some k
  | _ => none
@[simp] theorem asB_bl (k : Bool) : asB (.sv (.dt (.bl k))) = some k := rfl
@[simp] theorem eBool_ev (m : EM R) : eBool m ρ M = (m ρ M).bind fun p => (asB p.1).bind fun k => some (k, p.2) := by
  unfold eBool
  rw [seq_ev]
  cases m ρ M with
  | none => rfl
  | some p =>
    obtain ⟨r, M'⟩ := p
    simp only [Option.bind_some]
    cases r with
    | sv s =>
      cases s with
      | dt d => cases d <;> rfl
      | mu k => rfl
    | fr xs => rfl
    | fd ks xs => rfl
@[simp] theorem eTru_ev (m : EM R) : eTru m ρ M = (m ρ M).bind fun p => (truthS p.2 p.1.toSV).bind fun k => some (k, p.2) := by
  unfold eTru
  rw [seq_ev, fz_ev]
  cases m ρ M with
  | none => rfl
  | some p =>
    simp only [Option.bind_some]
    cases truthS p.2 p.1.toSV <;> rfl
@[simp] theorem truthS_bl (k : Bool) : truthS M (.dt (.bl k)) = some k := rfl
@[simp] theorem tNotB_ev (c : EM Bool) : tNotB c ρ M = (c ρ M).bind fun p => some (!p.1, p.2) := by
  unfold tNotB
  rw [seq_ev]
  rfl
@[simp] theorem tAndB_ev (c d : EM Bool) : tAndB c d ρ M = (c ρ M).bind fun p => if p.1 = true then d ρ p.2 else some (false, p.2) := by
  unfold tAndB
  rw [seq_ev]
  cases c ρ M with
  | none => rfl
  | some p =>
    simp only [Option.bind_some]
    split <;> rfl
@[simp] theorem tOrB_ev (c d : EM Bool) : tOrB c d ρ M = (c ρ M).bind fun p => if p.1 = true then some (true, p.2) else d ρ p.2 := by
  unfold tOrB
  rw [seq_ev]
  cases c ρ M with
  | none => rfl
  | some p =>
    simp only [Option.bind_some]
    split <;> rfl
@[simp] theorem cYes_ev : cYes ρ M = some (true, M) := rfl
@[simp] theorem eAnd_ev (ma mb : EM R) : eAnd ma mb ρ M = (ma ρ M).bind fun p => (truthS p.2 p.1.toSV).bind fun k => if k = true then mb ρ p.2 else some (.sv p.1.toSV, p.2) := by
  unfold eAnd
  rw [seq_ev, fz_ev]
  cases ma ρ M with
  | none => rfl
  | some p =>
    simp only [Option.bind_some]
    cases truthS p.2 p.1.toSV with
    | none => rfl
    | some k => cases k <;> rfl
@[simp] theorem eOr_ev (ma mb : EM R) : eOr ma mb ρ M = (ma ρ M).bind fun p => (truthS p.2 p.1.toSV).bind fun k => if k = true then some (.sv p.1.toSV, p.2) else mb ρ p.2 := by
  unfold eOr
  rw [seq_ev, fz_ev]
  cases ma ρ M with
  | none => rfl
  | some p =>
    simp only [Option.bind_some]
    cases truthS p.2 p.1.toSV with
    | none => rfl
    | some k => cases k <;> rfl
@[simp] theorem eNot_ev (ma : EM R) : eNot ma ρ M = (ma ρ M).bind fun p => (truthS p.2 p.1.toSV).bind fun k => some (.sv (.dt (.bl (!k))), p.2) := by
  unfold eNot
  rw [seq_ev, fz_ev]
  cases ma ρ M with
  | none => rfl
  | some p =>
    simp only [Option.bind_some]
    cases truthS p.2 p.1.toSV <;> rfl
@[simp] theorem eIf_ev (c : EM Bool) (ma mb : EM R) : eIf c ma mb ρ M = (c ρ M).bind fun p => if p.1 = true then ma ρ p.2 else mb ρ p.2 := by
  unfold eIf
  rw [seq_ev]
  cases c ρ M with
  | none => rfl
  | some p =>
    simp only [Option.bind_some]
    split <;> rfl
@[simp] theorem eIsi_ev (T : String) (m : EM R) : eIsi T m ρ M = (m ρ M).bind fun p => (isiS T p.2 p.1.toSV).bind fun b => some (.sv (.dt (.bl b)), p.2) := by
  unfold eIsi
  rw [seq_ev, fz_ev]
  cases m ρ M with
  | none => rfl
  | some p =>
    simp only [Option.bind_some]
    cases isiS T p.2 p.1.toSV <;> rfl
@[simp] theorem eIsi2_ev (T U : String) (m : EM R) : eIsi2 T U m ρ M = (m ρ M).bind fun p => (isiS T p.2 p.1.toSV).bind fun b => (isiS U p.2 p.1.toSV).bind fun c => some (.sv (.dt (.bl (b || c))), p.2) := by
  unfold eIsi2
  rw [seq_ev, fz_ev]
  cases m ρ M with
  | none => rfl
  | some p =>
    simp only [Option.bind_some]
    cases isiS T p.2 p.1.toSV with
    | none => rfl
    | some b => cases isiS U p.2 p.1.toSV <;> rfl
@[simp] theorem eSlice_ev (m : EM R) (lo hi : EM (Option Int)) : eSlice m lo hi ρ M = (m ρ M).bind fun p => (lo ρ p.2).bind fun q => (hi ρ q.2).bind fun r => (gSl r.2 p.1.toSV q.1 r.1).bind fun z => some (z, r.2) := by
  unfold eSlice
  rw [seq_ev, fz_ev]
  cases m ρ M with
  | none => rfl
  | some p =>
    simp only [Option.bind_some, seq_ev]
    cases lo ρ p.2 with
    | none => rfl
    | some q =>
      simp only [Option.bind_some]
      cases hi ρ q.2 with
      | none => rfl
      | some r =>
        simp only [Option.bind_some]
        cases gSl r.2 p.1.toSV q.1 r.1 <;> rfl
@[simp] theorem eNoPart_ev : eNoPart ρ M = some (none, M) := rfl
def asI : SV → Option Int
  | .dt (.int i) => some i
  | _ => none
@[simp] theorem asI_int (i : Int) : asI (.dt (.int i)) = some i := rfl
@[simp] theorem ePart_ev (m : EM R) : ePart m ρ M = (m ρ M).bind fun p => (asI p.1.toSV).bind fun i => some (some i, p.2) := by
  unfold ePart
  rw [seq_ev, fz_ev]
  cases m ρ M with
  | none => rfl
  | some p =>
    obtain ⟨r, M'⟩ := p
    simp only [Option.bind_some]
    cases r.toSV with
    | dt d => cases d <;> rfl
    | mu k => rfl
@[simp] theorem eNeg_ev (m : EM R) : eNeg m ρ M = (m ρ M).bind fun p => (asI p.1.toSV).bind fun i => some (.sv (.dt (.int (-i))), p.2) := by
  unfold eNeg
  rw [seq_ev, fz_ev]
  cases m ρ M with
  | none => rfl
  | some p =>
    obtain ⟨r, M'⟩ := p
    simp only [Option.bind_some]
    cases r.toSV with
    | dt d => cases d <;> rfl
    | mu k => rfl
/-! statements -/
variable {s1 s2 : SM} {c : EM Bool}
theorem sSeq_nx {ρ1 : Env} {M1 : MS} (h : s1 ρ M = some (.nx ρ1 M1)) : sSeq s1 s2 ρ M = s2 ρ1 M1 := by
  unfold sSeq
  rw [h]
theorem sSeq_rt {r : R} {M1 : MS} (h : s1 ρ M = some (.rt r M1)) : sSeq s1 s2 ρ M = some (.rt r M1) := by
  unfold sSeq
  rw [h]
def outB (o : Option Out) (f : Env → MS → Option Out) : Option Out := match o with
  | some (.nx ρ M) => f ρ M
  | o => o
@[simp] theorem outB_nx (f : Env → MS → Option Out) : outB (some (.nx ρ M)) f = f ρ M := rfl
@[simp] theorem outB_rt (r : R) (f : Env → MS → Option Out) : outB (some (.rt r M)) f = some (.rt r M) := rfl
@[simp] theorem sSeq_ev (s1 s2 : SM) : sSeq s1 s2 ρ M = outB (s1 ρ M) s2 := by
  unfold sSeq outB
  rfl
@[simp] theorem sIf_ev (c : EM Bool) (s1 s2 : SM) : sIf c s1 s2 ρ M = (c ρ M).bind fun p => if p.1 = true then s1 ρ p.2 else s2 ρ p.2 := by
  unfold sIf
  cases c ρ M with
  | none => rfl
  | some p =>
    obtain ⟨k, M'⟩ := p
    cases k <;> rfl
@[simp] theorem sNext_ev : sNext ρ M = some (.nx ρ M) := rfl
@[simp] theorem sRet_ev (m : EM R) : sRet m ρ M = (m ρ M).bind fun p => some (.rt p.1 p.2) := by
  unfold sRet
  cases m ρ M <;> rfl
@[simp] theorem sSet_ev (i : Nat) (m : EM R) : sSet i m ρ M = (m ρ M).bind fun p => some (.nx (ρ.set i (some p.1.toSV)) p.2) := by
  unfold sSet
  cases m ρ M <;> rfl
@[simp] theorem sExpr_ev (m : EM R) : sExpr m ρ M = (m ρ M).bind fun p => some (.nx ρ p.2) := by
  unfold sExpr
  cases m ρ M <;> rfl
@[simp] theorem sPut_ev (mo mi me : EM R) : sPut mo mi me ρ M = (me ρ M).bind fun p => (mo ρ p.2).bind fun q => (mi ρ q.2).bind fun r => (setAt r.2 q.1.toSV r.1.toSV p.1.toSV).bind fun M4 => some (.nx ρ M4) := by
  unfold sPut
  rw [fz_ev]
  cases me ρ M with
  | none => rfl
  | some p =>
    simp only [Option.bind_some, fz_ev]
    cases mo ρ p.2 with
    | none => rfl
    | some q =>
      simp only [Option.bind_some]
      cases mi ρ q.2 with
      | none => rfl
      | some r =>
        simp only [Option.bind_some]
        cases setAt r.2 q.1.toSV r.1.toSV p.1.toSV <;> rfl
@[simp] theorem listD_lst (ds : List D) : listD M (.dt (.lst ds)) = some ds := by
  unfold listD listOf
  exact allD_map ds
@[simp] theorem itemsD_lst (ds : List D) : itemsD M (.dt (.lst ds)) = some ds := by
  unfold itemsD itemsOf listOf
  exact allD_map ds
@[simp] theorem itemsD_tup (ds : List D) : itemsD M (.dt (.tup ds)) = some ds := by
  unfold itemsD itemsOf
  exact allD_map ds
@[simp] theorem itemsOf_lst (ds : List D) : itemsOf M (.dt (.lst ds)) = some (ds.map .dt) := rfl
@[simp] theorem itemsOf_tup (ds : List D) : itemsOf M (.dt (.tup ds)) = some (ds.map .dt) := rfl
@[simp] theorem peek_dt' (d : D) : peek M (.dt d) = some d := peek_dt 3 M d
end
theorem eqv_int (i j : Int) : PyData.eqv (.int i) (.int j) = decide (i = j) := by
  unfold PyData.eqv
  rfl
theorem shaped_int (i : Int) : SeqAt.shaped (.int i) = true := by
  rfl
@[simp] theorem gEq_int (M : MS) (i j : Int) : gEq M (.dt (.int i)) (.dt (.int j)) = some (.sv (.dt (.bl (decide (i = j))))) := by
  unfold gEq eqT eqL eqS
  simp only [peek, peekN, toP, shaped_int, eqv_int, Bool.and_self, if_true]
  rfl
@[simp] theorem gEq_str (M : MS) (x y : Str) : gEq M (.dt (.str x)) (.dt (.str y)) = some (.sv (.dt (.bl (decide (x = y))))) := rfl
@[simp] theorem gNe_str (M : MS) (x y : Str) : gNe M (.dt (.str x)) (.dt (.str y)) = some (.sv (.dt (.bl (!decide (x = y))))) := rfl
end Dy

set_option Elab.async false
set_option maxRecDepth 100000
set_option maxHeartbeats 4000000
set_option linter.all false
namespace Dy
open PySem L2
theorem cut_cells (cells : List Int) (c : Int) (h5 : cells.length ≤ 63) (h6 : ∀ y ∈ cells, 0 ≤ y) : ∃ L : List Int, cutD (cells.map .int) (some c) none = L.map .int ∧ L.length ≤ 63 ∧ ∀ y ∈ L, 0 ≤ y := by
  refine ⟨(cells.drop (HT.sIx cells.length 0 (some c))).take (cells.length - HT.sIx cells.length 0 (some c)), ?_, ?_, fun y hy => h6 y ((List.drop_sublist _ _).subset ((List.take_sublist _ _).subset hy))⟩
  · unfold cutD
    simp [HT.sIx_none, List.map_drop, List.map_take]
  · rw [List.length_take, List.length_drop]
    omega
/-- when the first number is not nought -/
theorem take_draw {R : MS} {n a b c : Int} {cells : List Int} (hn : 0 < n) (hn2 : n < 1073741824) (ha : 0 < a) {ρ : Env} {x2 x3 : Option SV} (hρ : ρ = [some (.mu 0), some (.dt (.int n)), x2, x3, none, none, none]) :
    (sSeq (sIf (eBool (eBin gGt (eBin gIx (eVar 0) (eC (.int 0))) (eC (.int 0)))) (sSeq (sNamePut 4 (eVar 0) (eC (.int 0)) (eTup (eCons (eBin gMod (eCall (g1 intS) (eCons (eBin gIx (eVar 0) (eC (.int 0))) eNil)) (eVar 1)) (eCons (eBin gFdiv (eCall (g1 intS) (eCons (eBin gIx (eVar 0) (eC (.int 0))) eNil)) (eVar 1)) eNil))))
    (sRet (eVar 4))) sNext)
    (sSeq (sSet 5 (eBin gMod (eCall (g1 intS) (eCons (eBin gMul (eBin gAdd (eBin gIx (eVar 0) (eC (.int 1))) (eC (.int 1))) (eC (.int 39373))) eNil)) (eC (.int 1000000007))))
    (sSeq (sSet 6 (eBin gMod (eCall (g1 intS) (eCons (eBin gMul (eBin gMod (eCall (g1 intS) (eCons (eBin gMul (eVar 5) (eVar 5)) eNil)) (eC (.int 998244353))) (eC (.int 30011))) eNil)) (eC (.int 998244353))))
    (sRet (eBin gMod (eCall (g1 intS) (eCons (eBin gFdiv (eVar 6) (eC (.int 7))) eNil)) (eVar 1)))))) ρ (bagL a b c cells :: R) = some (.rt (.sv (.dt (.int (a % n)))) (bagL (a / n) b c cells :: R)) := by
  subst hρ
  simp [eVar, gIx, itemsOf, listOf, bagL, atI, ixN, gGt, int2, ha, sNamePut, intS, gMod, hn, gFdiv, hn2, setAt, muL]
theorem inSmall_of {i : Int} (h1 : -18446744073709551616 < i) (h2 : i < 18446744073709551616) : inSmall i = true := by
  unfold inSmall
  simp
  omega
theorem take_late {R : MS} {n b c : Int} {cells : List Int} (hn : 0 < n) (hb : 0 ≤ b) (hb2 : b < 2147483647) {ρ : Env} {x2 x3 : Option SV} (hρ : ρ = [some (.mu 0), some (.dt (.int n)), x2, x3, none, none, none]) :
    ∃ r, (sSeq (sIf (eBool (eBin gGt (eBin gIx (eVar 0) (eC (.int 0))) (eC (.int 0)))) (sSeq (sNamePut 4 (eVar 0) (eC (.int 0)) (eTup (eCons (eBin gMod (eCall (g1 intS) (eCons (eBin gIx (eVar 0) (eC (.int 0))) eNil)) (eVar 1)) (eCons (eBin gFdiv (eCall (g1 intS) (eCons (eBin gIx (eVar 0) (eC (.int 0))) eNil)) (eVar 1)) eNil))))
    (sRet (eVar 4))) sNext)
    (sSeq (sSet 5 (eBin gMod (eCall (g1 intS) (eCons (eBin gMul (eBin gAdd (eBin gIx (eVar 0) (eC (.int 1))) (eC (.int 1))) (eC (.int 39373))) eNil)) (eC (.int 1000000007))))
    (sSeq (sSet 6 (eBin gMod (eCall (g1 intS) (eCons (eBin gMul (eBin gMod (eCall (g1 intS) (eCons (eBin gMul (eVar 5) (eVar 5)) eNil)) (eC (.int 998244353))) (eC (.int 30011))) eNil)) (eC (.int 998244353))))
    (sRet (eBin gMod (eCall (g1 intS) (eCons (eBin gFdiv (eVar 6) (eC (.int 7))) eNil)) (eVar 1)))))) ρ (bagL 0 b c cells :: R) = some (.rt (.sv (.dt (.int r))) (bagL 0 b c cells :: R)) ∧ 0 ≤ r ∧ r < n := by
  subst hρ
  refine ⟨(((b + 1) * 39373 % 1000000007 * ((b + 1) * 39373 % 1000000007) % 998244353 * 30011 % 998244353) / 7) % n, ?_, Int.emod_nonneg _ (by omega), Int.emod_lt_of_pos _ hn⟩
  have e1 : inSmall 39373 = true := by decide
  have e2 : inSmall 30011 = true := by decide
  have e3 : inSmall ((b + 1) * 39373 % 1000000007) = true := inSmall_of (by have := Int.emod_nonneg ((b + 1) * 39373) (show (1000000007 : Int) ≠ 0 by decide); omega) (by have := Int.emod_lt_of_pos ((b + 1) * 39373) (show (0 : Int) < 1000000007 by decide); omega)
  simp [eVar, gIx, itemsOf, listOf, bagL, atI, ixN, gGt, int2, intS, gMod, hn, gFdiv, gMul, gAdd, e1, e2, e3]
theorem take_ok {B : MO} {R : MS} {n : Int} (hB : BagO B) (hn : 0 < n) (hn2 : n < 1073741824) : ∃ r B', runBody takeM 7 [.mu 0, .dt (.int n)] (B :: R) = some (.sv (.dt (.int r)), B' :: R) ∧ BagO B' ∧ 0 ≤ r ∧ r < n := by
  obtain ⟨a, b, c, cells, rfl, h1, h2, h3, h4, h5, h6⟩ := hB.ex
  by_cases ha : a = 0
  · subst ha
    obtain ⟨L, eL, hL, hp⟩ := cut_cells cells c h5 h6
    unfold runBody takeM
    rw [sSeq_ev]
    have first : ∃ y : Int, 0 ≤ y ∧ ∀ K : Env → MS → Option Out, outB ((sIf (eBool (eBin gEq (eBin gIx (eVar 0) (eC (.int 0))) (eC (.int 0)))) (sSeq (sSet 2 (eBin gIx (eBin gAdd (eSlice (eBin gIx (eVar 0) (eC (.int 3))) (ePart (eBin gIx (eVar 0) (eC (.int 2)))) eNoPart) (eLst (eCons (eC (.int 0)) eNil))) (eC (.int 0))))
    (sSeq (sAugPut (fun i j => i + j) (eVar 0) (eC (.int 2)) (eC (.int 1)))
    (sSeq (sPut (eVar 0) (eC (.int 0)) (eBin gMul (eVar 2) (eCall (g1 intS) (eCons (eBin gGe (eVar 2) (eBin gPow (eC (.int 10)) (eC (.int 18)))) eNil))))
    (sSeq (sSet 3 (eBin gAdd (eBin gAdd (eBin gMul (eBin gIx (eVar 0) (eC (.int 1))) (eC (.int 48271))) (eBin gMod (eCall (g1 intS) (eCons (eVar 2) eNil)) (eC (.int 2147483647)))) (eBin gMul (eC (.int 7919)) (eBin gIx (eVar 0) (eC (.int 2))))))
    (sPut (eVar 0) (eC (.int 1)) (eBin gMod (eCall (g1 intS) (eCons (eVar 3) eNil)) (eC (.int 2147483647)))))))) sNext) ([SV.mu 0, SV.dt (D.int n)].map some ++ List.replicate (7 - [SV.mu 0, SV.dt (D.int n)].length) none) (bagL 0 b c cells :: R)) K =
        K [some (.mu 0), some (.dt (.int n)), some (.dt (.int y)), some (.dt (.int (b * 48271 + y % 2147483647 + 7919 * (c + 1)))), none, none, none] (bagL (y * (if 1000000000000000000 ≤ y then 1 else 0)) ((b * 48271 + y % 2147483647 + 7919 * (c + 1)) % 2147483647) (c + 1) cells :: R) := by
      have e1 : inSmall 48271 = true := by decide
      have e2 : inSmall 7919 = true := by decide
      have e3 : inSmall 0 = true := by decide
      have e4 : ∀ y : Int, inSmall (if 1000000000000000000 ≤ y then (1 : Int) else 0) = true := fun y => by split <;> decide
      cases L with
      | nil =>
        refine ⟨0, Int.le_refl _, fun K => ?_⟩
        simp [eVar, gIx, itemsOf, listOf, bagL, atI, ixN, gSl, gAdd, sAugPut, setAt, muL, eL, gMul, intS, gGe, int2, gPow, gMod, e1, e2, e3, e4]
      | cons y t =>
        refine ⟨y, hp y (by simp), fun K => ?_⟩
        have ht : t.length ≤ 16777214 := by simp at hL; omega
        simp [eVar, gIx, itemsOf, listOf, bagL, atI, ixN, gSl, gAdd, sAugPut, setAt, muL, eL, gMul, intS, gGe, int2, gPow, gMod, e1, e2, e4, ht]
    obtain ⟨y, hy, e⟩ := first
    rw [e]
    have hq : 0 ≤ y * (if 1000000000000000000 ≤ y then (1 : Int) else 0) := by split <;> omega
    have hb1 := Int.emod_nonneg (b * 48271 + y % 2147483647 + 7919 * (c + 1)) (show (2147483647 : Int) ≠ 0 by decide)
    have hb2 := Int.emod_lt_of_pos (b * 48271 + y % 2147483647 + 7919 * (c + 1)) (show (0 : Int) < 2147483647 by decide)
    by_cases hz : y * (if 1000000000000000000 ≤ y then (1 : Int) else 0) = 0
    · rw [hz]
      obtain ⟨r, er, r1, r2⟩ := take_late (R := R) (c := c + 1) (cells := cells) hn hb1 hb2 rfl
      refine ⟨r, _, ?_, ⟨0, _, c + 1, cells, rfl, Int.le_refl _, hb1, hb2, by omega, h5, h6⟩, r1, r2⟩
      rw [er]
      simp [close]
    · refine ⟨(y * (if 1000000000000000000 ≤ y then (1 : Int) else 0)) % n, bagL ((y * (if 1000000000000000000 ≤ y then (1 : Int) else 0)) / n) ((b * 48271 + y % 2147483647 + 7919 * (c + 1)) % 2147483647) (c + 1) cells, ?_, ⟨_, _, c + 1, cells, rfl, Int.ediv_nonneg hq (by omega), hb1, hb2, by omega, h5, h6⟩, Int.emod_nonneg _ (by omega), Int.emod_lt_of_pos _ hn⟩
      rw [take_draw hn hn2 (by omega) rfl]
      simp [close]
  · have hpos : 0 < a := by omega
    have e0 : (sIf (eBool (eBin gEq (eBin gIx (eVar 0) (eC (.int 0))) (eC (.int 0)))) (sSeq (sSet 2 (eBin gIx (eBin gAdd (eSlice (eBin gIx (eVar 0) (eC (.int 3))) (ePart (eBin gIx (eVar 0) (eC (.int 2)))) eNoPart) (eLst (eCons (eC (.int 0)) eNil))) (eC (.int 0))))
    (sSeq (sAugPut (fun i j => i + j) (eVar 0) (eC (.int 2)) (eC (.int 1)))
    (sSeq (sPut (eVar 0) (eC (.int 0)) (eBin gMul (eVar 2) (eCall (g1 intS) (eCons (eBin gGe (eVar 2) (eBin gPow (eC (.int 10)) (eC (.int 18)))) eNil))))
    (sSeq (sSet 3 (eBin gAdd (eBin gAdd (eBin gMul (eBin gIx (eVar 0) (eC (.int 1))) (eC (.int 48271))) (eBin gMod (eCall (g1 intS) (eCons (eVar 2) eNil)) (eC (.int 2147483647)))) (eBin gMul (eC (.int 7919)) (eBin gIx (eVar 0) (eC (.int 2))))))
    (sPut (eVar 0) (eC (.int 1)) (eBin gMod (eCall (g1 intS) (eCons (eVar 3) eNil)) (eC (.int 2147483647)))))))) sNext) ([SV.mu 0, SV.dt (D.int n)].map some ++ List.replicate (7 - [SV.mu 0, SV.dt (D.int n)].length) none) (bagL a b c cells :: R) = some (.nx [some (.mu 0), some (.dt (.int n)), none, none, none, none, none] (bagL a b c cells :: R)) := by
      simp [eVar, gIx, itemsOf, listOf, bagL, atI, ixN, ha]
    unfold runBody takeM
    rw [sSeq_ev, e0, outB_nx, take_draw hn hn2 hpos rfl]
    refine ⟨a % n, bagL (a / n) b c cells, ?_, ⟨_, _, _, _, rfl, Int.ediv_nonneg h1 (by omega), h2, h3, h4, h5, h6⟩, Int.emod_nonneg _ (by omega), Int.emod_lt_of_pos _ hn⟩
    simp [close]
/-! ### the bag's making -/
def bagM : SM := (sRet (eLst (eCons (eC (.int 0)) (eCons (eC (.int 1234567891)) (eCons (eC (.int 0)) (eCons (eComp (eSeq (eSlice (eVar 0) eNoPart (ePart (eC (.int 63))))) (bName 1) cYes (eCall (g1 absS) (eCons (eVar 1) eNil)) [1]) eNil))))))
@[simp] theorem eSeq_ev {ρ : Env} {M : MS} (m : EM R) : eSeq m ρ M = (m ρ M).bind fun p => (seqSrc p.2 p.1.toSV).bind fun z => some (z, p.2) := by
  unfold eSeq
  rw [seq_ev, fz_ev]
  cases m ρ M with
  | none => rfl
  | some p =>
    simp only [Option.bind_some]
    cases seqSrc p.2 p.1.toSV <;> rfl
def absI (i : Int) : Int := if i < 0 then -i else i
theorem absI_nn (i : Int) : 0 ≤ absI i := by unfold absI; split <;> omega
def unI : SV → Int
  | .dt (.int i) => i
  | _ => 0
theorem bag_ok {ns : List Int} (h : ns.length ≤ 63) (M : MS) : ∃ cells : List Int, runBody bagM 2 [.dt (.scr ns)] M = some (.fr [.int 0, .int 1234567891, .int 0, .lst (cells.map .int)], M) ∧ BagO (bagL 0 1234567891 0 cells) := by
  have cut : cutD (ns.map D.int) none (some 63) = ns.map D.int := by
    unfold cutD
    have e1 : HT.sIx (ns.map D.int).length 0 none = 0 := rfl
    have e2 : HT.sIx (ns.map D.int).length (ns.map D.int).length (some 63) = ns.length := by
      unfold HT.sIx
      simp
      omega
    rw [e1, e2]
    simp only [List.drop_zero, Nat.sub_zero]
    exact List.take_of_length_le (by simp)
  have main : eComp (eSeq (eSlice (eVar 0) eNoPart (ePart (eC (.int 63))))) (bName 1) cYes (eCall (g1 absS) (eCons (eVar 1) eNil)) [1] [some (.dt (.scr ns)), none] M = some (.fr ((((ns.map D.int).map SV.dt).filter fun _ => true).map fun x => .int (absI (unI x))), M) := by
    obtain ⟨src, e, hs⟩ := isSrc_lst (M := M) (ds := ns.map D.int)
    refine comp_pure (fun _ => true) (fun x => .int (absI (unI x))) (src := src) (M0 := M) ?_ hs ?_ ?_
    · simp [eVar, gSl, cut, e]
    · simp
      omega
    · intro x hx
      simp only [List.mem_map] at hx
      obtain ⟨d, ⟨i, hi, rfl⟩, rfl⟩ := hx
      refine ⟨_, rfl, rfl, fun _ => ⟨.sv (.dt (.int (absI i))), ?_, rfl⟩⟩
      simp [eVar, wipeE, absS, absI]
  refine ⟨ns.map absI, ?_, ⟨0, 1234567891, 0, ns.map absI, rfl, by decide, by decide, by decide, by decide, by simpa using h, fun y hy => ?_⟩⟩
  · unfold runBody bagM
    rw [sRet_ev]
    have e : ([SV.dt (D.scr ns)].map some ++ List.replicate (2 - [SV.dt (D.scr ns)].length) none : Env) = [some (.dt (.scr ns)), none] := rfl
    rw [e]
    simp only [eLst_ev, eCons_ev, eC_ev, main, Option.bind_some, toSV_sv, toSV_fr, eNil_ev, allD_dt, allD_nil]
    have ef : ((((ns.map D.int).map SV.dt).filter fun _ => true).map fun x => D.int (absI (unI x))) = (ns.map absI).map D.int := by
      rw [List.filter_eq_self.mpr (fun _ _ => rfl)]
      simp [unI]
    rw [ef]
    simp [close]
  · simp only [List.mem_map] at hy
    obtain ⟨i, _, rfl⟩ := hy
    exact absI_nn i
end Dy

set_option Elab.async false
set_option linter.all false
set_option maxRecDepth 100000
set_option maxHeartbeats 4000000
/-! Layer Dy, part 18: how long a datum's text is; == of data. -/
namespace Dy
open PySem L2 PyProof.Rows
def okS (x : Str) : Bool := x.cps.all (· < 0x110000)
def okK : Key → Bool
  | .inl i => decide (i.natAbs.log2 < 1920)
  | .inr x => okS x
def kwt : Key → Nat
  | .inl _ => 1921
  | .inr x => 10 * x.length + 2
mutual
def goodD : D → Bool
  | .non => true
  | .bl _ => true
  | .int i => decide (i.natAbs.log2 < 1920)
  | .str x => okS x
  | .lst xs => goodL xs
  | .tup xs => goodL xs
  | .dct ks vs => ks.all okK && goodL vs
  | _ => false
def goodL : List D → Bool
  | [] => true
  | d :: r => goodD d && goodL r
end
mutual
def swt : D → Nat
  | .int _ => 1921
  | .str x => 10 * x.length + 2
  | .lst xs => swtL xs + 3
  | .tup xs => swtL xs + 3
  | .dct ks vs => (ks.map kwt).sum + swtL vs + 4 * ks.length + 3
  | _ => 5
def swtL : List D → Nat
  | [] => 0
  | d :: r => swt d + 2 + swtL r
end
mutual
def dep : D → Nat
  | .lst xs => depL xs + 1
  | .tup xs => depL xs + 1
  | .dct _ vs => depL vs + 1
  | _ => 0
def depL : List D → Nat
  | [] => 0
  | d :: r => max (dep d) (depL r)
end
theorem okS_lt {x : Str} (h : okS x = true) : ∀ c ∈ x.cps.toList, c < 16 ^ 8 := fun c hc => by
  unfold okS at h
  rw [← Array.all_toList] at h
  have := of_decide_eq_true (List.all_eq_true.mp h c hc)
  omega
theorem text_int {i : Int} (h : i.natAbs.log2 < 1920) : (PyData.int i).shown.length ≤ 1921 := by
  simp only [PyData.shown]
  exact int_text_len_1921 h
theorem text_str {x : Str} (h : okS x = true) : (PyData.str x).shown.length ≤ 10 * x.length + 2 := by
  simp only [PyData.shown]
  exact StrLaws.reprText_len x (okS_lt h)
theorem len_listText : ∀ ts : List Str, (listText ts).length ≤ piled ts + 2
  | [] => by decide
  | t :: ts => by
    unfold listText
    rw [strLen_append]
    show (textFrom 1 (("[" : Str) ++ ("" : String) ++ t) ts).length + _ ≤ _
    rw [textFrom_length_pos ts 1 _ (by decide), piled_cons, strLen_append, strLen_append]
    have e1 : (("[" : Str)).length = 1 := by decide
    have e2 : (("]" : Str)).length = 1 := by decide
    have e3 : ((("" : String) : Str)).length = 0 := by decide
    omega
theorem len_tupleText (ts : List Str) : (tupleText ts).length ≤ piled ts + 3 := by
  unfold tupleText
  rw [strLen_append, strLen_append]
  have e1 : (("(" : Str)).length = 1 := by decide
  have e2 : (((if ts.length == 1 then ",)" else ")" : String) : Str)).length ≤ 2 := by split <;> decide
  by_cases h : ts = []
  · subst h
    have : (Str.join ", " []).length = 0 := by decide
    omega
  · have := join_length_add ts h
    omega
theorem len_dictText (ts : List Str) : (dictText ts).length ≤ piled ts + 2 := by
  unfold dictText
  rw [strLen_append, strLen_append]
  have e1 : (("{" : Str)).length = 1 := by decide
  have e2 : (("}" : Str)).length = 1 := by decide
  by_cases h : ts = []
  · subst h
    have : (Str.join ", " []).length = 0 := by decide
    omega
  · have := join_length_add ts h
    omega
theorem key_text {k : Key} (h : okK k = true) : (kP k).showable = true ∧ (kP k).shown.length ≤ kwt k ∧ (kP k).depth = 0 := by
  cases k with
  | inl i =>
    have h2 : i.natAbs.log2 < 1920 := of_decide_eq_true h
    exact ⟨by simp only [kP, PyData.showable]; exact decide_eq_true h2, text_int h2, rfl⟩
  | inr x => exact ⟨rfl, text_str h, rfl⟩
theorem good_kv : ∀ (ks : List Key) (ps : List PyData), ks.all okK = true → PyData.showableAll ps = true → PyData.showableKv ((ks.map kP).zip ps) = true ∧
    piled (PyData.shownKv ((ks.map kP).zip ps)) ≤ (ks.map kwt).sum + piled (PyData.shownAll ps) + 4 * ks.length ∧ PyData.depthKv ((ks.map kP).zip ps) ≤ PyData.depthAll ps
  | [], ps, _, _ => ⟨rfl, by show 0 ≤ _; omega, Nat.zero_le _⟩
  | k :: ks, [], _, _ => ⟨rfl, by show 0 ≤ _; omega, Nat.zero_le _⟩
  | k :: ks, p :: ps, h, g => by
    rw [List.all_cons] at h
    obtain ⟨h1, h2⟩ := Bool.and_eq_true_iff.mp h
    simp only [PyData.showableAll] at g
    obtain ⟨g1, g2⟩ := Bool.and_eq_true_iff.mp g
    obtain ⟨a1, a2, a3⟩ := key_text h1
    obtain ⟨b1, b2, b3⟩ := good_kv ks ps h2 g2
    simp only [List.map_cons, List.zip_cons_cons, PyData.showableKv, PyData.shownKv, PyData.depthKv, PyData.shownAll, PyData.depthAll, a1, g1, b1, a3, List.sum_cons, List.length_cons]
    refine ⟨rfl, ?_, by omega⟩
    rw [piled_cons, piled_cons, strLen_append, strLen_append]
    have e : ((": " : Str)).length = 2 := by decide
    omega
mutual
theorem good_toQ : ∀ {d : D}, goodD d = true → ∃ p, toQ d = some p ∧ p.showable = true ∧ p.shown.length ≤ swt d ∧ p.depth ≤ dep d
  | .non, _ => ⟨.none, rfl, rfl, by decide, Nat.le_refl _⟩
  | .bl b, _ => ⟨.bool b, rfl, rfl, by cases b <;> decide, Nat.le_refl _⟩
  | .int i, h => by
    have h := of_decide_eq_true (by simpa only [goodD] using h)
    exact ⟨.int i, by simp only [toQ], by simp only [PyData.showable]; exact decide_eq_true h, by simp only [swt]; exact text_int h, Nat.le_refl _⟩
  | .str x, h => by
    have h : okS x = true := by simpa only [goodD] using h
    exact ⟨.str x, by simp only [toQ], rfl, by simp only [swt]; exact text_str h, Nat.le_refl _⟩
  | .lst xs, h => by
    have h : goodL xs = true := by simpa only [goodD] using h
    obtain ⟨ps, h1, h2, h3, h4⟩ := good_toQl h
    refine ⟨.list ps, by simp only [toQ, h1], by simp only [PyData.showable]; exact h2, ?_, by simp only [PyData.depth, dep]; omega⟩
    simp only [PyData.shown, swt]
    exact Nat.le_trans (len_listText _) (by omega)
  | .tup xs, h => by
    have h : goodL xs = true := by simpa only [goodD] using h
    obtain ⟨ps, h1, h2, h3, h4⟩ := good_toQl h
    refine ⟨.tuple ps, by simp only [toQ, h1], by simp only [PyData.showable]; exact h2, ?_, by simp only [PyData.depth, dep]; omega⟩
    simp only [PyData.shown, swt]
    exact Nat.le_trans (len_tupleText _) (by omega)
  | .dct ks vs, h => by
    simp only [goodD] at h
    obtain ⟨hk, h⟩ := Bool.and_eq_true_iff.mp h
    obtain ⟨ps, h1, h2, h3, h4⟩ := good_toQl h
    obtain ⟨k1, k2, k3⟩ := good_kv ks ps hk h2
    refine ⟨.dict ((ks.map kP).zip ps), by simp only [toQ, h1], by simp only [PyData.showable]; exact k1, ?_, by simp only [PyData.depth, dep]; omega⟩
    simp only [PyData.shown, swt]
    exact Nat.le_trans (len_dictText _) (by omega)
  | .ins .., h => by simp only [goodD] at h; cases h
  | .scr _, h => by simp only [goodD] at h; cases h
  | .obj _, h => by simp only [goodD] at h; cases h
theorem good_toQl : ∀ {ds : List D}, goodL ds = true → ∃ ps, toQl ds = some ps ∧ PyData.showableAll ps = true ∧ piled (PyData.shownAll ps) ≤ swtL ds ∧ PyData.depthAll ps ≤ depL ds
  | [], _ => ⟨[], rfl, rfl, by decide, Nat.le_refl _⟩
  | d :: r, h => by
    simp only [goodL] at h
    obtain ⟨h1, h2⟩ := Bool.and_eq_true_iff.mp h
    obtain ⟨p, a1, a2, a3, a4⟩ := good_toQ h1
    obtain ⟨ps, b1, b2, b3, b4⟩ := good_toQl h2
    refine ⟨p :: ps, by simp only [toQl, a1, b1], by simp only [PyData.showableAll, a2, b2, Bool.and_self], ?_, by simp only [PyData.depthAll, depL]; omega⟩
    simp only [PyData.shownAll, swtL]
    rw [piled_cons]
    omega
end
/-- repr of a datum -/
theorem repr_ok {d : D} (M : MS) (h : goodD d = true) (hw : swt d ≤ 16777216) (hd : dep d ≤ 63) : ∃ x : Str, reprS M (.dt d) = some (.sv (.dt (.str x))) := by
  obtain ⟨p, h1, h2, h3, h4⟩ := good_toQ h
  refine ⟨p.shown, ?_⟩
  unfold reprS
  simp only [peek_dt', h1]
  rw [if_pos ⟨h2, by rw [sizeLine_eq]; omega, by omega⟩]
/-! ### no dict within -/
mutual
def flatB : D → Bool
  | .non => true
  | .bl _ => true
  | .int _ => true
  | .str x => okS x
  | .lst xs => flatL xs
  | .tup xs => flatL xs
  | _ => false
def flatL : List D → Bool
  | [] => true
  | d :: r => flatB d && flatL r
end
mutual
theorem flat_toP : ∀ {d : D}, flatB d = true → ∃ p, toP d = some p ∧ p.canLay0 = true ∧ p.depth ≤ dep d
  | .non, _ => ⟨.none, rfl, rfl, Nat.le_refl _⟩
  | .bl b, _ => ⟨.bool b, rfl, rfl, Nat.le_refl _⟩
  | .int i, _ => ⟨.int i, rfl, rfl, Nat.le_refl _⟩
  | .str x, h => ⟨.str x, rfl, by simp only [flatB] at h; simp only [PyData.canLay0]; exact h, Nat.le_refl _⟩
  | .lst xs, h => by
    have h : flatL xs = true := by simpa only [flatB] using h
    obtain ⟨ps, h1, h2, h3⟩ := flat_toPl h
    exact ⟨.list ps, by simp only [toP, h1], by simp only [PyData.canLay0]; exact h2, by simp only [PyData.depth, dep]; omega⟩
  | .tup xs, h => by
    have h : flatL xs = true := by simpa only [flatB] using h
    obtain ⟨ps, h1, h2, h3⟩ := flat_toPl h
    exact ⟨.tuple ps, by simp only [toP, h1], by simp only [PyData.canLay0]; exact h2, by simp only [PyData.depth, dep]; omega⟩
  | .dct .., h => by simp only [flatB] at h; cases h
  | .ins .., h => by simp only [flatB] at h; cases h
  | .scr _, h => by simp only [flatB] at h; cases h
  | .obj _, h => by simp only [flatB] at h; cases h
theorem flat_toPl : ∀ {ds : List D}, flatL ds = true → ∃ ps, toPl ds = some ps ∧ PyData.canLayAll0 ps = true ∧ PyData.depthAll ps ≤ depL ds
  | [], _ => ⟨[], rfl, rfl, Nat.le_refl _⟩
  | d :: r, h => by
    simp only [flatL] at h
    obtain ⟨h1, h2⟩ := Bool.and_eq_true_iff.mp h
    obtain ⟨p, a1, a2, a3⟩ := flat_toP h1
    obtain ⟨ps, b1, b2, b3⟩ := flat_toPl h2
    exact ⟨p :: ps, by simp only [toPl, a1, b1], by simp only [PyData.canLayAll0, a2, b2, Bool.and_self], by simp only [PyData.depthAll, depL]; omega⟩
end
theorem flat_shaped {d : D} {p : PyData} (h : flatB d = true) (hd : dep d ≤ 64) (e : toP d = some p) : SeqAt.shaped p = true := by
  obtain ⟨q, h1, h2, h3⟩ := flat_toP h
  rw [e] at h1
  cases h1
  unfold SeqAt.shaped
  rw [h2]
  simp
  omega
/-- == of two data -/
theorem gEq_data {M : MS} {s t : SV} {d e : D} {p q : PyData} (h1 : peek M s = some d) (h2 : peek M t = some e) (h3 : toP d = some p) (h4 : toP e = some q) (h5 : SeqAt.shaped p = true) (h6 : SeqAt.shaped q = true) : eqS M s t = some (PyData.eqv p q) := by
  unfold eqS
  simp only [h1, h2, h3, h4, h5, h6, Bool.and_self, if_true]
theorem eqS_lens {M : MS} {s t : SV} {ds es : List D} {b : Bool} (h1 : peek M s = some (.lst ds)) (h2 : peek M t = some (.lst es)) (hl : ds.length ≠ es.length) (e : eqS M s t = some b) : b = false := by
  unfold eqS at e
  simp only [h1, h2] at e
  split at e
  · rename_i p q h3 h4
    split at e
    · cases e
      simp only [toP] at h3 h4
      cases h5 : toPl ds with
      | none => rw [h5] at h3; cases h3
      | some ps =>
        cases h6 : toPl es with
        | none => rw [h6] at h4; cases h4
        | some qs =>
          rw [h5] at h3
          rw [h6] at h4
          cases h3
          cases h4
          have lens : ∀ {xs : List D} {ys : List PyData}, toPl xs = some ys → xs.length = ys.length := by
            intro xs
            induction xs with
            | nil => intro ys h; simp only [toPl] at h; cases h; rfl
            | cons x xs ih =>
              intro ys h
              simp only [toPl] at h
              split at h
              · rename_i p ps _ h2
                cases h
                simp [ih h2]
              · cases h
          have l1 := lens h5
          have l2 := lens h6
          show PyData.eqvAll ps qs = false
          exact SeqAt.eqvAll_other_length (by omega)
    · cases e
  · cases e
/-- lists that are not equally long -/
theorem eqL_lens {M : MS} {s t : SV} {ds es : List D} (h1 : peek M s = some (.lst ds)) (h2 : peek M t = some (.lst es)) (h3 : (listOf M s).map List.length = some ds.length) (h4 : (listOf M t).map List.length = some es.length) (hl : ds.length ≠ es.length) : eqL M s t = some false := by
  unfold eqL
  cases e : eqS M s t with
  | some b => rw [eqS_lens h1 h2 hl e]
  | none =>
    unfold lenNe
    cases h5 : listOf M s with
    | none => rw [h5] at h3; cases h3
    | some xs =>
      cases h6 : listOf M t with
      | none => rw [h6] at h4; cases h4
      | some ys =>
        rw [h5] at h3
        rw [h6] at h4
        simp at h3 h4
        simp only
        rw [if_pos (by omega)]
/-- a list against [] -/
theorem eq_nil0 (ds : List D) (M : MS) : eqL M (.dt (.lst ds)) (.dt (.lst [])) = some ds.isEmpty := by
  cases ds with
  | nil => rfl
  | cons d r => exact eqL_lens (ds := d :: r) (es := []) (peek_dt' _) (peek_dt' _) (by simp [listOf]) (by simp [listOf]) (by simp)
theorem eq_nil {ds : List D} (M : MS) (h : flatL ds = true) (hd : depL ds ≤ 63) : gEq M (.dt (.lst ds)) (.dt (.lst [])) = some (.sv (.dt (.bl ds.isEmpty))) := by
  unfold gEq
  have e0 : eqT M (.dt (.lst ds)) (.dt (.lst [])) = eqL M (.dt (.lst ds)) (.dt (.lst [])) := rfl
  rw [e0, eq_nil0]
  rfl
@[simp] theorem gEq_nil (ds : List D) (M : MS) : gEq M (.dt (.lst ds)) (.dt (.lst [])) = some (.sv (.dt (.bl ds.isEmpty))) := by
  unfold gEq
  have e0 : eqT M (.dt (.lst ds)) (.dt (.lst [])) = eqL M (.dt (.lst ds)) (.dt (.lst [])) := rfl
  rw [e0, eq_nil0]
  rfl
@[simp] theorem gNe_nil (ds : List D) (M : MS) : gNe M (.dt (.lst ds)) (.dt (.lst [])) = some (.sv (.dt (.bl (!ds.isEmpty)))) := by
  unfold gNe
  have e0 : eqT M (.dt (.lst ds)) (.dt (.lst [])) = eqL M (.dt (.lst ds)) (.dt (.lst [])) := rfl
  rw [e0, eq_nil0]
  rfl
theorem flatL_of {ds : List D} (h : ∀ d ∈ ds, flatB d = true) : flatL ds = true := by
  induction ds with
  | nil => rfl
  | cons d r ih =>
    simp only [flatL, h d (by simp), ih fun x hx => h x (by simp [hx]), Bool.and_self]
theorem depL_of {ds : List D} {n : Nat} (h : ∀ d ∈ ds, dep d ≤ n) : depL ds ≤ n := by
  induction ds with
  | nil => simp [depL]
  | cons d r ih =>
    have h1 := h d (by simp)
    have h2 := ih fun x hx => h x (by simp [hx])
    simp only [depL]
    omega
theorem goodL_of {ds : List D} (h : ∀ d ∈ ds, goodD d = true) : goodL ds = true := by
  induction ds with
  | nil => rfl
  | cons d r ih =>
    simp only [goodL, h d (by simp), ih fun x hx => h x (by simp [hx]), Bool.and_self]
theorem swtL_of {ds : List D} {n : Nat} (h : ∀ d ∈ ds, swt d ≤ n) : swtL ds ≤ ds.length * (n + 2) := by
  induction ds with
  | nil => simp [swtL]
  | cons d r ih =>
    have h1 := h d (by simp)
    have h2 := ih fun x hx => h x (by simp [hx])
    simp only [swtL, List.length_cons, Nat.add_mul]
    omega
/-! ### more evaluation -/
section
variable {ρ : Env} {M : MS}
@[simp] theorem eChain_ev (g g' : MS → SV → SV → Option R) (ma mb mc : EM R) : eChain g g' ma mb mc ρ M = (ma ρ M).bind fun p => (mb ρ p.2).bind fun q => (g q.2 p.1.toSV q.1.toSV).bind fun z => (asB z).bind fun k => if k = true then ((mc ρ q.2).bind fun r => (g' r.2 q.1.toSV r.1.toSV).bind fun z => some (z, r.2)) else some (.sv (.dt (.bl false)), q.2) := by
  unfold eChain
  rw [seq_ev, fz_ev]
  cases ma ρ M with
  | none => rfl
  | some p =>
    simp only [Option.bind_some, seq_ev, fz_ev]
    cases mb ρ p.2 with
    | none => rfl
    | some q =>
      simp only [Option.bind_some]
      cases g q.2 p.1.toSV q.1.toSV with
      | none => rfl
      | some z =>
        simp only [Option.bind_some]
        cases z with
        | sv s =>
          cases s with
          | dt d =>
            cases d with
            | bl k =>
              cases k with
              | true =>
                simp only [asB_bl, Option.bind_some, if_true]
                cases mc ρ q.2 with
                | none => rfl
                | some r =>
                  simp only [Option.bind_some]
                  cases g' r.2 q.1.toSV r.1.toSV <;> rfl
              | false => rfl
            | _ => rfl
          | mu k => rfl
        | fr xs => rfl
        | fd ks xs => rfl
@[simp] theorem gLe_ev (i j : Int) : gLe M (.dt (.int i)) (.dt (.int j)) = some (.sv (.dt (.bl (decide (i ≤ j))))) := rfl
@[simp] theorem gLt_ev (i j : Int) : gLt M (.dt (.int i)) (.dt (.int j)) = some (.sv (.dt (.bl (decide (i < j))))) := rfl
@[simp] theorem gGt_ev (i j : Int) : gGt M (.dt (.int i)) (.dt (.int j)) = some (.sv (.dt (.bl (decide (j < i))))) := rfl
@[simp] theorem gGe_ev (i j : Int) : gGe M (.dt (.int i)) (.dt (.int j)) = some (.sv (.dt (.bl (decide (j ≤ i))))) := rfl
@[simp] theorem gAdd_int (i j : Int) : gAdd M (.dt (.int i)) (.dt (.int j)) = some (.sv (.dt (.int (i + j)))) := rfl
@[simp] theorem close_dt (d : D) (n : Nat) : close (.sv (.dt d)) M n = some (.sv (.dt d), M.take n) := rfl
@[simp] theorem close_fr (ds : List D) (n : Nat) : close (.fr ds) M n = some (.fr ds, M.take n) := rfl
@[simp] theorem close_fd (ks : List Key) (ds : List D) (n : Nat) : close (.fd ks ds) M n = some (.fd ks ds, M.take n) := rfl
/-- a body's run by its outcome -/
def fin (o : Option Out) (n : Nat) : Option (R × MS) := match o with
  | some (.rt r M') => close r M' n
  | some (.nx _ M') => some (.sv (.dt .non), M'.take n)
  | _ => none
theorem runBody_eq (b : SM) (n : Nat) (ss : List SV) (M : MS) : runBody b n ss M = fin (b (ss.map some ++ List.replicate (n - ss.length) none) M) M.length := rfl
@[simp] theorem fin_rt (r : R) (n : Nat) : fin (some (.rt r M)) n = close r M n := rfl
@[simp] theorem fin_nx (n : Nat) : fin (some (.nx ρ M)) n = some (.sv (.dt .non), M.take n) := rfl
end
/-! ### comprehensions over data -/
def unD {α : Type} (a : α) (f : D → α) : SV → α
  | .dt d => f d
  | .mu _ => a
theorem filter_unD (p : D → Bool) (f : D → D) (ds : List D) : (((ds.map SV.dt).filter (unD false p)).map (unD .non f)) = (ds.filter p).map f := by
  induction ds with
  | nil => rfl
  | cons d r ih =>
    rw [List.map_cons]
    by_cases h : p d = true
    · rw [List.filter_cons_of_pos (show unD false p (.dt d) = true from h), List.filter_cons_of_pos h, List.map_cons, List.map_cons, ih]
      rfl
    · rw [List.filter_cons_of_neg (show ¬ unD false p (.dt d) = true from h), List.filter_cons_of_neg h, ih]
theorem comp_data {m : EM R} {c : EM Bool} {el : EM R} {j : Nat} {ρ : Env} {M : MS} {r : R} {src : Src} {ds : List D} (p : D → Bool) (f : D → D) (hm : m ρ M = some (r, M)) (hr : seqSrc M r.toSV = some src) (hs : IsSrc src (ds.map .dt)) (hl : ds.length ≤ 16777216)
    (step : ∀ d ∈ ds, c ((ρ.set j none).set j (some (.dt d))) M = some (p d, M) ∧ (p d = true → ∃ r, el ((ρ.set j none).set j (some (.dt d))) M = some (r, M) ∧ r.toSV = .dt (f d))) :
    eComp (eSeq m) (bName j) c el [j] ρ M = some (.fr ((ds.filter p).map f), M) := by
  rw [comp_pure (src := src) (xs := ds.map .dt) (M0 := M) (unD false p) (unD .non f) (by rw [eSeq_ev, hm]; simp only [Option.bind_some, hr]) hs (by rw [sizeLine_eq]; simpa using hl) ?_, filter_unD]
  intro x hx
  rw [List.mem_map] at hx
  obtain ⟨d, hd, rfl⟩ := hx
  obtain ⟨h1, h2⟩ := step d hd
  exact ⟨_, rfl, h1, h2⟩
theorem comp_lst {m : EM R} {c : EM Bool} {el : EM R} {j : Nat} {ρ : Env} {M : MS} {r : R} {ds : List D} (p : D → Bool) (f : D → D) (hm : m ρ M = some (r, M)) (hr : r.toSV = .dt (.lst ds) ∨ r.toSV = .dt (.tup ds)) (hl : ds.length ≤ 16777216)
    (step : ∀ d ∈ ds, c ((ρ.set j none).set j (some (.dt d))) M = some (p d, M) ∧ (p d = true → ∃ r, el ((ρ.set j none).set j (some (.dt d))) M = some (r, M) ∧ r.toSV = .dt (f d))) :
    eComp (eSeq m) (bName j) c el [j] ρ M = some (.fr ((ds.filter p).map f), M) := by
  rcases hr with hr | hr
  · obtain ⟨src, e, hs⟩ := isSrc_lst (M := M) (ds := ds)
    exact comp_data p f hm (by rw [hr]; exact e) hs hl step
  · obtain ⟨src, e, hs⟩ := isSrc_tup (M := M) (ds := ds)
    exact comp_data p f hm (by rw [hr]; exact e) hs hl step
def sg (c : Nat) : D := .str ⟨#[c]⟩
theorem comp_str {m : EM R} {c : EM Bool} {el : EM R} {j : Nat} {ρ : Env} {M : MS} {r : R} {z : Str} (p : D → Bool) (f : D → D) (hm : m ρ M = some (r, M)) (hr : r.toSV = .dt (.str z)) (hl : z.length ≤ 16777216)
    (step : ∀ d ∈ signs z, c ((ρ.set j none).set j (some (.dt d))) M = some (p d, M) ∧ (p d = true → ∃ r, el ((ρ.set j none).set j (some (.dt d))) M = some (r, M) ∧ r.toSV = .dt (f d))) :
    eComp (eSeq m) (bName j) c el [j] ρ M = some (.fr (((signs z).filter p).map f), M) := by
  obtain ⟨src, e, hs⟩ := isSrc_str (M := M) (z := z)
  refine comp_data p f hm (by rw [hr]; exact e) hs ?_ step
  have : (signs z).length = z.length := by simp [signs, Str.length]
  omega
theorem bools_all (bs : List Bool) : dBools (bs.map D.bl) = some bs := by
  induction bs with
  | nil => rfl
  | cons b r ih => simp [dBools, ih]
theorem all_ev {M : MS} {ds : List D} (p : D → Bool) : allS M (.dt (.lst (ds.map fun d => .bl (p d)))) = some (.sv (.dt (.bl (ds.all p)))) := by
  unfold allS
  have e : (ds.map fun d => D.bl (p d)) = (ds.map p).map D.bl := by rw [List.map_map]; rfl
  rw [listD_lst, e]
  simp only [bools_all]
  rw [List.all_map]
  rfl
end Dy

set_option Elab.async false
set_option linter.all false
set_option maxRecDepth 100000
set_option maxHeartbeats 4000000
/-! Layer Dy, part 19: drawn things. -/
namespace Dy
open PySem L2 PyProof.Rows
/-! ### texts -/
theorem okS_iff {x : Str} : okS x = true ↔ ∀ c ∈ x.cps.toList, c < 0x110000 := by
  unfold okS
  rw [← Array.all_toList, List.all_eq_true]
  constructor
  · intro h c hc
    exact of_decide_eq_true (h c hc)
  · intro h c hc
    exact decide_eq_true (h c hc)
theorem okS_app {x y : Str} (hx : okS x = true) (hy : okS y = true) : okS (x ++ y) = true := by
  rw [okS_iff] at *
  intro c hc
  rw [show (x ++ y).cps.toList = x.cps.toList ++ y.cps.toList from TL.tl_append x y] at hc
  rcases List.mem_append.mp hc with h | h
  · exact hx c h
  · exact hy c h
theorem okS_cut {z : Str} {lo hi : Option Int} (h : okS z = true) : okS (cutS z lo hi) = true := by
  rw [okS_iff] at *
  intro c hc
  have e : (cutS z lo hi).cps.toList = (z.cps.toList.drop (HT.sIx z.length 0 lo)).take (HT.sIx z.length z.length hi - HT.sIx z.length 0 lo) := by
    unfold cutS
    simp
  rw [e] at hc
  exact h c (List.mem_of_mem_drop (List.mem_of_mem_take hc))
theorem okS_one {c : Nat} (h : c < 0x110000) : okS ⟨#[c]⟩ = true := by
  rw [okS_iff]
  intro d hd
  have : d = c := by simpa using hd
  omega
theorem join_nil_tl : ∀ ys : List Str, (Txt.join (Str.ofString "") ys).cps.toList = (ys.map fun y => y.cps.toList).flatten := fun ys => by
  rw [TL.join_eq]
  have e := TL.tl_join (Str.ofString "") ys
  have e2 : (Str.join (Str.ofString "") ys).cps.toList = TL.joinL [] (ys.map TL.tl) := e
  rw [e2]
  have key : ∀ l : List (List Nat), TL.joinL [] l = l.flatten := by
    intro l
    induction l with
    | nil => rfl
    | cons p r ih =>
      cases r with
      | nil => simp [TL.joinL]
      | cons q r => simp only [TL.joinL, List.nil_append, ih, List.flatten_cons]
  exact key _
/-! ### evaluation -/
section
variable {ρ : Env} {M : MS}
@[simp] theorem eRng1_ev (m : EM R) : eRng1 (eCons m eNil) ρ M = (m ρ M).bind fun p => (asI p.1.toSV).bind fun j => if isRange j = true then some (rngSrc 0 j.toNat, p.2) else none := by
  unfold eRng1
  rw [seq_ev, eCons_ev]
  cases m ρ M with
  | none => rfl
  | some p =>
    simp only [Option.bind_some, eNil_ev]
    cases p.1.toSV with
    | dt d => cases d <;> rfl
    | mu k => rfl
@[simp] theorem eMt_ev (T : String) (g : MS → SV → List SV → Option (R × MS)) (m : EM R) (ms : EM (List SV)) : eMt T g m ms ρ M = (m ρ M).bind fun p => if isTyS T p.2 p.1.toSV = true then ((ms ρ p.2).bind fun q => g q.2 p.1.toSV q.1) else none := by
  unfold eMt
  rw [seq_ev, fz_ev]
  cases m ρ M with
  | none => rfl
  | some p =>
    simp only [Option.bind_some]
    split
    · rw [seq_ev]
    · rfl
@[simp] theorem sNew_fr {i : Nat} {me : EM R} {ds : List D} {M' : MS} (h : me ρ M = some (.fr ds, M')) : sNew i me ρ M = some (.nx (ρ.set i (some (.mu M'.length))) (M' ++ [.l (ds.map .dt)])) := by
  unfold sNew
  rw [h]
@[simp] theorem eIsiC_ev (C : Addr) (m : EM R) : eIsiC C m ρ M = (m ρ M).bind fun p => (isiCS C p.2 p.1.toSV).bind fun b => some (.sv (.dt (.bl b)), p.2) := by
  unfold eIsiC
  rw [seq_ev, fz_ev]
  cases m ρ M with
  | none => rfl
  | some p =>
    simp only [Option.bind_some]
    cases isiCS C p.2 p.1.toSV <;> rfl
end
theorem atI_in {α : Type} {xs : List α} {i : Int} (h0 : 0 ≤ i) (h1 : i < xs.length) : ∃ x ∈ xs, atI xs i = some x ∧ xs[i.toNat]? = some x := by
  have hl : i.toNat < xs.length := by omega
  refine ⟨xs[i.toNat], List.getElem_mem _, ?_, List.getElem?_eq_getElem hl⟩
  unfold atI ixN
  rw [if_pos h0, if_pos h1]
  exact List.getElem?_eq_getElem hl
theorem gIx_lst {M : MS} {ds : List D} {i : Int} (h0 : 0 ≤ i) (h1 : i < ds.length) : ∃ d ∈ ds, gIx M (.dt (.lst ds)) (.dt (.int i)) = some (.sv (.dt d)) ∧ ds[i.toNat]? = some d := by
  have hl : i.toNat < ds.length := by omega
  refine ⟨ds[i.toNat], List.getElem_mem _, ?_, List.getElem?_eq_getElem hl⟩
  unfold gIx
  simp only [itemsOf_lst]
  unfold atI ixN
  rw [if_pos h0, if_pos (by simpa using h1)]
  simp [List.getElem?_eq_getElem hl]
theorem gIx_tup {M : MS} {ds : List D} {i : Int} (h0 : 0 ≤ i) (h1 : i < ds.length) : ∃ d ∈ ds, gIx M (.dt (.tup ds)) (.dt (.int i)) = some (.sv (.dt d)) ∧ ds[i.toNat]? = some d := by
  have hl : i.toNat < ds.length := by omega
  refine ⟨ds[i.toNat], List.getElem_mem _, ?_, List.getElem?_eq_getElem hl⟩
  unfold gIx
  simp only [itemsOf_tup]
  unfold atI ixN
  rw [if_pos h0, if_pos (by simpa using h1)]
  simp [List.getElem?_eq_getElem hl]
theorem gIx_str {M : MS} {z : Str} {i : Int} (hz : z.length ≤ 16777216) (h0 : 0 ≤ i) (h1 : i < z.length) : ∃ c ∈ z.cps.toList, gIx M (.dt (.str z)) (.dt (.int i)) = some (.sv (.dt (.str ⟨#[c]⟩))) := by
  obtain ⟨c, hc, e, _⟩ := atI_in (xs := z.cps.toList) h0 (by simpa [Str.length] using h1)
  refine ⟨c, hc, ?_⟩
  unfold gIx
  simp only [sizeLine_ev, if_pos hz, e]
/-! ### comprehensions that draw -/
def Bagged (R : MS) (M : MS) : Prop := ∃ B, M = B :: R ∧ BagO B
theorem comp_each_go {src : Src} {xs : List SV} {b : Bnd} {el : EM R} {ρ0 : Env} (hs : IsSrc src xs) (Inv : MS → Prop) (P : D → Prop) (hl : xs.length ≤ sizeLine)
    (step : ∀ x ∈ xs, ∀ M, Inv M → ∃ ρ1, b x ρ0 = some ρ1 ∧ ∃ r d M2, el ρ1 M = some (r, M2) ∧ r.toSV = .dt d ∧ P d ∧ Inv M2) :
    ∀ (k i : Nat) (acc : List D) (M : MS), i + k = xs.length → acc.length = i → (∀ d ∈ acc, P d) → Inv M → ∃ ds M', compGo src b cYes el ρ0 k i acc M = some (ds, M') ∧ Inv M' ∧ (∀ d ∈ ds, P d) ∧ ds.length = xs.length
  | 0, i, acc, M, hi, ha, hp, hM => by
    refine ⟨acc, M, ?_, hM, hp, by omega⟩
    show (if src.stop M i = true then some (acc, M) else none) = _
    rw [hs.stop, if_pos (decide_eq_true (by omega))]
  | k + 1, i, acc, M, hi, ha, hp, hM => by
    have hx : xs[i]? = some xs[i] := List.getElem?_eq_getElem (by omega)
    obtain ⟨ρ1, hb, r, d, M2, he, hr, hd, hM2⟩ := step xs[i] (List.getElem_mem _) M hM
    unfold compGo
    rw [hs.get, hx]
    simp only [hb, cYes_ev]
    have hf : fz el ρ1 M = some (.dt d, M2) := by
      unfold fz EM.seq
      rw [he]
      show some (r.toSV, M2) = _
      rw [hr]
    simp only [hf]
    rw [if_pos (by omega)]
    refine comp_each_go hs Inv P hl step k (i + 1) (acc ++ [d]) M2 (by omega) (by simp; omega) (fun y hy => ?_) hM2
    rcases List.mem_append.mp hy with h | h
    · exact hp y h
    · rw [List.mem_singleton.mp h]; exact hd
theorem comp_each {src : Src} {xs : List SV} {b : Bnd} {el : EM R} {ms : EM Src} {vs : List Nat} {ρ : Env} {M M0 : MS} (Inv : MS → Prop) (P : D → Prop) (hm : ms ρ M = some (src, M0)) (hs : IsSrc src xs) (hl : xs.length ≤ 16777216) (h0 : Inv M0)
    (step : ∀ x ∈ xs, ∀ M, Inv M → ∃ ρ1, b x (wipeE ρ vs) = some ρ1 ∧ ∃ r d M2, el ρ1 M = some (r, M2) ∧ r.toSV = .dt d ∧ P d ∧ Inv M2) :
    ∃ ds M', eComp ms b cYes el vs ρ M = some (.fr ds, M') ∧ Inv M' ∧ (∀ d ∈ ds, P d) ∧ ds.length = xs.length := by
  obtain ⟨ds, M', h1, h2, h3, h4⟩ := comp_each_go (ρ0 := wipeE ρ vs) hs Inv P (by rw [sizeLine_eq]; exact hl) step xs.length 0 [] M0 (by omega) rfl (by simp) h0
  refine ⟨ds, M', ?_, h2, h3, h4⟩
  unfold eComp
  simp only [hm]
  rw [hs.n, h1]
theorem comp_draw {ms : EM Src} {j : Nat} {el : EM R} {ρ : Env} {M : MS} {lo : Int} {n : Nat} {B : MO} {R : MS} (P : D → Prop) (hm : ms ρ M = some (rngSrc lo n, B :: R)) (hB : BagO B) (hn : n ≤ 16777216)
    (step : ∀ i, i < n → ∀ B, BagO B → ∃ r d B', el ((ρ.set j none).set j (some (.dt (.int (lo + (i : Nat)))))) (B :: R) = some (r, B' :: R) ∧ r.toSV = .dt d ∧ P d ∧ BagO B') :
    ∃ ds B', eComp ms (bName j) cYes el [j] ρ M = some (.fr ds, B' :: R) ∧ BagO B' ∧ (∀ d ∈ ds, P d) ∧ ds.length = n := by
  obtain ⟨ds, M', h1, ⟨B', rfl, hB'⟩, h3, h4⟩ := comp_each (vs := [j]) (ρ := ρ) (M := M) (b := bName j) (el := el) (Bagged R) P hm (isSrc_rng lo n) (by simpa using hn) ⟨B, rfl, hB⟩ (fun x hx M hM => by
    simp only [List.mem_map, List.mem_range] at hx
    obtain ⟨i, hi, rfl⟩ := hx
    obtain ⟨B0, rfl, hB0⟩ := hM
    obtain ⟨r, d, B', e1, e2, e3, e4⟩ := step i hi B0 hB0
    exact ⟨_, rfl, r, d, B' :: R, e1, e2, e3, ⟨B', rfl, e4⟩⟩)
  exact ⟨ds, B', h1, hB', h3, by simpa using h4⟩
theorem isRange_of {i : Int} (h0 : -1000000000 ≤ i) (h1 : i ≤ 1000000000) : isRange i = true := by
  unfold isRange
  simp
  omega

/-! ### a list behind a handle -/
theorem peeks_map (n : Nat) (M : MS) (ds : List D) : peeks (peekN n M) (ds.map .dt) = some ds := by
  induction ds with
  | nil => rfl
  | cons d r ih =>
    simp only [List.map_cons, peeks, peek_dt, ih]
theorem peek_mu {M : MS} {k : Nat} {ds : List D} (h : M[k]? = some (.l (ds.map .dt))) : peek M (.mu k) = some (.lst ds) := by
  show peekN 3 M (.mu k) = _
  unfold peekN
  rw [h]
  simp only [peeks_map]
theorem listOf_mu {M : MS} {k : Nat} {xs : List SV} (h : M[k]? = some (.l xs)) : listOf M (.mu k) = some xs := by
  unfold listOf
  simp only [h]
theorem eqL_nil_mu {M : MS} {k : Nat} {ds : List D} (h : M[k]? = some (.l (ds.map .dt))) : eqL M (.mu k) (.dt (.lst [])) = some ds.isEmpty := by
  cases ds with
  | nil =>
    have e : eqS M (.mu k) (.dt (.lst [])) = some (PyData.eqv (.list []) (.list [])) := gEq_data (d := .lst []) (e := .lst []) (peek_mu (ds := []) h) (peek_dt' _) rfl rfl rfl rfl
    unfold eqL
    rw [e]
    rfl
  | cons d r => exact eqL_lens (ds := d :: r) (es := []) (peek_mu h) (peek_dt' _) (by rw [listOf_mu h]; simp) (by simp [listOf]) (by simp)
theorem ne_nil_mu0 {M : MS} {k : Nat} {ds : List D} (h : M[k]? = some (.l (ds.map .dt))) : gNe M (.mu k) (.dt (.lst [])) = some (.sv (.dt (.bl (!ds.isEmpty)))) := by
  unfold gNe
  have e0 : eqT M (.mu k) (.dt (.lst [])) = eqL M (.mu k) (.dt (.lst [])) := rfl
  rw [e0, eqL_nil_mu h]
  rfl
theorem ne_nil_mu {M : MS} {k : Nat} {ds : List D} (h : M[k]? = some (.l (ds.map .dt))) (hf : flatL ds = true) (hd : depL ds ≤ 63) : gNe M (.mu k) (.dt (.lst [])) = some (.sv (.dt (.bl (!ds.isEmpty)))) := ne_nil_mu0 h
theorem listD_mu {M : MS} {k : Nat} {ds : List D} (h : M[k]? = some (.l (ds.map .dt))) : listD M (.mu k) = some ds := by
  unfold listD
  rw [listOf_mu h]
  exact allD_map ds
theorem itemsOf_mu {M : MS} {k : Nat} {xs : List SV} (h : M[k]? = some (.l xs)) : itemsOf M (.mu k) = some xs := by
  unfold itemsOf
  exact listOf_mu h
theorem itemsD_mu {M : MS} {k : Nat} {ds : List D} (h : M[k]? = some (.l (ds.map .dt))) : itemsD M (.mu k) = some ds := by
  unfold itemsD
  rw [itemsOf_mu h]
  exact allD_map ds
theorem lenS_mu {M : MS} {k : Nat} {ds : List D} (h : M[k]? = some (.l (ds.map .dt))) : lenS M (.mu k) = some (.sv (.dt (.int ds.length))) := by
  unfold lenS
  simp only [itemsOf_mu h]
  simp
theorem muL_mu {M : MS} {k : Nat} {xs : List SV} (h : M[k]? = some (.l xs)) : muL M (.mu k) = some (k, xs) := by
  unfold muL
  simp only [h]
theorem setAt_mu {M : MS} {k : Nat} {ds : List D} {i : Int} {d : D} (h : M[k]? = some (.l (ds.map .dt))) (h0 : 0 ≤ i) (h1 : i < ds.length) : setAt M (.mu k) (.dt (.int i)) (.dt d) = some (M.set k (.l ((ds.set i.toNat d).map .dt))) := by
  unfold setAt
  rw [muL_mu h]
  simp [ixN, h0, h1, List.map_set]
theorem tupleS_mu {M : MS} {k : Nat} {ds : List D} (h : M[k]? = some (.l (ds.map .dt))) : tupleS M (.mu k) = some (.sv (.dt (.tup ds))) := by
  unfold tupleS
  simp only [listD_mu h]
theorem close_mu {M : MS} {k n : Nat} {ds : List D} (h : M[k]? = some (.l (ds.map .dt))) (hk : n ≤ k) : close (.sv (.mu k)) M n = some (.fr ds, M.take n) := by
  unfold close
  dsimp only
  rw [if_neg (by omega)]
  simp only [h, allD_map]
@[simp] theorem tupleS_lst {M : MS} (ds : List D) : tupleS M (.dt (.lst ds)) = some (.sv (.dt (.tup ds))) := by
  unfold tupleS
  simp only [listD_lst]
@[simp] theorem tupleS_tup {M : MS} (ds : List D) : tupleS M (.dt (.tup ds)) = some (.sv (.dt (.tup ds))) := rfl
@[simp] theorem listS_lst {M : MS} (ds : List D) : listS M (.dt (.lst ds)) = some (.fr ds) := by
  unfold listS
  simp only [itemsD_lst]
@[simp] theorem listS_tup {M : MS} (ds : List D) : listS M (.dt (.tup ds)) = some (.fr ds) := by
  unfold listS
  simp only [itemsD_tup]
end Dy

set_option Elab.async false
set_option linter.all false
set_option maxRecDepth 100000
set_option maxHeartbeats 4000000
/-! Layer Dy, part S: Python's order of data that need be comparable only up to the first place at which they differ. -/
namespace Dy
open PySem PySem.W PySem.SeqAt PyProof.Rows
section
open Sem (wp)
open AutoSeq1 (wpAny_loadPart')
open MeetsSeq MeetsSeq2 MeetsSeq3 SeqRoads2
/-- what stands behind the first unlike place is not asked -/
theorem tup_lt_first (p q : Addr) (us vs : Array Value) (n m : Nat) (d1 d2 : Option Addr) (s1 s2 : Array (Option Value)) (e r : Nat → Bool) :
    Meets (Builtin.«tuple.__lt__» ⟨[.ref p, .ref q], []⟩)
      (fun A R s => s.heap.get? p = some { cls := .type "tuple", dict := d1, data := .seq us n, slots := s1 } ∧ s.heap.get? q = some { cls := .type "tuple", dict := d2, data := .seq vs m, slots := s2 } ∧
        (∀ j (a1 : j < us.size) (a2 : j < vs.size), EqAt A.in1 s us[j] vs[j] (e j)) ∧ (∀ j (a1 : j < us.size) (a2 : j < vs.size), (∀ i, i < j → e i = true) → e j = false → RcLt A.in1 s us[j] vs[j] (r j)) ∧
        R (.ok (.ret (.bool (firstLt e r (decide (us.size < vs.size)) (List.range (min us.size vs.size)))))) s) :=
  .of_wp fun prog w A R s hyp => by
    obtain ⟨hp, g, d, tk, os⟩ := s
    obtain ⟨g1, g2, ge, gr, gR⟩ := hyp
    have sub2 := AutoSeq1.sub_tuple_tuple
    have len : (us.toList.zip vs.toList).length = min us.size vs.size := by simp
    wp_walk using wpAny_loadPart' g1, wpAny_loadPart' g2, wpAny_forIn_list _ (fun rest b s' => b.1 = none ∧ s' = ⟨hp, g, d, tk, os⟩ ∧ ∃ i, (∀ k, k < i → e k = true) ∧ rest = (us.toList.zip vs.toList).drop i ∧
      R (.ok (.ret (.bool (firstLt e r (decide (us.size < vs.size)) ((List.range (min us.size vs.size)).drop i))))) ⟨hp, g, d, tk, os⟩) _
    case turn =>
      rintro ⟨y, x⟩ rest b s' ⟨hb', rfl, i, all, hz, hR⟩
      have lt : i < (us.toList.zip vs.toList).length := by
        apply Nat.lt_of_not_le
        intro ge
        rw [List.drop_of_length_le ge] at hz
        cases hz
      have lm : i < min us.size vs.size := by rw [← len]; exact lt
      have l1 : i < us.size := by omega
      have l2 : i < vs.size := by omega
      rw [List.drop_eq_getElem_cons lt] at hz
      obtain ⟨hyx, hrest⟩ := List.cons.inj hz
      have ey : y = us[i] := by simpa using congrArg Prod.fst hyx
      have ex : x = vs[i] := by simpa using congrArg Prod.snd hyx
      subst ey ex
      rw [show (List.range (min us.size vs.size)).drop i = i :: (List.range (min us.size vs.size)).drop (i + 1) by simp [List.drop_eq_getElem_cons, lm]] at hR
      refine wpAny_bind (ge i l1 l2 prog w _ _ ?_)
      cases hi : e i with
      | true =>
        rw [firstLt_yes hi] at hR
        wp_walk
        refine ⟨rfl, rfl, i + 1, fun k hk => ?_, hrest, hR⟩
        by_cases z : k = i
        · rw [z]; exact hi
        · exact all k (by omega)
      | false =>
        rw [firstLt_no hi] at hR
        simp only [Bool.not_false, if_true]
        refine wpAny_bind (wpAny_rule ?_)
        refine wpAny_bind (gr i l1 l2 all hi prog w _ _ ?_)
        wp_walk
        exact ⟨_, rfl, hR⟩
    case fin =>
      rintro ⟨b1, b2⟩ s' ⟨hb', rfl, i, all, hz, hR⟩
      simp only at hb'
      subst hb'
      have over : min us.size vs.size ≤ i := by
        apply Nat.le_of_not_lt
        intro lt
        rw [List.drop_eq_getElem_cons (by rw [len]; exact lt)] at hz
        cases hz
      rw [List.drop_of_length_le (by simpa using over)] at hR
      wp_walk
      exact ⟨_, rfl, by simpa [Builtin.Tuple.tupleCompareSizes, firstLt] using hR⟩
    case h =>
      exact ⟨rfl, rfl, 0, fun k hk => absurd hk (Nat.not_lt_zero _), rfl, by simpa using gR⟩
end
theorem rc_tuples {A : Around} {s : Shared} {p q : Addr} {us vs : Array Value} {e r : Nat → Bool} (tp : s.heap.IsTuple p us) (tq : s.heap.IsTuple q vs) (hu : A.units < cLine)
    (he : ∀ j (a1 : j < us.size) (a2 : j < vs.size), EqAt A.in1 s us[j] vs[j] (e j)) (hr : ∀ j (a1 : j < us.size) (a2 : j < vs.size), (∀ i, i < j → e i = true) → e j = false → RcLt A.in1 s us[j] vs[j] (r j)) :
    RcLt A s (.ref p) (.ref q) (firstLt e r (decide (us.size < vs.size)) (List.range (min us.size vs.size))) := by
  intro prog w E Q hQ
  obtain ⟨⟨c1, d1, t1, s1⟩, o1, k1, n, e1⟩ := id tp
  obtain ⟨⟨c2, d2, t2, s2⟩, o2, k2, m, e2⟩ := id tq
  simp only at k1 e1 k2 e2
  subst k1 e1 k2 e2
  refine richCompare_meets_room (op := .Lt) ⟨_, o1, rfl⟩ ⟨_, o2, rfl⟩ F.slot_tuple_lt F.entry_tuple_lt (F.args_tuple_lt_2 _ _) (tup_lt_first p q us vs n m d1 d2 s1 s2 e r) ⟨o1, o2, he, hr, ?_⟩ hu
  exact And.intro (fun z => nomatch z) hQ

mutual
/-- the two can be compared: place by place, up to the first unlike one -/
def cmpD : PyData → PyData → Bool
  | .none, .none => true
  | .bool _, .bool _ => true
  | .int _, .int _ => true
  | .str _, .str _ => true
  | .tuple xs, .tuple ys => cmpL xs ys
  | _, _ => false
def cmpL : List PyData → List PyData → Bool
  | x :: xs, y :: ys => cmpD x y && (!PyData.eqv x y || cmpL xs ys)
  | [], _ => true
  | _ :: _, [] => true
end
abbrev Tk := Int ⊕ List Nat
/-- two rows of signs part -/
def Div (L M : List Tk) : Prop := ∃ p a b l m, L = p ++ a :: l ∧ M = p ++ b :: m ∧ a ≠ b
theorem Div.app {L M : List Tk} (h : Div L M) (l m : List Tk) : Div (L ++ l) (M ++ m) := by
  obtain ⟨p, a, b, l1, m1, rfl, rfl, ne⟩ := h
  exact ⟨p, a, b, l1 ++ l, m1 ++ m, by simp, by simp, ne⟩
theorem Div.pre {L M : List Tk} (h : Div L M) (q : List Tk) : Div (q ++ L) (q ++ M) := by
  obtain ⟨p, a, b, l1, m1, rfl, rfl, ne⟩ := h
  exact ⟨q ++ p, a, b, l1, m1, by simp, by simp, ne⟩
theorem Div.lex {L M : List Tk} (h : Div L M) (l m : List Tk) : PyProof.Rows.lexLt itemOrd (L ++ l) (M ++ m) = PyProof.Rows.lexLt itemOrd L M := by
  obtain ⟨p, a, b, l1, m1, rfl, rfl, ne⟩ := h
  rw [List.append_assoc, List.append_assoc, lex_pre, lex_pre, List.cons_append, List.cons_append, lex_atom ne, lex_atom ne l1 m1]
theorem cmpL_cons {x y : PyData} {xs ys : List PyData} (h : cmpL (x :: xs) (y :: ys) = true) : cmpD x y = true ∧ (PyData.eqv x y = true → cmpL xs ys = true) := by
  rw [cmpL, Bool.and_eq_true] at h
  refine ⟨h.1, fun e => ?_⟩
  have := h.2
  rw [e] at this
  simpa using this
mutual
theorem toksC : ∀ (x y : PyData), cmpD x y = true → (PyData.eqv x y = true → keyToks x = keyToks y) ∧ (PyData.eqv x y = false → Div (keyToks x) (keyToks y))
  | .none, y, h => by
    cases y with
    | none => exact ⟨fun _ => rfl, fun e => by simp [PyData.eqv] at e⟩
    | _ => simp [cmpD] at h
  | .bool a, y, h => by
    cases y with
    | bool b => exact ⟨fun e => by simp [PyData.eqv] at e; rw [e], fun e => ⟨[], _, _, [], [], rfl, rfl, by cases a <;> cases b <;> simp_all [PyData.eqv]⟩⟩
    | _ => simp [cmpD] at h
  | .int a, y, h => by
    cases y with
    | int b => exact ⟨fun e => by simp [PyData.eqv] at e; rw [e], fun e => ⟨[], _, _, [], [], rfl, rfl, by simpa [PyData.eqv] using e⟩⟩
    | _ => simp [cmpD] at h
  | .str a, y, h => by
    cases y with
    | str b =>
      refine ⟨fun e => by simp [PyData.eqv] at e; rw [e], fun e => ⟨[], _, _, [], [], rfl, rfl, fun z => ?_⟩⟩
      have : a = b := str_of_cps (Sum.inr.inj z)
      subst this
      simp [PyData.eqv] at e
    | _ => simp [cmpD] at h
  | .list xs, y, h => by cases y <;> simp [cmpD] at h
  | .tuple xs, y, h => by
    cases y with
    | tuple ys =>
      simp only [cmpD] at h
      simp only [PyData.eqv, keyToks]
      exact toksCL xs ys h
    | _ => simp [cmpD] at h
  | .dict kvs, y, h => by cases y <;> simp [cmpD] at h
theorem toksCL : ∀ (xs ys : List PyData), cmpL xs ys = true → (PyData.eqvAll xs ys = true → keyToksAll xs = keyToksAll ys) ∧ (PyData.eqvAll xs ys = false → Div (keyToksAll xs) (keyToksAll ys))
  | [], [], _ => ⟨fun _ => rfl, fun e => by simp [PyData.eqvAll] at e⟩
  | [], y :: ys, _ => ⟨fun e => by simp [PyData.eqvAll] at e, fun _ => ⟨[], .inl 0, .inl 1, [], keyToks y ++ keyToksAll ys, by simp [keyToksAll], by simp [keyToksAll], by simp⟩⟩
  | x :: xs, [], _ => ⟨fun e => by simp [PyData.eqvAll] at e, fun _ => ⟨[], .inl 1, .inl 0, keyToks x ++ keyToksAll xs, [], by simp [keyToksAll], by simp [keyToksAll], by simp⟩⟩
  | x :: xs, y :: ys, h => by
    obtain ⟨h1, h2⟩ := cmpL_cons h
    obtain ⟨t1, t2⟩ := toksC x y h1
    simp only [PyData.eqvAll, keyToksAll]
    cases e : PyData.eqv x y with
    | true =>
      obtain ⟨u1, u2⟩ := toksCL xs ys (h2 e)
      rw [t1 e]
      exact ⟨fun z => by rw [u1 (by simpa using z)], fun z => ((u2 (by simpa using z)).pre (keyToks y)).pre [.inl 1]⟩
    | false => exact ⟨fun z => by simp at z, fun _ => ((t2 e).app _ _).pre [.inl 1]⟩
end
theorem lex_consT (x y : PyData) (xs ys : List PyData) (h : cmpD x y = true) (e : PyData.eqv x y = true) : PyProof.Rows.lexLt itemOrd (keyToksAll (x :: xs)) (keyToksAll (y :: ys)) = PyProof.Rows.lexLt itemOrd (keyToksAll xs) (keyToksAll ys) := by
  simp only [keyToksAll]
  rw [(toksC x y h).1 e]
  exact lex_pre (.inl 1 :: keyToks y) _ _
theorem lex_consF (x y : PyData) (xs ys : List PyData) (h : cmpD x y = true) (e : PyData.eqv x y = false) : PyProof.Rows.lexLt itemOrd (keyToksAll (x :: xs)) (keyToksAll (y :: ys)) = dataLt x y := by
  simp only [keyToksAll]
  have q := lex_pre [.inl 1] (keyToks x ++ keyToksAll xs) (keyToks y ++ keyToksAll ys)
  rw [List.cons_append, List.nil_append, List.cons_append, List.nil_append] at q
  rw [q, ((toksC x y h).2 e).lex]
  rfl
theorem first_toks : ∀ (xs ys : List PyData), cmpL xs ys = true → firstLt (pairEq xs ys) (fun j => dataLt (xs.getD j .none) (ys.getD j .none)) (decide (xs.length < ys.length)) (List.range (min xs.length ys.length)) = PyProof.Rows.lexLt itemOrd (keyToksAll xs) (keyToksAll ys)
  | [], [], _ => by simp [firstLt, keyToksAll, lex_irrefl]
  | [], y :: ys, _ => by
    simp only [keyToksAll]
    rw [lex_diff (O := itemOrd) (by simp)]
    simp [firstLt, itemLt]
  | x :: xs, [], _ => by
    simp only [keyToksAll]
    rw [lex_diff (O := itemOrd) (by simp)]
    simp [firstLt, itemLt]
  | x :: xs, y :: ys, h => by
    obtain ⟨h1, h2⟩ := cmpL_cons h
    have lens : min (x :: xs).length (y :: ys).length = min xs.length ys.length + 1 := by simp only [List.length_cons]; omega
    have decs : decide ((x :: xs).length < (y :: ys).length) = decide (xs.length < ys.length) := by simp
    rw [lens, decs, List.range_succ_eq_map]
    cases e : PyData.eqv x y with
    | true =>
      rw [lex_consT x y xs ys h1 e, ← first_toks xs ys (h2 e), firstLt_yes (show pairEq (x :: xs) (y :: ys) 0 = true from e), firstLt_map]
      rfl
    | false =>
      rw [lex_consF x y xs ys h1 e, firstLt_no (show pairEq (x :: xs) (y :: ys) 0 = false from e)]
      rfl
theorem noneC {x y : PyData} (h : cmpD x y = true) (e : PyData.eqv x y = false) : x ≠ .none := by
  intro z
  subst z
  cases y <;> simp_all [cmpD, PyData.eqv]
mutual
theorem rcC : ∀ (da db : PyData) (A : Around) (s : Shared) (a b : Value) (as bs : List Addr), Reads s.heap a da as → Reads s.heap b db bs → cmpD da db = true → da.canLay0 = true → db.canLay0 = true → da ≠ .none → A.units + min da.depth db.depth < cLine → RcLt A s a b (dataLt da db)
  | .none, _, _, _, _, _, _, _, _, _, _, _, _, hn, _ => absurd rfl hn
  | .bool x, db, A, s, a, b, as, bs, ra, rb, h, _, _, _, _ => by
    cases db with
    | bool y =>
      cases ra
      cases rb
      intro prog w E Q hq
      exact lt_bool (by rw [← dataLt_bool]; exact hq)
    | _ => simp [cmpD] at h
  | .int x, db, A, s, a, b, as, bs, ra, rb, h, _, _, _, _ => by
    cases db with
    | int y =>
      cases ra
      cases rb
      intro prog w E Q hq
      exact P.lt_int (by rw [← dataLt_int]; exact hq)
    | _ => simp [cmpD] at h
  | .str x, db, A, s, a, b, as, bs, ra, rb, h, _, _, _, _ => by
    cases db with
    | str y =>
      cases ra
      cases rb
      intro prog w E Q hq
      exact P.lt_str (by rw [← dataLt_str]; exact hq)
    | _ => simp [cmpD] at h
  | .list xs, db, _, _, _, _, _, _, _, _, h, _, _, _, _ => by cases db <;> simp [cmpD] at h
  | .dict xs, db, _, _, _, _, _, _, _, _, h, _, _, _, _ => by cases db <;> simp [cmpD] at h
  | .tuple xs, db, A, s, a, b, as, bs, ra, rb, h, ca, cb, _, hu => by
    cases db with
    | tuple ys =>
      have hc : cmpL xs ys = true := by simpa [cmpD] using h
      have ca : PyData.canLayAll0 xs = true := by simpa [PyData.canLay0] using ca
      have cb : PyData.canLayAll0 ys = true := by simpa [PyData.canLay0] using cb
      cases ra with
      | @tuple p o us n _ as1 h1 h2 h3 h4 =>
        cases rb with
        | @tuple q o' vs m _ bs1 k1 k2 k3 k4 =>
          have n1 : us.size = xs.length := by simpa using ReadsAll.length _ _ _ h4
          have n2 : vs.size = ys.length := by simpa using ReadsAll.length _ _ _ k4
          rw [dataLt_tuple, ← first_toks xs ys hc, ← n1, ← n2]
          refine rc_tuples ⟨_, h1, h2, _, h3⟩ ⟨_, k1, k2, _, k3⟩ (room_here hu) (fun j j1 j2 => ?_) fun j j1 j2 all hj => ?_
          · have q := eqAt_readsAll xs ys A.in1 s us.toList vs.toList _ _ h4 k4 ca cb (room_in hu) j (by simpa using j1) (by simpa using j2)
            simpa using q
          · have q := rcCL xs ys A.in1 s us.toList vs.toList _ _ h4 k4 hc ca cb (room_in hu) j (by simpa using j1) (by simpa using j2) all hj
            simpa using q
    | _ => simp [cmpD] at h
theorem rcCL : ∀ (xs ys : List PyData) (A : Around) (s : Shared) (us vs : List Value) (as bs : List Addr), ReadsAll s.heap us xs as → ReadsAll s.heap vs ys bs → cmpL xs ys = true → PyData.canLayAll0 xs = true → PyData.canLayAll0 ys = true →
    A.units + min (PyData.depthAll xs) (PyData.depthAll ys) < cLine → ∀ j (h1 : j < us.length) (h2 : j < vs.length), (∀ i, i < j → pairEq xs ys i = true) → pairEq xs ys j = false → RcLt A s us[j] vs[j] (dataLt (xs.getD j .none) (ys.getD j .none))
  | [], _, _, _, _, _, _, _, ra, _, _, _, _, _, j, h1, _, _, _ => by cases ra; exact absurd h1 (Nat.not_lt_zero _)
  | _ :: _, [], _, _, _, _, _, _, _, rb, _, _, _, _, j, _, h2, _, _ => by cases rb; exact absurd h2 (Nat.not_lt_zero _)
  | x :: xs, y :: ys, A, s, _, _, _, _, ra, rb, h, ca, cb, hu, j, h1, h2, all, hj => by
    obtain ⟨g1, g2⟩ := cmpL_cons h
    simp only [PyData.canLayAll0, Bool.and_eq_true] at ca cb
    cases ra with
    | cons r rs =>
      cases rb with
      | cons r' rs' =>
        cases j with
        | zero => exact rcC x y A s _ _ _ _ r r' g1 ca.1 cb.1 (noneC g1 hj) (room_head hu)
        | succ j => exact rcCL xs ys A s _ _ _ _ rs rs' (g2 (all 0 (Nat.succ_pos _))) ca.2 cb.2 (room_tail hu) j (Nat.lt_of_succ_lt_succ h1) (Nat.lt_of_succ_lt_succ h2) (fun i hi => all (i + 1) (Nat.succ_lt_succ hi)) hj
end

section
variable {prog : Program} {w : PySem.World} {A : Around} {E : Value → Shared → Prop} {s : Shared}
/-- one item against another; f: both of one type that is no tuple -/
theorem oneC {f : Bool} {da db : PyData} {a b : Value} {as bs : List Addr} {Q : Bool → Shared → Prop} (hf : f = true → ∀ xs, da ≠ .tuple xs) (ra : Reads s.heap a da as) (rb : Reads s.heap b db bs) (h : cmpD da db = true) (ca : da.canLay0 = true) (cb : db.canLay0 = true) (hn : da ≠ .none)
    (hu : A.units + min da.depth db.depth < cLine) (hq : Q (dataLt da db) s) : wpAny (model prog w) A (oneLt' f a b) Q E s := by
  cases f with
  | false =>
    rw [oneLt'_eq]
    simp only [Bool.false_eq_true, if_false]
    refine wpAny_bind (rcC da db A s a b as bs ra rb h ca cb hn hu prog w E _ ?_)
    exact wpAny_truthy_bool hq
  | true =>
    have hal : alike da db = true := by
      cases da <;> cases db <;> first | rfl | (simp [cmpD] at h; done) | skip
      · exact absurd rfl (hf rfl _)
    exact oneLt_alike hf ra rb hal hn hu hq
theorem katC {b fin : Bool} {Q : Bool → Shared → Prop} : ∀ (xs ys : List PyData) (i : Nat) (us vs : List Value) (as bs : List Addr), ReadsAll s.heap us xs as → ReadsAll s.heap vs ys bs → cmpL xs ys = true → PyData.canLayAll0 xs = true → PyData.canLayAll0 ys = true →
    A.units + min (PyData.depthAll xs) (PyData.depthAll ys) < cLine → (b = true → i = 0 → ∀ x r t, xs = x :: r → x ≠ .tuple t) → fin = decide (xs.length < ys.length) → Q (PyProof.Rows.lexLt itemOrd (keyToksAll xs) (keyToksAll ys)) s → KatLex prog w A b fin Q (us.zip vs) i s
  | [], [], i, _, _, _, _, ra, rb, _, _, _, _, _, hf, hq => by
    cases ra
    cases rb
    rw [lex_irrefl] at hq
    exact kat_nil (by rw [hf]; simpa using hq)
  | [], y :: ys, i, _, _, _, _, ra, rb, _, _, _, _, _, hf, hq => by
    cases ra
    simp only [keyToksAll] at hq
    rw [lex_diff (O := itemOrd) (by simp)] at hq
    rw [List.zip_nil_left]
    exact kat_nil (by rw [hf]; simpa [itemLt] using hq)
  | x :: xs, [], i, _, _, _, _, ra, rb, _, _, _, _, _, hf, hq => by
    cases rb
    simp only [keyToksAll] at hq
    rw [lex_diff (O := itemOrd) (by simp)] at hq
    rw [List.zip_nil_right]
    exact kat_nil (by rw [hf]; simpa [itemLt] using hq)
  | x :: xs, y :: ys, i, _, _, _, _, ra, rb, h, ca, cb, hu, hb, hf, hq => by
    obtain ⟨h1, h2⟩ := cmpL_cons h
    simp only [PyData.canLayAll0, Bool.and_eq_true] at ca cb
    have hf' : fin = decide (xs.length < ys.length) := by rw [hf]; simp
    cases ra with
    | cons r rs =>
      cases rb with
      | cons r' rs' =>
        rw [List.zip_cons_cons]
        refine kat_cons (eqAt_reads x y A s _ _ _ _ r r' ca.1 cb.1 (room_head hu) prog w _ _ ?_)
        cases e : PyData.eqv x y with
        | true =>
          rw [lex_consT x y xs ys h1 e] at hq
          exact kat_yes (katC xs ys (i + 1) _ _ _ _ rs rs' (h2 e) ca.2 cb.2 (room_tail hu) (fun _ z => absurd z (Nat.succ_ne_zero i)) hf' hq)
        | false =>
          rw [lex_consF x y xs ys h1 e] at hq
          refine kat_no (oneC (fun z t => ?_) r r' h1 ca.1 cb.1 (noneC h1 e) (room_head hu) hq)
          rw [Bool.and_eq_true] at z
          exact hb z.1 (by simpa using z.2) x xs t rfl
theorem typeC {x y : PyData} (h : cmpD x y = true) : dataType x = dataType y := by
  cases x <;> cases y <;> first | rfl | (simp [cmpD] at h)
def AllCmp (ds : List PyData) : Prop := ∀ d, d ∈ ds → d.canLay0 = true ∧ ∀ d', d' ∈ ds → cmpD d d' = true
theorem kindC {h : Heap} {ds : List PyData} (hal : AllCmp ds) {v : Value} {d : PyData} {as : List Addr} (hd : d ∈ ds) (r : Reads h v d as) : (dataKind h ds).keyOf v = some (keyToks d) := by
  have q : ∃ d, d ∈ ds ∧ ∃ as, Reads h v d as := ⟨d, hd, as, r⟩
  have e : (dataKind h ds).keyOf v = some (keyToks q.choose) := dif_pos q
  obtain ⟨h1, as', h2⟩ := q.choose_spec
  rw [e, ← readOf_eq (hal _ h1).1 h2, readOf_eq (hal _ hd).1 r]
/-- tuples that can be compared with one another can be sorted -/
theorem sortsC {vs : List Value} {ds : List PyData} (e : EachIs (fun v d => ∃ as, Reads s.heap v d as) vs ds) (hal : AllCmp ds) (ht : ∀ d, d ∈ ds → ∃ x r, d = .tuple (x :: r)) (hu : ∀ d, d ∈ ds → A.units + d.depth < cLine) : SortsAt prog w A s (dataKind s.heap ds) vs := by
  have room : ∀ {d d' : PyData}, d ∈ ds → A.units + min d.depth d'.depth < cLine := fun {d d'} hd => Nat.lt_of_le_of_lt (Nat.add_le_add_left (Nat.min_le_left _ _) _) (hu d hd)
  refine ⟨fun v hv => ?_, ?_⟩
  · obtain ⟨d, hd, as, r⟩ := e.left v hv
    exact ⟨_, kindC hal hd r⟩
  · cases ds with
    | nil =>
      cases e
      refine ⟨general', fun E x y a b Q ha _ _ => ?_, fun h2 => absurd h2 (by simp)⟩
      obtain ⟨d, _, hd, _⟩ := dataKind_inv ha
      exact absurd hd (by simp)
    | cons d0 ds0 =>
      obtain ⟨x0, r0, e0⟩ := ht d0 (by simp)
      have firsts : ∀ x r, PyData.tuple (x :: r) ∈ d0 :: ds0 → cmpD x x0 = true := by
        intro x r hm
        have q := (hal _ hm).2 d0 (by simp)
        rw [e0] at q
        exact (cmpL_cons (by simpa [cmpD] using q)).1
      refine ⟨tuples' (dataType x0 != Value.type "tuple"), ?_, fun h2 E Q hq => ?_⟩
      · intro E x y a b Q ha hb hq
        obtain ⟨d, as, hd, ra, rfl⟩ := dataKind_inv ha
        obtain ⟨d', as', hd', rb, rfl⟩ := dataKind_inv hb
        have c := (hal d hd).2 d' hd'
        have l1 := (hal d hd).1
        have l2 := (hal d' hd').1
        have hroom := room (d' := d') hd
        obtain ⟨x1, r1, rfl⟩ := ht d hd
        obtain ⟨x2, r2, rfl⟩ := ht d' hd'
        have hq' : Q (dataLt (.tuple (x1 :: r1)) (.tuple (x2 :: r2))) s := hq
        rw [dataLt_tuple] at hq'
        cases ra with
        | @tuple l o xs n _ _ h1 h2 h3 h4 =>
          cases rb with
          | @tuple l' o' xs' n' _ _ k1 k2 k3 k4 =>
            have n1 : xs.size = (x1 :: r1).length := by simpa using SeqAt.ReadsAll.length _ _ _ h4
            have n2 : xs'.size = (x2 :: r2).length := by simpa using SeqAt.ReadsAll.length _ _ _ k4
            refine kat_lt h1 h3 k1 k3 (katC (x1 :: r1) (x2 :: r2) 0 _ _ _ _ h4 k4 (by simpa [cmpD] using c) (by simpa [PyData.canLay0] using l1) (by simpa [PyData.canLay0] using l2) (by have q := SeqAt.room_in hroom; omega) (fun hb _ x r t ex => ?_) (by rw [n1, n2]) hq')
            obtain ⟨rfl, rfl⟩ := List.cons.inj ex
            rw [← typeC (firsts _ _ hd)] at hb
            exact dataType_tuple hb t
      · obtain ⟨fs, t1, t2, t3⟩ := each_katTups e ht
        refine kat_kind (T := dataType x0) t1 (by omega) (fun f hf => ?_) (beq_self_eq_true _) hq
        obtain ⟨x, r, as, m1, m2⟩ := t3 f hf
        rw [← typeC (firsts x r m1)]
        exact looks_reads m2
end
end Dy

set_option Elab.async false
set_option linter.all false
set_option maxRecDepth 100000
set_option maxHeartbeats 4000000
/-! Layer Dy, part T: sorted(tuple). -/
namespace Dy
open PySem PySem.W PySem.SeqAt PyProof.Rows PySem.Calls
section
variable {prog : Program} {w : PySem.World} {A : Around} {E : Value → Shared → Prop} {s : Shared}
theorem collect_tup {l : Addr} {vs : List Value} {Q : List Value → Shared → Prop} (tl : s.heap.IsTuple l vs.toArray) (hz : vs.length ≤ sizeLine)
    (hq : Q vs { s with heap := (s.heap.push (seqObj "list" #[] 0)).update s.heap.objs.size (Obj.mapSeq (· ++ vs.toArray)) }) :
    wpAny (model prog w) A (collect (.ref l)) Q E s := by
  obtain ⟨o, ho, hc, n, hd⟩ := id tl
  have got : (s.heap.push (seqObj "list" #[] 0)).get? l = some o := Heap.get?_push_of_some _ ho
  have new : (s.heap.push (seqObj "list" #[] 0)).get? s.heap.objs.size = some (seqObj "list" #[] 0) := Heap.get?_push_size _ rfl
  have fits : (#[] ++ vs.toArray).size ≤ sizeLine + 1 := by
    rw [Array.size_append, List.size_toArray]
    show 0 + vs.length ≤ sizeLine + 1
    omega
  unfold collect
  refine wpAny_bind (wpAny_runValue (codeAny_builtin entry_proto_collect' ?_))
  show wpAny _ _ (do again (.builtin "list.__iadd__" ⟨[← newList [], .ref l], []⟩)) _ _ s
  refine wpAny_bind (wpAny_newList (wpAny_pure ⟨Code.quiet_builtin _ (by decide +kernel), codeAny_builtin entry_list_iadd' ?_⟩))
  show wpAny _ _ (Builtin.List.listExtendWith (.ref s.heap.objs.size) (.ref l) (.ref s.heap.objs.size)) _ _ { s with heap := s.heap.push (seqObj "list" #[] 0) }
  unfold Builtin.List.listExtendWith
  refine wpAny_bind (wpAny_typeOf (T := "tuple") ⟨o, got, hc⟩ ?_)
  rw [if_pos (by simp)]
  refine wpAny_bind (listItems_at got hd ?_)
  refine wpAny_bind (listItems_at (xs := #[]) (n := 0) new rfl ?_)
  rw [if_neg (by simp)]
  refine wpAny_bind (listUpdate_at (xs := #[]) (n := 0) new rfl ?_ (Nat.zero_le _) fits)
  refine wpAny_pure ?_
  refine wpAny_bind (wpAny_load (get?_update_seq new _) ?_)
  show wpAny _ _ (pure ((#[] : Array Value) ++ vs.toArray).toList) Q E _
  have e : ((#[] : Array Value) ++ vs.toArray).toList = vs := by simp
  rw [e]
  exact wpAny_pure hq
theorem sorted_tup {κ : PyProof.Rows.KeyKind} {l : Addr} {vs : List Value} {Q : Value → Shared → Prop} (tl : s.heap.IsTuple l vs.toArray) (S : SortsAt prog w A.in1.in1 { s with heap := sortingHeap (copyHeap s.heap vs) (s.heap.objs.size + 1) vs } κ vs) (hz : vs.length ≤ sizeLine)
    (hq : Q (.ref (s.heap.objs.size + 1)) { s with heap := sortedAll s.heap vs (sortVals κ false vs vs).toArray }) : wpAny (model prog w) A (call (.builtin "sorted") [.ref l]) Q E s := by
  refine call_function_entry_kw kind_sorted plain_sorted entry_sorted (args_sorted1 _) ?_
  unfold Builtin.«sorted»
  refine wpAny_bind (m := checkCount "sorted" 1 1 _) (wpAny_pure ?_)
  refine wpAny_bind (collect_tup tl hz ?_)
  refine wpAny_bind (wpAny_newList ?_ hz)
  show wpAny _ _ _ _ _ { s with heap := copyHeap s.heap vs }
  rw [show ((s.heap.push (seqObj "list" #[] 0)).update s.heap.objs.size (Obj.mapSeq (· ++ vs.toArray))).objs.size = s.heap.objs.size + 1 by rw [Heap.size_update, size_push']]
  refine wpAny_bind (wpAny_holding (wpAny_call_entry_kw slot_list_sort ⟨_, copyHeap_at s.heap vs, rfl⟩ entry_list_sort ?body (args_list_sort _)))
  case body =>
    show wpAny (model prog w) A.in1.in1 (Builtin.«list.sort» ⟨[.ref (s.heap.objs.size + 1)], []⟩) _ _ _
    exact list_sort_vals (s := { s with heap := copyHeap s.heap vs }) (copyHeap_at s.heap vs) S hz ⟨_, rfl, wpAny_pure ⟨_, rfl, hq⟩⟩
end
end Dy

set_option Elab.async false
set_option linter.all false
set_option maxRecDepth 100000
set_option maxHeartbeats 4000000
/-! Layer Dy, part 20: sorted(list of tuples). -/
namespace Dy
open PySem PySem.Spec PyProof.Rows L2
def pD (d : D) : PyData := (toP d).getD .none
def tupN : D → Bool
  | .tup (_ :: _) => true
  | _ => false
def isStrD : D → Bool
  | .str _ => true
  | _ => false
def isIntD : D → Bool
  | .int _ => true
  | _ => false
def sortOk (ds : List D) : Bool := (ds.all fun d => (toP d).isSome && ((SeqAt.shaped (pD d) && decide ((pD d).depth ≤ 62)) && ds.all fun e => cmpD (pD d) (pD e))) && (ds.all tupN || (ds.all isStrD || ds.all isIntD))
def leD (d e : D) : Bool := !PySem.W.dataLt (pD e) (pD d)
def sortD (ds : List D) : List D := ds.mergeSort leD
theorem toP_pD {d : D} (h : (toP d).isSome = true) : toP d = some (pD d) := by
  unfold pD
  cases e : toP d with
  | none => rw [e] at h; cases h
  | some p => rfl
structure SortOk (ds : List D) : Prop where
  p : ∀ d ∈ ds, toP d = some (pD d)
  t : (∀ d ∈ ds, tupN d = true) ∨ (∀ d ∈ ds, isStrD d = true) ∨ ∀ d ∈ ds, isIntD d = true
  s : ∀ d ∈ ds, SeqAt.shaped (pD d) = true
  l : ∀ d ∈ ds, (pD d).depth ≤ 62
  c : ∀ d ∈ ds, ∀ e ∈ ds, cmpD (pD d) (pD e) = true
theorem SortOk.of {ds : List D} (h : sortOk ds = true) : SortOk ds := by
  unfold sortOk at h
  rw [Bool.and_eq_true] at h
  obtain ⟨h, k⟩ := h
  rw [List.all_eq_true] at h
  refine ⟨fun d hd => ?_, ?_, fun d hd => ?_, fun d hd => ?_, fun d hd e he => ?_⟩
  · have q := h d hd
    simp only [Bool.and_eq_true] at q
    exact toP_pD q.1
  · simp only [Bool.or_eq_true, List.all_eq_true] at k
    exact k
  · have q := h d hd
    simp only [Bool.and_eq_true] at q
    exact q.2.1.1
  · have q := h d hd
    simp only [Bool.and_eq_true] at q
    exact of_decide_eq_true q.2.1.2
  · have q := h d hd
    simp only [Bool.and_eq_true] at q
    exact List.all_eq_true.mp q.2.2 e he
theorem SortOk.all {ds : List D} (h : SortOk ds) : AllCmp (ds.map pD) := by
  intro d hd
  rw [List.mem_map] at hd
  obtain ⟨x, hx, rfl⟩ := hd
  refine ⟨SeqAt.canLay_of_shaped (h.s x hx), fun d' hd' => ?_⟩
  rw [List.mem_map] at hd'
  obtain ⟨y, hy, rfl⟩ := hd'
  exact h.c x hx y hy
theorem tup_pD {x : D} (ht : tupN x = true) (hp : toP x = some (pD x)) : ∃ y r, pD x = .tuple (y :: r) := by
  cases x with
  | tup ys =>
    cases ys with
    | nil => cases ht
    | cons y ys =>
      simp only [toP, toPl] at hp
      cases h1 : toP y with
      | none => rw [h1] at hp; cases hp
      | some p =>
        cases h2 : toPl ys with
        | none => rw [h1, h2] at hp; cases hp
        | some ps =>
          rw [h1, h2] at hp
          exact ⟨p, ps, (Option.some.inj hp).symm⟩
  | _ => cases ht
theorem SortOk.sorts {prog : Program} {w : PySem.World} {A : Around} {s : Shared} {vs : List Value} {ds : List D} (h : SortOk ds) (e : PySem.W.EachIs (fun v d => ∃ as, Reads s.heap v d as) vs (ds.map pD)) (hu : ∀ d, d ∈ ds.map pD → A.units + d.depth < cLine) : PySem.W.SortsAt prog w A s (PySem.W.dataKind s.heap (ds.map pD)) vs := by
  rcases h.t with t | t | t
  · refine sortsC e h.all (fun d hd => ?_) hu
    rw [List.mem_map] at hd
    obtain ⟨x, hx, rfl⟩ := hd
    exact tup_pD (t x hx) (h.p x hx)
  · have q : ∀ d, d ∈ ds.map pD → ∃ x, d = .str x := fun d hd => by
      rw [List.mem_map] at hd
      obtain ⟨x, hx, rfl⟩ := hd
      have := t x hx
      cases x with
      | str z => exact ⟨z, rfl⟩
      | _ => cases this
    refine PySem.W.SortsAt.data e (fun d hd d' hd' => ?_) (.inr fun d hd => ?_) hu
    · obtain ⟨x, rfl⟩ := q d hd
      obtain ⟨y, rfl⟩ := q d' hd'
      simp [PySem.W.alike]
    · obtain ⟨x, rfl⟩ := q d hd
      exact ⟨by simp, by simp⟩
  · have q : ∀ d, d ∈ ds.map pD → ∃ x, d = .int x := fun d hd => by
      rw [List.mem_map] at hd
      obtain ⟨x, hx, rfl⟩ := hd
      have := t x hx
      cases x with
      | int z => exact ⟨z, rfl⟩
      | _ => cases this
    refine PySem.W.SortsAt.data e (fun d hd d' hd' => ?_) (.inr fun d hd => ?_) hu
    · obtain ⟨x, rfl⟩ := q d hd
      obtain ⟨y, rfl⟩ := q d' hd'
      simp [PySem.W.alike]
    · obtain ⟨x, rfl⟩ := q d hd
      exact ⟨by simp, by simp⟩
theorem each_of {K : PySem.W.Frag} {Hk : Hp} {X : Cx} : ∀ {xs : List V} {ds : List D} {us : List Value}, RpA K Hk xs ds → Vals xs us → PySem.W.EachIs (fun (u : Value) (d : D) => ∃ x, RelV x u ∧ Rp K Hk x d) us ds
  | _, _, _, .nil, .nil => .nil
  | _, _, _, .cons r t, .cons rv rt => .cons ⟨_, rv, r⟩ (each_of (X := X) t rt)
theorem of_each {K : PySem.W.Frag} {Hk : Hp} : ∀ {ds : List D} {us : List Value}, PySem.W.EachIs (fun (u : Value) (d : D) => ∃ x, RelV x u ∧ Rp K Hk x d) us ds → ∃ xs, Vals xs us ∧ RpA K Hk xs ds
  | _, _, .nil => ⟨[], .nil, .nil⟩
  | _, _, .cons ⟨x, h1, h2⟩ t => by
    obtain ⟨xs, h3, h4⟩ := of_each t
    exact ⟨x :: xs, .cons h1 h3, .cons h2 h4⟩
def rSortedD (K : PySem.W.Frag) : List V → Hp → VK → Prop := fun vs H Q => ∃ (a : Addr) (xs : List V) (Hk : Hp) (ds : List D), vs = [.ref a] ∧ (SqL K H a xs ∨ SqT K H a xs) ∧ Same Hk H ∧ RpA K Hk xs ds ∧ sortOk ds = true ∧
  ∀ ys p, RpA K Hk ys (sortD ds) → H p = none → Q (.ref p) (upd H p (.lst ys))
theorem cr_sortedD {X : Cx} (hu : X.A.units + 64 < cLine) : CallR X (.builtin "sorted") (rSortedD X.K) := by
  intro pins s σ H vs us Q I r h
  obtain ⟨a, xs, Hk, ds, rfl, hs, sub, ra, ok, q⟩ := h
  have S := SortOk.of ok
  have both : ∃ its : List Value, Vals xs its ∧ (s.heap.IsList a its.toArray ∨ s.heap.IsTuple a its.toArray) ∧ xs.length ≤ sizeLine := by
    rcases hs with hs | hs
    · obtain ⟨its, rv, hl, hz⟩ := I.list hs
      exact ⟨its, rv, .inl hl.isList, hz⟩
    · obtain ⟨its, rv, hl, hz⟩ := I.tuple hs
      exact ⟨its, rv, .inr hl, hz⟩
  obtain ⟨its, rv, hl, hz⟩ := both
  obtain ⟨u, rfl, ru⟩ := vals1 r
  obtain rfl : u = Value.ref a := ru
  have ea := each_of (X := X) ra rv
  have er : ∀ h' : Heap, (∀ b o, s.heap.get? b = some o → h'.get? b = some o) → PySem.W.EachIs (fun (u : Value) (d : D) => ∃ as, Reads h' u (pD d) as) its ds := fun h' k => by
    refine (PySem.W.each_mem ea).mono fun u d ⟨⟨x, h1, h2⟩, hd⟩ => ?_
    obtain ⟨as, hr⟩ := Dp.reads I (pD d) x u (toP_ok (Rp.mono sub h2) (S.p d hd)) h1
    exact ⟨as, PyProof.Rows.Reads.keeps k hr⟩
  have hlen : its.length = ds.length := by rw [← rv.length, ra.length]
  have k1 := er (PySem.W.sortingHeap (PySem.W.copyHeap s.heap its) (s.heap.objs.size + 1) its) fun _ _ => PySem.W.sorting_copy_old
  have k2 := PySem.W.each_map (R := fun v d => ∃ as, Reads (PySem.W.sortingHeap (PySem.W.copyHeap s.heap its) (s.heap.objs.size + 1) its) v d as) pD k1
  have depth : ∀ d, d ∈ ds.map pD → (X.A.in1.in1).units + d.depth < cLine := fun d hd => by
    rw [List.mem_map] at hd
    obtain ⟨x, hx, rfl⟩ := hd
    have h1 := S.l x hx
    have h2 : (X.A.in1.in1).units = X.A.units + 2 := rfl
    omega
  have srt : ∀ E, (∀ Q' : Value → Shared → Prop, Q' (.ref (s.heap.objs.size + 1)) { s with heap := sortedAll s.heap its (PySem.W.sortVals (PySem.W.dataKind (PySem.W.sortingHeap (PySem.W.copyHeap s.heap its) (s.heap.objs.size + 1) its) (ds.map pD)) false its its).toArray } → wpAny (model X.prog X.w) X.A (call (.builtin "sorted") [.ref a]) Q' E s) := fun E Q' hq => by
    have ss := S.sorts (prog := X.prog) (w := X.w) (A := X.A.in1.in1) (s := { s with heap := PySem.W.sortingHeap (PySem.W.copyHeap s.heap its) (s.heap.objs.size + 1) its }) k2 depth
    have hz' : its.length ≤ sizeLine := by rw [← rv.length]; exact hz
    rcases hl with hl | hl
    · exact PySem.W.sorted_vals hl ss hz' hq
    · exact sorted_tup hl ss hz' hq
  refine srt _ _ ?_
  have out : PySem.W.EachIs (fun (u : Value) (d : D) => ∃ x, RelV x u ∧ Rp X.K Hk x d) (PySem.W.sortVals (PySem.W.dataKind (PySem.W.sortingHeap (PySem.W.copyHeap s.heap its) (s.heap.objs.size + 1) its) (ds.map pD)) false its its) (sortD ds) :=
    PySem.W.sortVals_each (κ := PySem.W.dataKind (PySem.W.sortingHeap (PySem.W.copyHeap s.heap its) (s.heap.objs.size + 1) its) (ds.map pD)) (fun d => PySem.W.keyToks (pD d)) ea
      ((PySem.W.each_mem k1).mono fun u d ⟨⟨as, hr⟩, hd⟩ => kindC S.all (List.mem_map.mpr ⟨d, hd, rfl⟩) hr)
  generalize PySem.W.sortVals _ false its its = res at out ⊢
  obtain ⟨ys, v1, v2⟩ := of_each out
  obtain ⟨n, hn⟩ := sortedAll_at s.heap its res.toArray
  refine ⟨.ref (s.heap.objs.size + 1), upd H (s.heap.objs.size + 1) (.lst ys), I.laid (t' := s.toks) (fun b o e => sortedAll_old e) (Nat.le_succ _) ⟨?_, res, n, v1, hn⟩, rfl, q ys _ v2 (I.hok.fresh (Nat.le_succ _))⟩
  rw [v2.length]
  show (sortD ds).length ≤ sizeLine
  unfold sortD
  rw [List.length_mergeSort, ← ra.length]
  exact hz

/-- sorted(e): a list of tuples, of texts, of ints -/
def sortedS (M : MS) (s : SV) : Option R := match itemsD M s with
  | some ds => if sortOk ds = true then some (.fr (sortD ds)) else none
  | none => none
theorem calld_sortedD {K : PySem.W.Frag} : CallD K (rSortedD K) (g1 sortedS) := CallD.one fun Hk H M ls v s z Q w r e q => by
  unfold sortedS at e
  split at e
  · rename_i ds hd
    split at e
    · rename_i ok
      cases e
      obtain ⟨a, vs, rfl, hq, ra⟩ := itemsD_ok w r hd
      exact ⟨a, vs, Hk, ds, rfl, hq, w.sub, ra, ok, fun ys p ry hp => q.newL w hp ry⟩
    · cases e
  · cases e
theorem pm_sortedD {X : Cx} {e : Expr} {ms : EM (List SV)} {p pos : Pos} (B : Blt X.mg) (hu : X.A.units + 64 < cLine) (ha : PAm X [e] ms) (hg : Gl X "sorted" := by rfl) (he : starEach (e :: []) X.env = (false, eval e X.env) :: starEach [] X.env := by rfl) : PM X (.Call (.Name "sorted" p) [e] [] pos) (eCall (g1 sortedS) ms) :=
  pm_callB (cr_sortedD hu) calld_sortedD hg (B _ (by decide +kernel)) (by decide +kernel) ha (by decide) (by decide) he rfl
end Dy

set_option Elab.async false
set_option linter.all false
set_option maxRecDepth 100000
set_option maxHeartbeats 4000000
/-! Layer Dy, part 21: dicts behind handles, in of data of any depth. -/
namespace Dy
open PySem PySem.Spec PyProof.Rows L2
/-! ### d[k] = v -/
def muD (M : MS) : SV → Option (Nat × List Key × List SV)
  | .mu k => match M[k]? with
    | some (.d ks xs) => some (k, ks, xs)
    | _ => none
  | _ => none
theorem muD_ok {K : PySem.W.Frag} {Hk H : Hp} {M : MS} {ls : List Addr} {v : V} {s : SV} {k : Nat} {ks : List Key} {xs : List SV} (w : World K Hk H M ls) (r : SVr K Hk ls ls.length v s) (e : muD M s = some (k, ks, xs)) :
    ∃ l kvs, v = .ref l ∧ ls[k]? = some l ∧ M[k]? = some (.d ks xs) ∧ H l = some (.dK kvs) ∧ kvs.map (·.1) = ks ∧ SVs K Hk ls k (kvs.map (·.2)) xs := by
  unfold muD at e
  split at e
  · split at e
    · rename_i ks' ys hM
      cases e
      obtain ⟨_, l, hl, rfl⟩ := r
      obtain ⟨l', hl', kvs, h1, h2, h3⟩ := w.ms _ _ hM
      rw [hl] at hl'; cases hl'
      exact ⟨l, kvs, rfl, hl, hM, h1, h2, h3⟩
    · cases e
  · cases e
def putAt (M : MS) (s t d : SV) : Option MS := match muD M s, keyD t, d with
  | some (k, ks, xs), some key, .dt d => match allD xs with
    | some ds => if ks.length < sizeLine then some (M.set k (.d (putKD key d ks ds).1 ((putKD key d ks ds).2.map .dt))) else none
    | none => none
  | _, _, _ => none
def sPutD (mo mi me : EM R) : SM := fun ρ M => match fz me ρ M with
  | some (d, M1) => match fz mo ρ M1 with
    | some (s, M2) => match fz mi ρ M2 with
      | some (t, M3) => match putAt M3 s t d with
        | some M4 => some (.nx ρ M4)
        | none => none
      | none => none
    | none => none
  | none => none
section
variable {X : Cx} {o i e e2 f : Expr} {mo mi me md : EM R} {pos pos' apos : Pos}
theorem psm_putD (hu : X.A.units + 64 < cLine) (he : PM X e me) (ho : PM X o mo) (hi : PM X i mi) (hs : swapsWith e (some (.Subscript o i pos')) pos.line X.env = pure false := by rfl) : PSm X (.Assign [.Subscript o i pos'] e pos) (sPutD mo mi me) :=
  PS.imp (ps_dput (by omega) (PM.v ho) (PM.v hi) (PM.v he) hs) fun E σ H ⟨Hk, ls, ρ, M, out, w, en, hm, q⟩ => by
  unfold sPutD at hm
  cases h1 : fz me ρ M with
  | none => rw [h1] at hm; cases hm
  | some p1 =>
    obtain ⟨d, M1⟩ := p1
    simp only [h1] at hm
    cases h2 : fz mo ρ M1 with
    | none => rw [h2] at hm; cases hm
    | some p2 =>
      obtain ⟨s, M2⟩ := p2
      simp only [h2] at hm
      cases h3 : fz mi ρ M2 with
      | none => rw [h3] at hm; cases hm
      | some p3 =>
        obtain ⟨t, M3⟩ := p3
        simp only [h3] at hm
        cases h4 : putAt M3 s t d with
        | none => rw [h4] at hm; cases hm
        | some M4 =>
          simp only [h4] at hm
          cases hm
          refine ⟨Hk, ls, ρ, M, d, M1, w, en, h1, fun v Hk1 H1 w1 x1 r1 => ?_⟩
          refine ⟨Hk1, ls, ρ, M1, s, M2, w1, en.mono x1.kk, h2, fun u Hk2 H2 w2 x2 r2 => ?_⟩
          have en2 := (en.mono x1.kk).mono x2.kk
          refine ⟨Hk2, ls, ρ, M2, t, M3, w2, en2, h3, fun y Hk3 H3 w3 x3 r3 => ?_⟩
          have rv := (r1.mono x2.kk).mono x3.kk
          have rs := r2.mono x3.kk
          unfold putAt at h4
          split at h4
          · rename_i k ks xs key d' hmu hkey
            split at h4
            · rename_i ds hds
              split at h4
              · rename_i hlen
                cases h4
                obtain ⟨l, kvs, rfl, hl, hM, hH, hk, hsv⟩ := muD_ok w3 rs hmu
                have ra := hsv.toA hds
                subst hk
                obtain ⟨p1, p2⟩ := putKD_ok (k := key) (show Rp X.K Hk3 v d' from rv) ra
                refine ⟨l, upd H3 l (.dK (putK kvs key v)), rfl, ?_, ?_⟩
                · rw [keyD_ok r3 hkey]
                  exact DPut.k hH (by simpa using hlen)
                · exact q _ Hk3 _ ls (w3.setM hl hM ⟨_, upd_same, p1, SVs.ofA p2⟩) (((x1.trans x2).trans x3).trans (Ext.setM (List.mem_of_getElem? hl))).s (en2.mono x3.kk)
              · cases h4
            · cases h4
          · cases h4
end

/-! ### d.get(k, x), d[k] -/
def lookK {α : Type} (k : Key) : List Key → List α → Option α
  | j :: ks, x :: xs => if j = k then some x else lookK k ks xs
  | _, _ => none
def dictOf (M : MS) : SV → Option (List Key × List SV)
  | .dt (.dct ks ds) => some (ks, ds.map .dt)
  | .mu k => match M[k]? with
    | some (.d ks xs) => some (ks, xs)
    | _ => none
  | _ => none
theorem dictOf_ok {K : PySem.W.Frag} {Hk H : Hp} {M : MS} {ls : List Addr} {v : V} {s : SV} {ks : List Key} {xs : List SV} (w : World K Hk H M ls) (r : SVr K Hk ls ls.length v s) (e : dictOf M s = some (ks, xs)) :
    ∃ a kvs, v = .ref a ∧ H a = some (.dK kvs) ∧ kvs.map (·.1) = ks ∧ SVs K Hk ls ls.length (kvs.map (·.2)) xs := by
  unfold dictOf at e
  split at e
  · cases e
    cases r with
    | dct h hk hx a =>
      subst hk hx
      exact ⟨_, _, rfl, w.sub _ _ h, rfl, SVs.ofA a⟩
  · split at e
    · rename_i k _ ks' ys hM
      cases e
      obtain ⟨hk, l, hl, rfl⟩ := r
      obtain ⟨l', hl', kvs, h1, h2, h3⟩ := w.ms _ _ hM
      rw [hl] at hl'; cases hl'
      exact ⟨l, kvs, rfl, h1, h2, h3.up (Nat.le_of_lt hk)⟩
    · cases e
  · cases e
theorem lookK_ok {K : PySem.W.Frag} {Hk : Hp} {ls : List Addr} {n : Nat} {k : Key} : ∀ {kvs : List (Key × V)} {xs : List SV}, SVs K Hk ls n (kvs.map (·.2)) xs →
    (lookK k (kvs.map (·.1)) xs = none → valV kvs k = none) ∧ ∀ x, lookK k (kvs.map (·.1)) xs = some x → ∃ v, valV kvs k = some v ∧ SVr K Hk ls n v x
  | [], _, r => by
    cases r
    exact ⟨fun _ => rfl, (fun x e => by cases e)⟩
  | (j, u) :: kvs, _, .cons (s := s) (ss := ss) r t => by
    obtain ⟨h1, h2⟩ := lookK_ok (k := k) t
    by_cases h : j = k
    · simp only [List.map_cons, lookK, if_pos h]
      refine ⟨(fun e => by cases e), fun x e => ?_⟩
      cases e
      exact ⟨u, by simp [valV, h], r⟩
    · simp only [List.map_cons, lookK, if_neg h]
      have e : valV ((j, u) :: kvs) k = valV kvs k := by simp [valV, h]
      rw [e]
      exact ⟨h1, h2⟩

def eDGet2 (mo mi md : EM R) : EM R := (fz mo).seq fun s => fun ρ M => match dictOf M s with
  | some _ => ((fz mi).seq fun t => (fz md).seq fun z => fun _ M3 => match dictOf M3 s, keyD t with
    | some (ks, xs), some k => some (.sv ((lookK k ks xs).getD z), M3)
    | _, _ => none) ρ M
  | none => none
theorem pm_dget2 {X : Cx} {o e f : Expr} {mo mi md : EM R} {apos cpos : Pos} (hu : X.A.units + 64 < cLine) (ho : PM X o mo) (he : PM X e mi) (hf : PM X f md) (m : M2 X o "get" apos e f cpos := by exact ⟨rfl, rfl, rfl, rfl⟩) : PM X (.Call (.Attribute o "get" apos) [e, f] [] cpos) (eDGet2 mo mi md) :=
  PE.imp (pe_dget2 (by omega) (PM.v ho) (PM.v he) (PM.v hf) m) fun σ H Q ⟨Hk, ls, ρ, M, r, M', w, en, hm, q⟩ => by
  obtain ⟨s, M1, h1, h2⟩ := seq_some hm
  refine ⟨Hk, ls, ρ, M, s, M1, w, en, h1, fun v Hk1 H1 w1 x1 r1 => ?_⟩
  split at h2
  · rename_i pq hd
    obtain ⟨ks0, xs0⟩ := pq
    obtain ⟨a, kvs0, rfl, hH0, _, _⟩ := dictOf_ok w1 r1 hd
    refine ⟨a, rfl, .inl ⟨kvs0, .inl hH0⟩, ?_⟩
    obtain ⟨t, M2, h3, h4⟩ := seq_some h2
    obtain ⟨z, M3, h5, h6⟩ := seq_some h4
    refine ⟨Hk1, ls, ρ, M1, t, M2, w1, en.mono x1.kk, h3, fun y Hk2 H2 w2 x2 r2 => ?_⟩
    refine ⟨Hk2, ls, ρ, M2, z, M3, w2, (en.mono x1.kk).mono x2.kk, h5, fun u Hk3 H3 w3 x3 r3 => ?_⟩
    split at h6
    · rename_i ks xs k hdd hk
      cases h6
      obtain ⟨a', kvs, e1, hH, hks, hsv⟩ := dictOf_ok w3 ((r1.mono x2.kk).mono x3.kk) hdd
      cases e1
      subst hks
      obtain ⟨l1, l2⟩ := lookK_ok (k := k) hsv
      have ey := keyD_ok (r2.mono x3.kk) hk
      subst ey
      refine ⟨valV kvs k, DGet.k hH, ?_⟩
      cases hl : lookK k (kvs.map (·.1)) xs with
      | none =>
        rw [l1 hl]
        rw [hl] at q
        exact q u Hk3 H3 w3 ((x1.trans x2).trans x3) r3
      | some x =>
        obtain ⟨v', hv, rv⟩ := l2 x hl
        rw [hv]
        rw [hl] at q
        exact q v' Hk3 H3 w3 ((x1.trans x2).trans x3) rv
    · cases h6
  · cases h2
def eDGet (mo mi : EM R) : EM R := (fz mo).seq fun s => (fz mi).seq fun t => fun _ M => match dictOf M s, keyD t with
  | some (ks, xs), some k => match lookK k ks xs with
    | some x => some (.sv x, M)
    | none => none
  | _, _ => none
theorem pm_dgetI {X : Cx} {o e : Expr} {mo mi : EM R} {pos : Pos} (hu : X.A.units + 64 < cLine) (ho : PM X o mo) (he : PM X e mi) (hs : NoSl e := by exact fun _ _ => rfl) : PM X (.Subscript o e pos) (eDGet mo mi) :=
  PE.imp (pe_dget (by omega) (PM.v ho) (PM.v he) hs) fun σ H Q ⟨Hk, ls, ρ, M, r, M', w, en, hm, q⟩ => by
  obtain ⟨s, M1, h1, h2⟩ := seq_some hm
  obtain ⟨t, M2, h3, h4⟩ := seq_some h2
  refine ⟨Hk, ls, ρ, M, s, M1, w, en, h1, fun v Hk1 H1 w1 x1 r1 => ?_⟩
  refine ⟨Hk1, ls, ρ, M1, t, M2, w1, en.mono x1.kk, h3, fun y Hk2 H2 w2 x2 r2 => ?_⟩
  split at h4
  · rename_i ks xs k hdd hk
    obtain ⟨a, kvs, rfl, hH, hks, hsv⟩ := dictOf_ok w2 (r1.mono x2.kk) hdd
    subst hks
    obtain ⟨l1, l2⟩ := lookK_ok (k := k) hsv
    have ey := keyD_ok r2 hk
    subst ey
    cases hl : lookK k (kvs.map (·.1)) xs with
    | none => rw [hl] at h4; cases h4
    | some x =>
      rw [hl] at h4
      cases h4
      obtain ⟨v', hv, rv⟩ := l2 x hl
      exact ⟨a, v', rfl, by rw [← hv]; exact DGet.k hH, q v' Hk2 H2 w2 (x1.trans x2) rv⟩
  · cases h4
/-! ### in: data of any depth -/
def rInDT (K : PySem.W.Frag) : R2 := fun x y H Q => ∃ d ds, Dp K H x d ∧ Dp K H y (.tuple ds) ∧ SeqAt.shaped d = true ∧ SeqAt.shaped (.tuple ds) = true ∧ Q (.bl (ds.any fun z => PyData.eqv z d)) H
def rNotInDT (K : PySem.W.Frag) : R2 := fun x y H Q => ∃ d ds, Dp K H x d ∧ Dp K H y (.tuple ds) ∧ SeqAt.shaped d = true ∧ SeqAt.shaped (.tuple ds) = true ∧ Q (.bl (!ds.any fun z => PyData.eqv z d)) H
theorem op_inDT {X : Cx} (hu : X.A.units + 65 < cLine) : OpR X (compareOp .In) (rInDT X.K) := by
  intro pins s σ H x y v u Q I rx ry h
  obtain ⟨d, ds, hd, he, sd, se, q⟩ := h
  obtain ⟨as, r1⟩ := Dp.reads I d x v hd rx
  obtain ⟨bs, r2⟩ := Dp.reads I (.tuple ds) y u he ry
  exact SeqAt.in_tuple_reads r2 r1 (SeqAt.canLay_of_shaped se) (SeqAt.canLay_of_shaped sd) (room_in_shaped sd hu) ⟨.bl _, H, I, rfl, q⟩
theorem op_notInDT {X : Cx} (hu : X.A.units + 65 < cLine) : OpR X (compareOp .NotIn) (rNotInDT X.K) := by
  intro pins s σ H x y v u Q I rx ry h
  obtain ⟨d, ds, hd, he, sd, se, q⟩ := h
  obtain ⟨as, r1⟩ := Dp.reads I d x v hd rx
  obtain ⟨bs, r2⟩ := Dp.reads I (.tuple ds) y u he ry
  exact SeqAt.notIn_tuple_reads r2 r1 (SeqAt.canLay_of_shaped se) (SeqAt.canLay_of_shaped sd) (room_in_shaped sd hu) ⟨.bl _, H, I, rfl, q⟩
def inDS (M : MS) (s t : SV) : Option Bool := match peek M s, peek M t with
  | some d, some (.lst es) => match toP d, toPl es with
    | some p, some ps => if SeqAt.shaped p && SeqAt.shaped (.list ps) then some (ps.any fun z => PyData.eqv z p) else none
    | _, _ => none
  | some d, some (.tup es) => match toP d, toPl es with
    | some p, some ps => if SeqAt.shaped p && SeqAt.shaped (.tuple ps) then some (ps.any fun z => PyData.eqv z p) else none
    | _, _ => none
  | _, _ => none
def gInD (M : MS) (s t : SV) : Option R := match inS M s t with
  | some b => rB b
  | none => match inDS M s t with
    | some b => rB b
    | none => none
def gNotInD (M : MS) (s t : SV) : Option R := match inS M s t with
  | some b => rB (!b)
  | none => match inDS M s t with
    | some b => rB (!b)
    | none => none
theorem inDS_ok {K : PySem.W.Frag} {Hk H : Hp} {M : MS} {ls : List Addr} {x y : V} {s t : SV} {b : Bool} (w : World K Hk H M ls) (rx : SVr K Hk ls ls.length x s) (ry : SVr K Hk ls ls.length y t) (e : inDS M s t = some b) :
    ∃ p ps, Dp K H x p ∧ SeqAt.shaped p = true ∧ ((Dp K H y (.list ps) ∧ SeqAt.shaped (.list ps) = true) ∨ (Dp K H y (.tuple ps) ∧ SeqAt.shaped (.tuple ps) = true)) ∧ b = ps.any fun z => PyData.eqv z p := by
  unfold inDS at e
  split at e
  · rename_i d es h1 h2
    split at e
    · rename_i p ps h3 h4
      split at e
      · rename_i hs
        cases e
        rw [Bool.and_eq_true] at hs
        exact ⟨p, ps, toP_ok (peek_ok w _ _ _ _ _ rx h1) h3, hs.1, .inl ⟨toP_ok (peek_ok w _ _ _ _ _ ry h2) (by simp only [toP, h4]), hs.2⟩, rfl⟩
      · cases e
    · cases e
  · rename_i d es h1 h2
    split at e
    · rename_i p ps h3 h4
      split at e
      · rename_i hs
        cases e
        rw [Bool.and_eq_true] at hs
        exact ⟨p, ps, toP_ok (peek_ok w _ _ _ _ _ rx h1) h3, hs.1, .inr ⟨toP_ok (peek_ok w _ _ _ _ _ ry h2) (by simp only [toP, h4]), hs.2⟩, rfl⟩
      · cases e
    · cases e
  · cases e
theorem opd_inD {K : PySem.W.Frag} : OpD K (fun x y H Q => rInS K x y H Q ∨ rInD K x y H Q ∨ rInDT K x y H Q) gInD := by
  intro Hk H M ls x y s t z Q w rx ry e q
  unfold gInD at e
  split at e
  · rename_i b hb
    refine .inl (opd_in Hk H M ls x y s t z Q w rx ry ?_ q)
    unfold gIn
    rw [hb]
    exact e
  · split at e
    · rename_i b hb
      cases e
      obtain ⟨p, ps, h1, h2, h3, rfl⟩ := inDS_ok w rx ry hb
      rcases h3 with ⟨h3, h4⟩ | ⟨h3, h4⟩
      · exact .inr (.inl ⟨p, ps, h1, h3, h2, h4, q.dt w (.bl _)⟩)
      · exact .inr (.inr ⟨p, ps, h1, h3, h2, h4, q.dt w (.bl _)⟩)
    · cases e
theorem opd_notInD {K : PySem.W.Frag} : OpD K (fun x y H Q => rNotInS K x y H Q ∨ rNotInD K x y H Q ∨ rNotInDT K x y H Q) gNotInD := by
  intro Hk H M ls x y s t z Q w rx ry e q
  unfold gNotInD at e
  split at e
  · rename_i b hb
    refine .inl (opd_notIn Hk H M ls x y s t z Q w rx ry ?_ q)
    unfold gNotIn
    rw [hb]
    exact e
  · split at e
    · rename_i b hb
      cases e
      obtain ⟨p, ps, h1, h2, h3, rfl⟩ := inDS_ok w rx ry hb
      rcases h3 with ⟨h3, h4⟩ | ⟨h3, h4⟩
      · exact .inr (.inl ⟨p, ps, h1, h3, h2, h4, q.dt w (.bl _)⟩)
      · exact .inr (.inr ⟨p, ps, h1, h3, h2, h4, q.dt w (.bl _)⟩)
    · cases e
end Dy

set_option Elab.async false
set_option linter.all false
set_option maxRecDepth 100000
set_option maxHeartbeats 4000000
/-! Layer Dy, part 22: several fresh things at once: x, y = [..], [..]; x = [f(), g()] whose items are changed later. -/
namespace Dy
open PySem PySem.Spec PyProof.Rows L2
def isFr : R → Bool
  | .sv _ => false
  | _ => true
inductive RrS (K : PySem.W.Frag) (H0 Hk H : Hp) (ls : List Addr) : List V → List R → Prop
  | nil : RrS K H0 Hk H ls [] []
  | cons {v : V} {vs : List V} {r : R} {rs : List R} : Rr K H0 Hk H ls v r → RrS K H0 Hk H ls vs rs → (isFr r = true → ∀ (i : Nat) (v' : V) (r' : R), vs[i]? = some v' → rs[i]? = some r' → isFr r' = true → v' ≠ v) → RrS K H0 Hk H ls (v :: vs) (r :: rs)
section
variable {K : PySem.W.Frag} {H0 Hk H Hk' H' Hk0 : Hp} {ls : List Addr} {M : MS}
theorem Rr.keep {v : V} {r : R} (h : Rr K H0 Hk H ls v r) (x : Ext ls Hk H Hk' H') : Rr K H0 Hk' H' ls v r := by
  have nk : ∀ l o, H l = some o → Hk l = none → Hk' l = none := fun l o h1 h2 => by
    cases e : Hk' l with
    | none => rfl
    | some u =>
      rcases x.gr l (by rw [e]; simp) with z | z
      · exact absurd h2 z
      · rw [h1] at z; cases z
  cases r with
  | sv s => exact SVr.mono x.kk h
  | fr ds =>
    obtain ⟨l, vs, e, h0, hn, hl, hh, ha⟩ := h
    exact ⟨l, vs, e, h0, nk l _ hh hn, hl, x.fr l _ hh hl, RpA.mono x.kk ha⟩
  | fd ks ds =>
    obtain ⟨l, kvs, e, h0, hn, hl, hh, hk, ha⟩ := h
    exact ⟨l, kvs, e, h0, nk l _ hh hn, hl, x.fr l _ hh hl, hk, RpA.mono x.kk ha⟩
theorem RrS.back {H1 Hk1 : Hp} (x : Ext ls Hk0 H0 Hk1 H1) : ∀ {vs : List V} {rs : List R}, RrS K H1 Hk H ls vs rs → RrS K H0 Hk H ls vs rs
  | _, _, .nil => .nil
  | _, _, .cons r t d => .cons (ebin_go.rr_back x r) (RrS.back x t) d
theorem Rr.new {v : V} {r : R} (h : Rr K H0 Hk H ls v r) (hf : isFr r = true) : ∃ l, v = .ref l ∧ H0 l = none ∧ H l ≠ none := by
  cases r with
  | sv s => cases hf
  | fr ds =>
    obtain ⟨l, vs, e, h0, hn, hl, hh, ha⟩ := h
    exact ⟨l, e, h0, by rw [hh]; simp⟩
  | fd ks ds =>
    obtain ⟨l, kvs, e, h0, hn, hl, hh, hk, ha⟩ := h
    exact ⟨l, e, h0, by rw [hh]; simp⟩
theorem RrS.at {vs : List V} {rs : List R} (h : RrS K H0 Hk H ls vs rs) : ∀ (i : Nat) (v : V) (r : R), vs[i]? = some v → rs[i]? = some r → Rr K H0 Hk H ls v r := by
  induction h with
  | nil => intro i v r e; simp at e
  | cons h t d ih =>
    intro i v r e1 e2
    cases i with
    | zero =>
      simp at e1 e2
      subst e1 e2
      exact h
    | succ i => exact ih i v r (by simpa using e1) (by simpa using e2)
end
def tAR (K : PySem.W.Frag) (m : EM (List R)) : TA := fun σ H Q => ∃ Hk ls ρ M r M', World K Hk H M ls ∧ EnvR K Hk ls σ ρ ∧ m ρ M = some (r, M') ∧
  ∀ vs Hk' H', World K Hk' H' M' ls → Ext ls Hk H Hk' H' → RrS K H Hk' H' ls vs r → Q vs H'
abbrev PAR (X : Cx) (es : List Expr) (m : EM (List R)) : Prop := PA X es (tAR X.K m)
def rNil : EM (List R) := EM.ret []
/-- an item that stays fresh -/
def rConsN (m : EM R) (ms : EM (List R)) : EM (List R) := m.seq fun r => ms.seq fun rs => EM.ret (r :: rs)
/-- an item that is a datum from here on -/
def rConsD (m : EM R) (ms : EM (List R)) : EM (List R) := (fz m).seq fun s => ms.seq fun rs => EM.ret (.sv s :: rs)
section
variable {X : Cx} {e : Expr} {es : List Expr} {m : EM R} {ms : EM (List R)}
theorem par_nil : PAR X [] rNil := PA.imp pa_nil fun σ H Q ⟨Hk, ls, ρ, M, r, M', w, en, hm, q⟩ => by
  cases hm
  exact q [] Hk H w (Ext.refl _ _ _) .nil
theorem par_consN (h : PM X e m) (hs : PAR X es ms) (hst : starEach (e :: es) X.env = (false, eval e X.env) :: starEach es X.env := by rfl) : PAR X (e :: es) (rConsN m ms) :=
  PA.imp (pa_cons h hs hst) fun σ H Q ⟨Hk, ls, ρ, M, r, M', w, en, hm, q⟩ => by
  obtain ⟨r1, M1, h1, h2⟩ := seq_some hm
  obtain ⟨rs, M2, h3, h4⟩ := seq_some h2
  cases h4
  refine ⟨Hk, ls, ρ, M, r1, M1, w, en, h1, fun v Hk1 H1 w1 x1 k1 => ?_⟩
  refine ⟨Hk1, ls, ρ, M1, rs, _, w1, en.mono x1.kk, h3, fun vs Hk2 H2 w2 x2 k2 => ?_⟩
  refine q (v :: vs) Hk2 H2 w2 (x1.trans x2) (.cons (k1.keep x2) (k2.back x1) fun hf i v' r' e1 e2 hf' z => ?_)
  subst z
  obtain ⟨l, rfl, _, n1⟩ := k1.new hf
  obtain ⟨l', e, n2, _⟩ := (k2.at i _ r' e1 e2).new hf'
  cases e
  exact n1 n2
theorem par_consD (h : PM X e m) (hs : PAR X es ms) (hst : starEach (e :: es) X.env = (false, eval e X.env) :: starEach es X.env := by rfl) : PAR X (e :: es) (rConsD m ms) :=
  PA.imp (pa_cons (PM.v h) hs hst) fun σ H Q ⟨Hk, ls, ρ, M, r, M', w, en, hm, q⟩ => by
  obtain ⟨s, M1, h1, h2⟩ := seq_some hm
  obtain ⟨rs, M2, h3, h4⟩ := seq_some h2
  cases h4
  refine ⟨Hk, ls, ρ, M, s, M1, w, en, h1, fun v Hk1 H1 w1 x1 k1 => ?_⟩
  refine ⟨Hk1, ls, ρ, M1, rs, _, w1, en.mono x1.kk, h3, fun vs Hk2 H2 w2 x2 k2 => ?_⟩
  exact q (v :: vs) Hk2 H2 w2 (x1.trans x2) (.cons (SVr.mono x2.kk k1) (k2.back x1) fun hf => by cases hf)
end
/-- each fresh thing gets a handle -/
def allocL : List R → MS → List SV × MS
  | [], M => ([], M)
  | .sv s :: rs, M => (s :: (allocL rs M).1, (allocL rs M).2)
  | .fr ds :: rs, M => (.mu M.length :: (allocL rs (M ++ [.l (ds.map .dt)])).1, (allocL rs (M ++ [.l (ds.map .dt)])).2)
  | .fd ks ds :: rs, M => (.mu M.length :: (allocL rs (M ++ [.d ks (ds.map .dt)])).1, (allocL rs (M ++ [.d ks (ds.map .dt)])).2)
section
variable {K : PySem.W.Frag} {H0 Hk H : Hp}
theorem RrS.more {ls : List Addr} {l : Addr} : ∀ {vs : List V} {rs : List R}, RrS K H0 Hk H ls vs rs → (∀ (i : Nat) (v' : V) (r' : R), vs[i]? = some v' → rs[i]? = some r' → isFr r' = true → v' ≠ .ref l) → RrS K H0 Hk H (ls ++ [l]) vs rs
  | _, _, .nil, _ => .nil
  | _, _, .cons (v := v) (r := r) h t d, n => by
    refine .cons ?_ (RrS.more t fun i v' r' e1 e2 => n (i + 1) v' r' (by simpa using e1) (by simpa using e2)) d
    have n0 := n 0 v r (by simp) (by simp)
    cases r with
    | sv s => exact SVr.moreS (fun _ _ e => e) ⟨[l], rfl⟩ h
    | fr ds =>
      obtain ⟨a, vs, e, h0, hn, hl, hh, ha⟩ := h
      refine ⟨a, vs, e, h0, hn, fun z => ?_, hh, ha⟩
      rcases List.mem_append.mp z with z | z
      · exact hl z
      · have : a = l := by simpa using z
        subst this
        exact n0 rfl e
    | fd ks ds =>
      obtain ⟨a, kvs, e, h0, hn, hl, hh, hk, ha⟩ := h
      refine ⟨a, kvs, e, h0, hn, fun z => ?_, hh, hk, ha⟩
      rcases List.mem_append.mp z with z | z
      · exact hl z
      · have : a = l := by simpa using z
        subst this
        exact n0 rfl e
theorem alloc_ok : ∀ {vs : List V} {rs : List R} {M : MS} {ls : List Addr}, World K Hk H M ls → RrS K H0 Hk H ls vs rs → ∃ t, World K Hk H (allocL rs M).2 (ls ++ t) ∧ SVs K Hk (ls ++ t) (ls ++ t).length vs (allocL rs M).1 ∧ ∀ a ∈ t, H0 a = none
  | _, _, M, ls, w, .nil => ⟨[], by simpa [allocL] using w, by simpa [allocL] using SVs.nil, by simp⟩
  | _, _, M, ls, w, .cons (v := v) (r := r) h t d => by
    cases r with
    | sv s =>
      obtain ⟨u, w2, s2, n2⟩ := alloc_ok w t
      exact ⟨u, w2, .cons (SVr.moreS (fun _ _ e => e) ⟨u, rfl⟩ h) s2, n2⟩
    | fr ds =>
      obtain ⟨a, us, e, h0, hn, hl, hh, ha⟩ := h
      subst e
      have w1 := w.push (o := .l (ds.map .dt)) hl hn ⟨us, hh, SVs.ofA ha⟩
      obtain ⟨u, w2, s2, n2⟩ := alloc_ok w1 (t.more (l := a) fun i v' r' e1 e2 hf => d rfl i v' r' e1 e2 hf)
      refine ⟨a :: u, by simpa [allocL] using w2, ?_, fun b hb => ?_⟩
      · rw [List.append_assoc] at s2
        refine .cons ⟨by rw [w.len]; simp, a, ?_, rfl⟩ s2
        rw [w.len, List.getElem?_append_right (Nat.le_refl _)]
        simp
      · rcases List.mem_cons.mp hb with rfl | hb
        · exact h0
        · exact n2 b hb
    | fd ks ds =>
      obtain ⟨a, kvs, e, h0, hn, hl, hh, hk, ha⟩ := h
      subst e
      have w1 := w.push (o := .d ks (ds.map .dt)) hl hn ⟨kvs, hh, hk, SVs.ofA ha⟩
      obtain ⟨u, w2, s2, n2⟩ := alloc_ok w1 (t.more (l := a) fun i v' r' e1 e2 hf => d rfl i v' r' e1 e2 hf)
      refine ⟨a :: u, by simpa [allocL] using w2, ?_, fun b hb => ?_⟩
      · rw [List.append_assoc] at s2
        refine .cons ⟨by rw [w.len]; simp, a, ?_, rfl⟩ s2
        rw [w.len, List.getElem?_append_right (Nat.le_refl _)]
        simp
      · rcases List.mem_cons.mp hb with rfl | hb
        · exact h0
        · exact n2 b hb
end
def sPar2N (i j : Nat) (ms : EM (List R)) : SM := fun ρ M => match ms ρ M with
  | some (rs, M1) => match allocL rs M1 with
    | ([s, t], M2) => some (.nx ((ρ.set i (some s)).set j (some t)) M2)
    | _ => none
  | none => none
def sPar3N (i j l : Nat) (ms : EM (List R)) : SM := fun ρ M => match ms ρ M with
  | some (rs, M1) => match allocL rs M1 with
    | ([s, t, u], M2) => some (.nx (((ρ.set i (some s)).set j (some t)).set l (some u)) M2)
    | _ => none
  | none => none
theorem extS_alloc {ls t : List Addr} {Hk H Hk1 H1 : Hp} (x : Ext ls Hk H Hk1 H1) (n : ∀ a ∈ t, H a = none) : ExtS ls (ls ++ t) Hk H Hk1 H1 :=
  ⟨⟨t, rfl⟩, x.kk, x.fr, x.gr, fun a ha => by
    rcases List.mem_append.mp ha with h | h
    · exact .inl h
    · exact .inr (n a h), x.st⟩
section
variable {X : Cx} {ms : EM (List R)} {st : Stmt}
theorem psm_par2N {i j : Nat} (h : PS X st (tPar i j (tAR X.K ms))) : PSm X st (sPar2N i j ms) := PS.imp h fun E σ H ⟨Hk, ls, ρ, M, o, w, en, hm, q⟩ => by
  unfold sPar2N at hm
  split at hm
  · rename_i rs M1 h1
    split at hm
    · rename_i s t M2 ha
      cases hm
      refine ⟨Hk, ls, ρ, M, rs, M1, w, en, h1, fun vs Hk1 H1 w1 x1 k1 => ?_⟩
      obtain ⟨u, w2, s2, n2⟩ := alloc_ok w1 k1
      rw [ha] at w2 s2
      have xs := extS_alloc x1 n2
      cases s2 with
      | cons a1 s2 =>
        cases s2 with
        | cons a2 s2 =>
          cases s2
          exact ⟨_, _, rfl, q _ Hk1 H1 _ w2 xs (((en.extS xs).set a1).set a2)⟩
    · cases hm
  · cases hm
theorem psm_par3N {i j l : Nat} (h : PS X st (tPar3 i j l (tAR X.K ms))) : PSm X st (sPar3N i j l ms) := PS.imp h fun E σ H ⟨Hk, ls, ρ, M, o, w, en, hm, q⟩ => by
  unfold sPar3N at hm
  split at hm
  · rename_i rs M1 h1
    split at hm
    · rename_i s t z M2 ha
      cases hm
      refine ⟨Hk, ls, ρ, M, rs, M1, w, en, h1, fun vs Hk1 H1 w1 x1 k1 => ?_⟩
      obtain ⟨u, w2, s2, n2⟩ := alloc_ok w1 k1
      rw [ha] at w2 s2
      have xs := extS_alloc x1 n2
      cases s2 with
      | cons a1 s2 =>
        cases s2 with
        | cons a2 s2 =>
          cases s2 with
          | cons a3 s2 =>
            cases s2
            exact ⟨_, _, _, rfl, q _ Hk1 H1 _ w2 xs ((((en.extS xs).set a1).set a2).set a3)⟩
    · cases hm
  · cases hm
/-- x = [..], its items perhaps with handles -/
def sNewL (i : Nat) (ms : EM (List R)) : SM := fun ρ M => match ms ρ M with
  | some (rs, M1) => if (allocL rs M1).1.length ≤ sizeLine then some (.nx (ρ.set i (some (.mu (allocL rs M1).2.length))) ((allocL rs M1).2 ++ [.l (allocL rs M1).1])) else none
  | none => none
theorem psm_newL {i : Nat} (h : PS X st (tAsg (tLst (tAR X.K ms)) (gName i))) : PSm X st (sNewL i ms) := PS.imp h fun E σ H ⟨Hk, ls, ρ, M, o, w, en, hm, q⟩ => by
  unfold sNewL at hm
  split at hm
  · rename_i rs M1 h1
    split at hm
    · rename_i hz
      cases hm
      refine ⟨Hk, ls, ρ, M, rs, M1, w, en, h1, fun vs Hk1 H1 w1 x1 k1 => ?_⟩
      obtain ⟨t, w2, s2, n2⟩ := alloc_ok w1 k1
      refine ⟨by rw [s2.length]; exact hz, fun p hp => ?_⟩
      have f2 := w2.fresh hp
      have w3 := (w2.upd_new (o := .lst vs) hp).push (o := .l (allocL rs M1).1) f2.2 f2.1 ⟨vs, upd_same, by rw [w2.len]; exact s2⟩
      have x2 : Ext ls Hk H Hk1 (upd H1 p (.lst vs)) := x1.trans (Ext.upd_new hp)
      have hp0 : H p = none := by
        cases e : H p with
        | none => rfl
        | some o => exact absurd hp (x1.st p (by rw [e]; simp))
      have xs : ExtS ls (ls ++ t ++ [p]) Hk H Hk1 (upd H1 p (.lst vs)) := by
        rw [List.append_assoc]
        refine extS_alloc x2 fun a ha => ?_
        rcases List.mem_append.mp ha with h | h
        · exact n2 a h
        · have : a = p := by simpa using h
          subst this
          exact hp0
      refine q _ Hk1 _ _ w3 xs ((en.extS xs).set ⟨by rw [w2.len]; simp, p, ?_, rfl⟩)
      rw [w2.len, List.getElem?_append_right (Nat.le_refl _)]
      simp
    · cases hm
  · cases hm
end
end Dy
namespace Dy
open PySem PySem.Spec PyProof.Rows L2
section
variable {X : Cx} {a b : Expr} {ma mb : EM R} {pos : Pos}
theorem pm_inD (hu : X.A.units + 65 < cLine) (ha : PM X a ma) (hb : PM X b mb) (hm : behindInMarks .In b = false := by rfl) : PM X (.Compare a [.In] [b] pos) (eBin gInD ma mb) := pm_cmp (OpR.or op_inS (OpR.or (op_inD hu) (op_inDT hu))) opd_inD ha hb hm
theorem pm_notInD (hu : X.A.units + 65 < cLine) (ha : PM X a ma) (hb : PM X b mb) (hm : behindInMarks .NotIn b = false := by rfl) : PM X (.Compare a [.NotIn] [b] pos) (eBin gNotInD ma mb) := pm_cmp (OpR.or op_notInS (OpR.or (op_notInD hu) (op_notInDT hu))) opd_notInD ha hb hm
theorem ptm_inD (hu : X.A.units + 65 < cLine) (ha : PM X a ma) (hb : PM X b mb) (hm : behindInMarks .In b = false := by rfl) : PTm X (.Compare a [.In] [b] pos) (eBool (eBin gInD ma mb)) := ptm_cmp (OpR.or op_inS (OpR.or (op_inD hu) (op_inDT hu))) opd_inD ha hb hm
theorem ptm_notInD (hu : X.A.units + 65 < cLine) (ha : PM X a ma) (hb : PM X b mb) (hm : behindInMarks .NotIn b = false := by rfl) : PTm X (.Compare a [.NotIn] [b] pos) (eBool (eBin gNotInD ma mb)) := ptm_cmp (OpR.or op_notInS (OpR.or (op_notInD hu) (op_notInDT hu))) opd_notInD ha hb hm
end
end Dy

set_option Elab.async false
set_option linter.all false
set_option maxRecDepth 100000
set_option maxHeartbeats 4000000
/-! Layer Dy: the head's run in parts, each its own evaluation; the addresses that are looked at are written down. -/
namespace Dy
open PySem PySem.W PySem.Calls PyProof.Rows HandSHeadRun
def obsY (as : List Addr) (chk : Frag → Bool) (fn : List He.DefD) (g : Addr → Option Obj) : He.AlD := (fun K => (chk K && fn.all fun d => d.ok K, fn.map fun d => He.fnW K d.at_)) (He.frG g as)
def hookY (as : List Addr) (chk : Frag → Bool) (fn : List He.DefD) : Hook where
  α := He.AlD
  obs := fun s => obsY as chk fn s.heap.get?
  val := fun _ => He.valD fn
  says := fun _ h => ∃ K : Frag, K.In h ∧ SaysX chk fn K
  of := fun _ _ e => ⟨_, He.frG_in, congrArg (fun z : He.AlD => z.1) e, congrArg (fun z : He.AlD => z.2) e⟩
  keeps := fun _ _ _ ⟨K, hK, c⟩ k => ⟨K, Frag.In.keeps hK k, c⟩
theorem obsY_eq {as : List Addr} {chk : Frag → Bool} {fn : List He.DefD} {g : Addr → Option Obj} {s : Shared} (h : ∀ a, g a = s.heap.get? a) : obsY as chk fn g = (hookY as chk fn).obs s := by
  have e : g = s.heap.get? := funext h
  rw [e] <;> rfl
def fragT (as : List Addr) (s : SharedT) : Frag := He.frG (getT s) as
noncomputable def EndA {α : Type} (r : OpenRow) (M : Nat) (w : PySem.World) (os : OsState) (f : SharedT → α) : Option α := (endF (stepQ (denQ tabQ) r.prog w) M r.prog w os).map f
/-- the addresses, as one number -/
def encAds : List Addr → Nat
  | [] => 0
  | a :: r => (a + 1) + 1048576 * encAds r
def adsT (n : Nat) (s : SharedT) : List Addr := sysModules :: He.asD (getT s) n
theorem run_parts {r : OpenRow} {q : Program} {M : Nat} {as : List Addr} {loose : List PySem.Str} {chk : Frag → Bool} {fn : List He.DefD} {w : PySem.World}
    (h0 : ∀ os : OsState, EndA r M w os (fun s => looksF r.prog (boot_heap w.params) s.abs) = some true)
    (h1 : ∀ os : OsState, EndA r M w os (fun s => seenQ q loose (importedModules r.prog.main.body) (fun s => xlAt q [] s && recOk r.toRowW.records s) s.abs) = some (openGood q loose))
    (h2 : ∀ os : OsState, EndA r M w os (fun s => chk (fragT as s)) = some true)
    (h3 : ∀ os : OsState, EndA r M w os (fun s => (fn.all fun d => d.ok (fragT as s), fn.map fun d => He.fnW (fragT as s) d.at_)) = some (true, fn.map He.DefD.val)) :
    RunEq r q (hookY as chk fn) (fun s => obsY as chk fn (getT s)) M loose w := by
  intro os
  have a0 := h0 os
  have a := h1 os
  have b := h2 os
  have c := h3 os
  unfold EndA at a0 a b c
  revert a0 a b c
  generalize endF (stepQ (denQ tabQ) r.prog w) M r.prog w os = E
  intro a0 a b c
  cases E with
  | none => cases a0
  | some s =>
    simp only [Option.map_some, Option.some.injEq, Prod.mk.injEq] at a0 a b c
    have z : obsY as chk fn (getT s) = He.valD fn := by
      show (chk (fragT as s) && fn.all (fun d => d.ok (fragT as s)), fn.map fun d => He.fnW (fragT as s) d.at_) = _
      rw [b, c.1, c.2]
      rfl
    rw [Option.map_some, a0, a]
    exact congrArg (fun x : He.AlD => some (true, openGood q loose, x)) z
end Dy

set_option Elab.async false
set_option linter.all false
set_option maxRecDepth 100000
set_option maxHeartbeats 4000000
/-! Layer Dy, part 23: more evaluation. -/
namespace Dy
open PySem L2
section
variable {ρ : Env} {M : MS}
@[simp] theorem gIx_t0 (x : D) (r : List D) : gIx M (.dt (.tup (x :: r))) (.dt (.int 0)) = some (.sv (.dt x)) := by simp [gIx, itemsOf, atI, ixN]
@[simp] theorem gIx_t1 (x y : D) (r : List D) : gIx M (.dt (.tup (x :: y :: r))) (.dt (.int 1)) = some (.sv (.dt y)) := by
  have h : (1 : Int) < (r.length : Int) + 1 + 1 := by omega
  simp [gIx, itemsOf, atI, ixN, h]
@[simp] theorem gIx_t2 (x y z : D) (r : List D) : gIx M (.dt (.tup (x :: y :: z :: r))) (.dt (.int 2)) = some (.sv (.dt z)) := by
  have h : (2 : Int) < (r.length : Int) + 1 + 1 + 1 := by omega
  simp [gIx, itemsOf, atI, ixN, h]
@[simp] theorem lenS_tup (xs : List D) : lenS M (.dt (.tup xs)) = some (.sv (.dt (.int xs.length))) := by simp [lenS]
@[simp] theorem lenS_lst (xs : List D) : lenS M (.dt (.lst xs)) = some (.sv (.dt (.int xs.length))) := by simp [lenS]
@[simp] theorem gNe_int (i j : Int) : gNe M (.dt (.int i)) (.dt (.int j)) = some (.sv (.dt (.bl (!decide (i = j))))) := by
  unfold gNe
  have e := gEq_int M i j
  unfold gEq at e
  cases h : eqT M (.dt (.int i)) (.dt (.int j)) with
  | none => rw [h] at e; cases e
  | some b =>
    rw [h] at e
    have : b = decide (i = j) := by simpa [rB] using e
    rw [this]
    rfl
@[simp] theorem rConsN_ev (m : EM R) (ms : EM (List R)) : rConsN m ms ρ M = (m ρ M).bind fun p => (ms ρ p.2).bind fun q => some (p.1 :: q.1, q.2) := by
  unfold rConsN
  rw [seq_ev]
  cases m ρ M with
  | none => rfl
  | some p =>
    simp only [Option.bind_some, seq_ev]
    rfl
@[simp] theorem rConsD_ev (m : EM R) (ms : EM (List R)) : rConsD m ms ρ M = (m ρ M).bind fun p => (ms ρ p.2).bind fun q => some (.sv p.1.toSV :: q.1, q.2) := by
  unfold rConsD
  rw [seq_ev, fz_ev]
  cases m ρ M with
  | none => rfl
  | some p =>
    simp only [Option.bind_some, seq_ev]
    rfl
@[simp] theorem rNil_ev : rNil ρ M = some ([], M) := rfl
@[simp] theorem sPutD_ev (mo mi me : EM R) : sPutD mo mi me ρ M = (me ρ M).bind fun p => (mo ρ p.2).bind fun q => (mi ρ q.2).bind fun r => (putAt r.2 q.1.toSV r.1.toSV p.1.toSV).bind fun M4 => some (.nx ρ M4) := by
  unfold sPutD
  rw [fz_ev]
  cases me ρ M with
  | none => rfl
  | some p =>
    simp only [Option.bind_some, fz_ev]
    cases mo ρ p.2 with
    | none => rfl
    | some q =>
      simp only [Option.bind_some]
      cases mi ρ q.2 with
      | none => rfl
      | some r =>
        simp only [Option.bind_some]
        cases putAt r.2 q.1.toSV r.1.toSV p.1.toSV <;> rfl
end
/-- range(len(..)) -/
theorem rng_len {ρ : Env} {M : MS} {m : EM R} {r : R} {ds : List D} (h : m ρ M = some (r, M)) (hr : r.toSV = .dt (.lst ds) ∨ r.toSV = .dt (.tup ds)) (hn : ds.length ≤ 16777216) : eRng1 (eCons (eCall (g1 lenS) (eCons m eNil)) eNil) ρ M = some (rngSrc 0 ds.length, M) := by
  have hi : isRange (ds.length : Int) = true := isRange_of (by omega) (by omega)
  have e : lenS M r.toSV = some (.sv (.dt (.int ds.length))) := by
    rcases hr with hr | hr <;> rw [hr]
    · exact lenS_lst ds
    · exact lenS_tup ds
  have args : eCons (eCall (g1 lenS) (eCons m eNil)) eNil ρ M = some ([.dt (.int (ds.length : Int))], M) := by
    simp [h, e]
  have key : ∀ j : Int, isRange j = true → eCons (eCall (g1 lenS) (eCons m eNil)) eNil ρ M = some ([.dt (.int j)], M) → eRng1 (eCons (eCall (g1 lenS) (eCons m eNil)) eNil) ρ M = some (rngSrc 0 j.toNat, M) := by
    intro j hj ha
    unfold eRng1 EM.seq
    rw [ha]
    simp [hj]
  have q := key _ hi args
  rw [Int.toNat_natCast] at q
  exact q
theorem Ok_items {xs : List D} (h : goodL xs = true) : ∀ x ∈ xs, goodD x = true := by
  induction xs with
  | nil => intro x hx; simp at hx
  | cons d r ih =>
    simp only [goodL, Bool.and_eq_true] at h
    intro x hx
    rcases List.mem_cons.mp hx with rfl | hx
    · exact h.1
    · exact ih h.2 x hx
theorem swtL_mem {xs : List D} : ∀ x ∈ xs, swt x ≤ swtL xs := by
  induction xs with
  | nil => intro x hx; simp at hx
  | cons d r ih =>
    intro x hx
    simp only [swtL]
    rcases List.mem_cons.mp hx with rfl | hx
    · omega
    · have := ih x hx; omega
theorem swtL_len (xs : List D) : xs.length ≤ swtL xs := by
  induction xs with
  | nil => simp
  | cons d r ih => simp only [swtL, List.length_cons]; omega
theorem depL_mem {xs : List D} : ∀ x ∈ xs, dep x ≤ depL xs := by
  induction xs with
  | nil => intro x hx; simp at hx
  | cons d r ih =>
    intro x hx
    simp only [depL]
    rcases List.mem_cons.mp hx with rfl | hx
    · omega
    · have := ih x hx; omega
end Dy

set_option Elab.async false
set_option linter.all false
set_option maxRecDepth 100000
set_option maxHeartbeats 4000000
/-! Layer Dy, part 24: loops by places. -/
namespace Dy
open PySem L2
section
variable {src : Src} {xs : List SV} {b : Bnd} {body : SM}
theorem for_ix_go (hs : IsSrc src xs) (Inv : Nat → Env → MS → Prop) (step : ∀ (i : Nat) (x : SV), xs[i]? = some x → ∀ ρ M, Inv i ρ M → ∃ ρ1, b x ρ = some ρ1 ∧ ∃ ρ2 M2, body ρ1 M = some (.nx ρ2 M2) ∧ Inv (i + 1) ρ2 M2) :
    ∀ (k i : Nat) (ρ : Env) (M : MS), i + k = xs.length → Inv i ρ M → ∃ ρ' M', forGo src b body k i ρ M = some (.nx ρ' M') ∧ Inv xs.length ρ' M'
  | 0, i, ρ, M, hi, hI => ⟨ρ, M, by
    show (if src.stop M i = true then some (Out.nx ρ M) else none) = _
    rw [hs.stop, if_pos (decide_eq_true (by omega))], by rw [← hi]; exact hI⟩
  | k + 1, i, ρ, M, hi, hI => by
    have hx : xs[i]? = some xs[i] := List.getElem?_eq_getElem (by omega)
    obtain ⟨ρ1, hb, ρ2, M2, h1, h2⟩ := step i xs[i] hx ρ M hI
    obtain ⟨ρ', M', h3, h4⟩ := for_ix_go hs Inv step k (i + 1) ρ2 M2 (by omega) h2
    refine ⟨ρ', M', ?_, h4⟩
    unfold forGo
    rw [hs.get, hx]
    simp only [hb, h1]
    exact h3
theorem for_ix {ms : EM Src} {ρ : Env} {M M0 : MS} (Inv : Nat → Env → MS → Prop) (hm : ms ρ M = some (src, M0)) (hs : IsSrc src xs) (h0 : Inv 0 ρ M0)
    (step : ∀ (i : Nat) (x : SV), xs[i]? = some x → ∀ ρ M, Inv i ρ M → ∃ ρ1, b x ρ = some ρ1 ∧ ∃ ρ2 M2, body ρ1 M = some (.nx ρ2 M2) ∧ Inv (i + 1) ρ2 M2) : ∃ ρ' M', sFor ms b body ρ M = some (.nx ρ' M') ∧ Inv xs.length ρ' M' := by
  obtain ⟨ρ', M', h3, h4⟩ := for_ix_go hs Inv step xs.length 0 ρ M0 (by omega) h0
  refine ⟨ρ', M', ?_, h4⟩
  unfold sFor
  simp only [hm]
  rw [hs.n]
  exact h3
end
/-- what a list or a tuple is walked by -/
theorem seq_src {M : MS} {ds : List D} {s : D} (h : s = .lst ds ∨ s = .tup ds) : ∃ src, seqSrc M (.dt s) = some src ∧ IsSrc src (ds.map .dt) := by
  rcases h with rfl | rfl
  · exact isSrc_lst
  · exact isSrc_tup
theorem eSeq_of {m : EM R} {ρ : Env} {M M' : MS} {r : R} {src : Src} (h : m ρ M = some (r, M')) (hs : seqSrc M' r.toSV = some src) : eSeq m ρ M = some (src, M') := by
  rw [eSeq_ev, h, Option.bind_some, hs, Option.bind_some]
theorem gExtend_mu {M : MS} {k : Nat} {ds es : List D} (h : M[k]? = some (.l (ds.map .dt))) (hl : ds.length + es.length ≤ 16777216) : gExtend M (.mu k) [.dt (.lst es)] = some (.sv (.dt .non), M.set k (.l ((ds ++ es).map .dt))) := by
  unfold gExtend
  rw [muL_mu h]
  simp [hl]
theorem cut_take {ds : List D} {i : Nat} (h : i ≤ ds.length) : cutD ds none (some (i : Int)) = ds.take i := by
  unfold cutD
  have e1 : HT.sIx ds.length 0 none = 0 := rfl
  have e2 : HT.sIx ds.length ds.length (some (i : Int)) = i := by
    unfold HT.sIx
    have n : ¬ ((i : Int) < 0) := by omega
    simp [n]
    omega
  rw [e1, e2]
  simp
/-- d.get(k, 0) of ints by texts -/
structure NumD (M : MS) (s : SV) (f : Str → Int) : Prop where
  ex : ∃ ks xs, dictOf M s = some (ks, xs) ∧ ∀ c, (lookK (.inr c) ks xs).getD (.dt (.int 0)) = .dt (.int (f c))
theorem dget2_ok {mo mi : EM R} {ρ : Env} {M : MS} {r : R} {f : Str → Int} {c : Str} (h1 : mo ρ M = some (r, M)) (h2 : NumD M r.toSV f) (h3 : mi ρ M = some (.sv (.dt (.str c)), M)) : eDGet2 mo mi (eC (.int 0)) ρ M = some (.sv (.dt (.int (f c))), M) := by
  obtain ⟨ks, xs, hd, hf⟩ := h2.ex
  unfold eDGet2
  rw [seq_ev, fz_ev, h1]
  simp only [Option.bind_some, hd, seq_ev, fz_ev, h3, eC_ev, toSV_sv, keyD, hf]

/-! ### a comprehension over encoded things -/
theorem comp_map_go {α : Type} {src : Src} {e : α → D} {xs : List α} {b : Bnd} {el : EM R} {ρ0 : Env} {M : MS} (hs : IsSrc src ((xs.map e).map .dt)) (g : α → D) (hl : xs.length ≤ 16777216)
    (step : ∀ x ∈ xs, ∃ ρ1, b (.dt (e x)) ρ0 = some ρ1 ∧ ∃ r, el ρ1 M = some (r, M) ∧ r.toSV = .dt (g x)) :
    ∀ (k i : Nat) (acc : List D), i + k = xs.length → acc.length = i → compGo src b cYes el ρ0 k i acc M = some (acc ++ (xs.drop i).map g, M)
  | 0, i, acc, hi, ha => by
    show (if src.stop M i = true then some (acc, M) else none) = _
    rw [hs.stop, if_pos (decide_eq_true (by simp; omega)), List.drop_eq_nil_of_le (by omega), List.map_nil, List.append_nil]
  | k + 1, i, acc, hi, ha => by
    have hlt : i < xs.length := by omega
    obtain ⟨ρ1, hb, r, he, hr⟩ := step xs[i] (List.getElem_mem _)
    have hx : ((xs.map e).map SV.dt)[i]? = some (.dt (e xs[i])) := by simp [hlt]
    unfold compGo
    rw [hs.get, hx, List.drop_eq_getElem_cons hlt]
    simp only [hb, cYes_ev]
    have hf : fz el ρ1 M = some (.dt (g xs[i]), M) := by
      unfold fz EM.seq
      rw [he]
      show some (r.toSV, M) = _
      rw [hr]
    simp only [hf]
    rw [if_pos (by rw [sizeLine_eq]; omega), comp_map_go hs g hl step k (i + 1) (acc ++ [g xs[i]]) (by omega) (by simp; omega)]
    simp only [List.map_cons, List.append_assoc, List.cons_append, List.nil_append]
theorem comp_map {α : Type} {e : α → D} {xs : List α} {m : EM R} {el : EM R} {j : Nat} {ρ : Env} {M : MS} {r : R} (g : α → D) (hm : m ρ M = some (r, M)) (hr : r.toSV = .dt (.lst (xs.map e)) ∨ r.toSV = .dt (.tup (xs.map e))) (hl : xs.length ≤ 16777216)
    (step : ∀ x ∈ xs, ∃ r, el ((ρ.set j none).set j (some (.dt (e x)))) M = some (r, M) ∧ r.toSV = .dt (g x)) :
    eComp (eSeq m) (bName j) cYes el [j] ρ M = some (.fr (xs.map g), M) := by
  have hsrc : ∃ src, seqSrc M r.toSV = some src ∧ IsSrc src ((xs.map e).map .dt) := by
    rcases hr with hr | hr <;> rw [hr]
    · exact isSrc_lst
    · exact isSrc_tup
  obtain ⟨src, e1, hs⟩ := hsrc
  unfold eComp
  rw [eSeq_of hm e1]
  simp only
  rw [hs.n, List.length_map, List.length_map, comp_map_go (ρ0 := wipeE ρ [j]) hs g hl (fun x hx => ⟨_, rfl, step x hx⟩) xs.length 0 [] (by omega) rfl]
  simp

/-! ### lists that are changed -/
theorem gInsert_mu {M : MS} {k : Nat} {ds : List D} {i : Int} {d : D} (h : M[k]? = some (.l (ds.map .dt))) (h0 : 0 ≤ i) (h1 : i < 1000000000000) (hl : ds.length < 16777216) : gInsert M (.mu k) [.dt (.int i), .dt d] = some (.sv (.dt .non), M.set k (.l ((ds.take i.toNat ++ [d] ++ ds.drop i.toNat).map .dt))) := by
  unfold gInsert
  rw [muL_mu h]
  have c : (ds.map SV.dt).length < sizeLine ∧ 0 ≤ i ∧ i < 2 ^ 63 := ⟨by rw [sizeLine_eq, List.length_map]; exact hl, h0, by omega⟩
  simp only
  rw [if_pos c]
  simp [List.map_take, List.map_drop]
theorem map_erase {α β : Type} (f : α → β) (xs : List α) (i : Nat) : (xs.map f).eraseIdx i = (xs.eraseIdx i).map f := by
  induction xs generalizing i with
  | nil => rfl
  | cons x xs ih =>
    cases i with
    | zero => rfl
    | succ i => simp [ih]
theorem gPopAt_mu {M : MS} {k : Nat} {ds : List D} {i : Int} (h : M[k]? = some (.l (ds.map .dt))) (h0 : 0 ≤ i) (h1 : i < ds.length) (hl : ds.length ≤ 16777216) : ∃ d, gPopAt M (.mu k) [.dt (.int i)] = some (.sv (.dt d), M.set k (.l ((ds.eraseIdx i.toNat).map .dt))) := by
  have hi : i.toNat < ds.length := by omega
  refine ⟨ds[i.toNat], ?_⟩
  unfold gPopAt
  rw [muL_mu h]
  have c : -(2 ^ 63) ≤ i ∧ i < 2 ^ 63 := ⟨by omega, by omega⟩
  have sq : seqIndex? i (ds.map SV.dt).length = some i.toNat := seqIndex_of h0 (by simpa using h1)
  simp only
  rw [if_pos c, sq]
  simp [hi, map_erase]
theorem gAppend_mu {M : MS} {k : Nat} {xs : List SV} {d : D} (h : M[k]? = some (.l xs)) (hl : xs.length < 16777216) : gAppend M (.mu k) [.dt d] = some (.sv (.dt .non), M.set k (.l (xs ++ [.dt d]))) := by
  unfold gAppend
  rw [muL_mu h]
  simp only
  rw [if_pos (by rw [sizeLine_eq]; exact hl)]
theorem swtL_append (a b : List D) : swtL (a ++ b) = swtL a + swtL b := by
  induction a with
  | nil => simp [swtL]
  | cons x a ih => simp only [List.cons_append, swtL, ih]; omega
theorem swtL_ins (ds : List D) (i : Nat) (d : D) : swtL (ds.take i ++ [d] ++ ds.drop i) = swtL ds + swt d + 2 := by
  have e := swtL_append (ds.take i) (ds.drop i)
  rw [List.take_append_drop] at e
  rw [swtL_append, swtL_append, e]
  simp [swtL]
  omega
theorem swtL_erase (ds : List D) (i : Nat) : swtL (ds.eraseIdx i) ≤ swtL ds := by
  induction ds generalizing i with
  | nil => simp
  | cons x ds ih =>
    cases i with
    | zero => simp only [List.eraseIdx_cons_zero, swtL]; omega
    | succ i => have := ih i; simp only [List.eraseIdx_cons_succ, swtL]; omega
theorem swtL_set (ds : List D) (i : Nat) (d : D) (h : i < ds.length) : swtL (ds.set i d) + swt ds[i] = swtL ds + swt d := by
  induction ds generalizing i with
  | nil => simp at h
  | cons x ds ih =>
    cases i with
    | zero => simp only [List.set_cons_zero, swtL, List.getElem_cons_zero]; omega
    | succ i =>
      have := ih i (by simpa using h)
      simp only [List.set_cons_succ, swtL, List.getElem_cons_succ]
      omega
end Dy

set_option Elab.async false
set_option linter.all false
set_option maxRecDepth 100000
set_option maxHeartbeats 4000000
/-! Results as plain things: their order, the different ones ascending. -/
namespace Rs24
open PySem L2 Dy
inductive Rs where
  | inn (a : Str) | seen (c : Str) (n : Int) | made (w : Str) (xs : List Rs)
def sIn : Str := Str.ofString "in"
def sSeen : Str := Str.ofString "seen"
def sMade : Str := Str.ofString "made"
mutual
def enc : Rs → D
  | .inn a => .tup [.str sIn, .str a]
  | .seen c n => .tup [.str sSeen, .str c, .int n]
  | .made w xs => .tup [.str sMade, .str w, .tup (encL xs)]
def encL : List Rs → List D
  | [] => []
  | x :: xs => enc x :: encL xs
end
mutual
def encP : Rs → PyData
  | .inn a => .tuple [.str sIn, .str a]
  | .seen c n => .tuple [.str sSeen, .str c, .int n]
  | .made w xs => .tuple [.str sMade, .str w, .tuple (encPL xs)]
def encPL : List Rs → List PyData
  | [] => []
  | x :: xs => encP x :: encPL xs
end
theorem encL_map (xs : List Rs) : encL xs = xs.map enc := by
  induction xs with
  | nil => rfl
  | cons x xs ih => simp [encL, ih]
theorem encPL_map (xs : List Rs) : encPL xs = xs.map encP := by
  induction xs with
  | nil => rfl
  | cons x xs ih => simp [encPL, ih]
mutual
theorem toP_enc : ∀ r : Rs, toP (enc r) = some (encP r)
  | .inn a => by simp only [enc, encP, toP, toPl]
  | .seen c n => by simp only [enc, encP, toP, toPl]
  | .made w xs => by simp only [enc, encP, toP, toPl, toPl_enc xs]
theorem toPl_enc : ∀ xs : List Rs, toPl (encL xs) = some (encPL xs)
  | [] => rfl
  | x :: xs => by simp only [encL, encPL, toPl, toP_enc x, toPl_enc xs]
end
theorem pD_enc (r : Rs) : pD (enc r) = encP r := by
  unfold pD
  rw [toP_enc]
  rfl
theorem ne1 : (sIn == sSeen) = false := by decide +kernel
theorem ne2 : (sIn == sMade) = false := by decide +kernel
theorem ne3 : (sSeen == sMade) = false := by decide +kernel
theorem ne4 : (sSeen == sIn) = false := by decide +kernel
theorem ne5 : (sMade == sIn) = false := by decide +kernel
theorem ne6 : (sMade == sSeen) = false := by decide +kernel
/-! ### equal, comparable -/
mutual
theorem eqv_enc : ∀ r t : Rs, PyData.eqv (encP r) (encP t) = true ↔ r = t
  | .inn a, t => by
    cases t with
    | inn b => simp [encP, PyData.eqv, PyData.eqvAll]
    | seen c n => simp [encP, PyData.eqv, PyData.eqvAll]
    | made w xs => simp [encP, PyData.eqv, PyData.eqvAll]
  | .seen a i, t => by
    cases t with
    | inn b => simp [encP, PyData.eqv, PyData.eqvAll]
    | seen c n => simp [encP, PyData.eqv, PyData.eqvAll]
    | made w xs => simp [encP, PyData.eqv, PyData.eqvAll, ne3]
  | .made w xs, t => by
    cases t with
    | inn b => simp [encP, PyData.eqv, PyData.eqvAll]
    | seen c n => simp [encP, PyData.eqv, PyData.eqvAll, ne6]
    | made v ys => simp [encP, PyData.eqv, PyData.eqvAll, eqv_encL xs ys]
theorem eqv_encL : ∀ xs ys : List Rs, PyData.eqvAll (encPL xs) (encPL ys) = true ↔ xs = ys
  | [], ys => by cases ys <;> simp [encPL, PyData.eqvAll]
  | x :: xs, ys => by
    cases ys with
    | nil => simp [encPL, PyData.eqvAll]
    | cons y ys => simp [encPL, PyData.eqvAll, eqv_enc x y, eqv_encL xs ys]
end
mutual
theorem cmp_enc : ∀ r t : Rs, cmpD (encP r) (encP t) = true
  | .inn a, t => by cases t <;> simp [encP, cmpD, cmpL, PyData.eqv, ne1, ne2]
  | .seen a i, t => by cases t <;> simp [encP, cmpD, cmpL, PyData.eqv, ne3, ne4]
  | .made w xs, t => by
    cases t with
    | made v ys => simp [encP, cmpD, cmpL, PyData.eqv, cmp_encL xs ys]
    | inn b => simp [encP, cmpD, cmpL, PyData.eqv, ne5]
    | seen c n => simp [encP, cmpD, cmpL, PyData.eqv, ne6]
theorem cmp_encL : ∀ xs ys : List Rs, cmpL (encPL xs) (encPL ys) = true
  | [], ys => by cases ys <;> simp [encPL, cmpL]
  | x :: xs, ys => by
    cases ys with
    | nil => simp [encPL, cmpL]
    | cons y ys => simp [encPL, cmpL, cmp_enc x y, cmp_encL xs ys]
end

/-! ### the order -/
def ltR (r t : Rs) : Bool := PySem.W.dataLt (encP r) (encP t)
theorem ltR_irrefl (r : Rs) : ltR r r = false := PyProof.Rows.lex_irrefl _
theorem ltR_trans {a b c : Rs} (h1 : ltR a b = true) (h2 : ltR b c = true) : ltR a c = true := PyProof.Rows.lex_trans _ _ _ h1 h2
theorem ltR_neg {a b c : Rs} (h : ltR a c = true) : ltR a b = true ∨ ltR b c = true := PyProof.Rows.lex_negTrans _ _ _ h
theorem div_ne {L : List Tk} : ¬ Div L L := by
  rintro ⟨p, a, b, l, m, h1, h2, ne⟩
  rw [h1] at h2
  have := List.append_cancel_left h2
  exact ne (List.cons.inj this).1
theorem ltR_total {a b : Rs} (h1 : ltR a b = false) (h2 : ltR b a = false) : a = b := by
  have e := PyProof.Rows.lex_total _ _ h1 h2
  rw [← eqv_enc]
  cases h : PyData.eqv (encP a) (encP b) with
  | true => rfl
  | false =>
    have d := (toksC _ _ (cmp_enc a b)).2 h
    rw [e] at d
    exact absurd d div_ne
theorem ltR_ne {a b : Rs} (h : ltR a b = true) : a ≠ b := fun e => by
  subst e
  rw [ltR_irrefl] at h
  cases h
theorem ltR_asym {a b : Rs} (h : ltR a b = true) : ltR b a = false := by
  cases e : ltR b a with
  | false => rfl
  | true => have := ltR_trans h e; rw [ltR_irrefl] at this; cases this
/-- not above -/
def leR (a b : Rs) : Bool := !ltR b a
def sortR (L : List Rs) : List Rs := L.mergeSort leR
theorem leR_trans (a b c : Rs) (h1 : leR a b = true) (h2 : leR b c = true) : leR a c = true := by
  unfold leR at *
  simp only [Bool.not_eq_true'] at *
  cases e : ltR c a with
  | false => rfl
  | true =>
    rcases ltR_neg (b := b) e with h | h
    · rw [h2] at h; cases h
    · rw [h1] at h; cases h
theorem leR_total (a b : Rs) : (leR a b || leR b a) = true := by
  unfold leR
  cases e : ltR b a with
  | false => rfl
  | true => simp [ltR_asym e]
theorem sortR_sorted (L : List Rs) : (sortR L).Pairwise (fun a b => leR a b = true) := List.pairwise_mergeSort leR_trans leR_total L
theorem sortR_perm (L : List Rs) : (sortR L).Perm L := List.mergeSort_perm L leR
theorem sortD_enc (L : List Rs) : sortD (L.map enc) = (sortR L).map enc := by
  unfold sortD sortR
  rw [List.map_mergeSort]
  intro a _ b _
  unfold leD leR ltR
  rw [pD_enc, pD_enc]
/-! ### the different ones -/
open Classical in
noncomputable def dd : Option Rs → List Rs → List Rs
  | _, [] => []
  | p, y :: ys => if p = some y then dd (some y) ys else y :: dd (some y) ys
theorem dd_sub (p : Option Rs) (L : List Rs) : (dd p L).Sublist L := by
  induction L generalizing p with
  | nil => exact List.Sublist.refl _
  | cons y ys ih =>
    unfold dd
    split
    · exact (ih _).cons _
    · exact (ih _).cons_cons _
theorem dd_some {p : Rs} : ∀ {L : List Rs}, L.Pairwise (fun a b => leR a b = true) → (∀ x ∈ L, leR p x = true) → (dd (some p) L).Pairwise (fun a b => ltR a b = true) ∧ ∀ x, x ∈ dd (some p) L ↔ x ∈ L ∧ x ≠ p
  | [], _, _ => ⟨List.Pairwise.nil, by simp [dd]⟩
  | y :: ys, h, hp => by
    obtain ⟨h1, h2⟩ := List.pairwise_cons.mp h
    obtain ⟨i1, i2⟩ := dd_some (p := y) h2 h1
    unfold dd
    by_cases e : some p = some y
    · rw [if_pos e]
      cases e
      refine ⟨i1, fun x => ?_⟩
      rw [i2 x, List.mem_cons]
      constructor
      · rintro ⟨a, b⟩; exact ⟨.inr a, b⟩
      · rintro ⟨a, b⟩; exact ⟨a.resolve_left b, b⟩
    · rw [if_neg e]
      have ne : p ≠ y := fun z => e (by rw [z])
      have lt : ltR p y = true := by
        cases q : ltR p y with
        | true => rfl
        | false =>
          have := hp y (by simp)
          unfold leR at this
          simp only [Bool.not_eq_true'] at this
          exact absurd (ltR_total q this) ne
      refine ⟨List.pairwise_cons.mpr ⟨fun x hx => ?_, i1⟩, fun x => ?_⟩
      · obtain ⟨m, n⟩ := (i2 x).mp hx
        have := h1 x m
        unfold leR at this
        simp only [Bool.not_eq_true'] at this
        cases q : ltR y x with
        | true => rfl
        | false => exact absurd (ltR_total this q) n
      · rw [List.mem_cons, List.mem_cons, i2 x]
        constructor
        · rintro (rfl | ⟨a, b⟩)
          · exact ⟨.inl rfl, Ne.symm ne⟩
          · refine ⟨.inr a, fun z => ?_⟩
            subst z
            have := h1 x a
            unfold leR at this
            simp [lt] at this
        · rintro ⟨rfl | a, b⟩
          · exact .inl rfl
          · by_cases z : x = y
            · exact .inl z
            · exact .inr ⟨a, z⟩
theorem dd_none {L : List Rs} (h : L.Pairwise (fun a b => leR a b = true)) : (dd none L).Pairwise (fun a b => ltR a b = true) ∧ ∀ x, x ∈ dd none L ↔ x ∈ L := by
  cases L with
  | nil => exact ⟨List.Pairwise.nil, by simp [dd]⟩
  | cons y ys =>
    obtain ⟨h1, h2⟩ := List.pairwise_cons.mp h
    obtain ⟨i1, i2⟩ := dd_some (p := y) h2 h1
    unfold dd
    rw [if_neg (by simp)]
    refine ⟨List.pairwise_cons.mpr ⟨fun x hx => ?_, i1⟩, fun x => ?_⟩
    · obtain ⟨m, n⟩ := (i2 x).mp hx
      have := h1 x m
      unfold leR at this
      simp only [Bool.not_eq_true'] at this
      cases q : ltR y x with
      | true => rfl
      | false => exact absurd (ltR_total this q) n
    · rw [List.mem_cons, List.mem_cons, i2 x]
      constructor
      · rintro (rfl | ⟨a, b⟩)
        · exact .inl rfl
        · exact .inr a
      · rintro (rfl | a)
        · exact .inl rfl
        · by_cases z : x = y
          · exact .inl z
          · exact .inr ⟨a, z⟩
/-- the different ones, ascending -/
noncomputable def once (L : List Rs) : List Rs := dd none (sortR L)
theorem once_strict (L : List Rs) : (once L).Pairwise (fun a b => ltR a b = true) := (dd_none (sortR_sorted L)).1
theorem once_mem (L : List Rs) (x : Rs) : x ∈ once L ↔ x ∈ L := ((dd_none (sortR_sorted L)).2 x).trans (sortR_perm L).mem_iff
theorem strict_unique : ∀ {L M : List Rs}, L.Pairwise (fun a b => ltR a b = true) → M.Pairwise (fun a b => ltR a b = true) → (∀ x, x ∈ L ↔ x ∈ M) → L = M
  | [], M, _, _, h => by
    cases M with
    | nil => rfl
    | cons y ys => exact absurd ((h y).mpr (by simp)) (by simp)
  | x :: xs, [], _, _, h => absurd ((h x).mp (by simp)) (by simp)
  | x :: xs, y :: ys, hl, hm, h => by
    obtain ⟨l1, l2⟩ := List.pairwise_cons.mp hl
    obtain ⟨m1, m2⟩ := List.pairwise_cons.mp hm
    have e : x = y := by
      have hx : x ∈ y :: ys := (h x).mp (by simp)
      have hy : y ∈ x :: xs := (h y).mpr (by simp)
      rcases List.mem_cons.mp hx with z | z
      · exact z
      · rcases List.mem_cons.mp hy with w | w
        · exact w.symm
        · have a := m1 x z
          have b := l1 y w
          rw [ltR_asym a] at b
          cases b
    subst e
    rw [strict_unique l2 m2 fun z => ?_]
    constructor
    · intro hz
      rcases List.mem_cons.mp ((h z).mp (by simp [hz])) with w | w
      · subst w; exact absurd rfl (ltR_ne (l1 z hz))
      · exact w
    · intro hz
      rcases List.mem_cons.mp ((h z).mpr (by simp [hz])) with w | w
      · subst w; exact absurd rfl (ltR_ne (m1 z hz))
      · exact w
theorem once_congr {L M : List Rs} (h : ∀ x, x ∈ L ↔ x ∈ M) : once L = once M :=
  strict_unique (once_strict L) (once_strict M) fun x => by rw [once_mem, once_mem, h]
theorem once_len (L : List Rs) : (once L).length = L.length ↔ L.Nodup := by
  have hp := sortR_perm L
  have sub := dd_sub none (sortR L)
  constructor
  · intro h
    have e : dd none (sortR L) = sortR L := sub.eq_of_length (by
      show (once L).length = _
      rw [h, hp.length_eq])
    have st := once_strict L
    unfold once at st
    rw [e] at st
    exact (hp.nodup_iff).mp (st.imp fun {a b} h => ltR_ne h)
  · intro h
    have nd : (sortR L).Nodup := hp.nodup_iff.mpr h
    have st : (sortR L).Pairwise (fun a b => ltR a b = true) := by
      have := (sortR_sorted L).and nd
      refine this.imp fun {a b} ⟨h1, h2⟩ => ?_
      unfold leR at h1
      simp only [Bool.not_eq_true'] at h1
      cases q : ltR a b with
      | true => rfl
      | false => exact absurd (ltR_total q h1) h2
    have e : once L = sortR L := strict_unique (once_strict L) st fun x => by rw [once_mem, hp.mem_iff]
    rw [e, hp.length_eq]

/-! ### by places -/
def gI (i : Nat) : SV := .dt (.int (0 + (i : Int)))
def ixP (x : SV) : Nat := (Dy.unI x).toNat
def keepP (O : List Rs) (x : SV) : Bool := decide (Dy.unI x = 0) || !(match O[ixP x]?, O[ixP x - 1]? with
  | some a, some b => PyData.eqv (encP a) (encP b)
  | _, _ => false)
def atP (O : List Rs) (x : SV) : D := match O[ixP x]? with
  | some a => enc a
  | none => .non
theorem ixP_gI (i : Nat) : ixP (gI i) = i := by simp [ixP, gI, Dy.unI]
theorem dd_places (O : List Rs) : ∀ (k i : Nat), i + k = O.length → (((List.range' i k).map gI).filter (keepP O)).map (atP O) = (dd (if i = 0 then none else O[i - 1]?) (O.drop i)).map enc
  | 0, i, h => by
    rw [List.drop_eq_nil_of_le (by omega)]
    simp [dd]
  | k + 1, i, h => by
    have lt : i < O.length := by omega
    have ih := dd_places O k (i + 1) (by omega)
    rw [List.range'_succ, List.map_cons, List.drop_eq_getElem_cons lt]
    have e1 : O[i]? = some O[i] := List.getElem?_eq_getElem lt
    have e2 : (if i + 1 = 0 then none else O[i + 1 - 1]?) = some O[i] := by
      rw [if_neg (by omega)]
      exact e1
    rw [e2] at ih
    have at_ : atP O (gI i) = enc O[i] := by
      unfold atP
      rw [ixP_gI, e1]
    unfold dd
    by_cases z : i = 0
    · subst z
      have kp : keepP O (gI 0) = true := by simp [keepP, gI, Dy.unI]
      rw [List.filter_cons_of_pos kp, List.map_cons, ih, at_, if_pos rfl, if_neg (by simp)]
      rfl
    · rw [if_neg z]
      have e3 : O[i - 1]? = some O[i - 1] := List.getElem?_eq_getElem (by omega)
      rw [e3]
      have zi : ¬ Dy.unI (gI i) = 0 := by simp [gI, Dy.unI]; omega
      by_cases q : O[i - 1] = O[i]
      · have kp : keepP O (gI i) = false := by
          simp only [keepP, ixP_gI, e1, e3, q, (eqv_enc _ _).mpr rfl]
          simp [zi]
        rw [List.filter_cons_of_neg (by simp [kp]), ih, if_pos (by rw [q])]
      · have ne : PyData.eqv (encP O[i]) (encP O[i - 1]) = false := by
          cases r : PyData.eqv (encP O[i]) (encP O[i - 1]) with
          | false => rfl
          | true => exact absurd ((eqv_enc _ _).mp r).symm q
        have kp : keepP O (gI i) = true := by simp [keepP, ixP_gI, e1, e3, ne]
        rw [List.filter_cons_of_pos kp, List.map_cons, ih, at_, if_neg (by simpa using q)]
        rfl
theorem dd_range (O : List Rs) : (((List.range O.length).map gI).filter (keepP O)).map (atP O) = (dd none O).map enc := by
  have := dd_places O O.length 0 (by omega)
  rw [List.range_eq_range']
  simpa using this
/-! ### fit for the layer -/
structure Ok (d : D) : Prop where
  g : goodD d = true
  w : swt d ≤ 16777216
  e : dep d ≤ 60
mutual
theorem good_flat : ∀ r : Rs, goodD (enc r) = true → Dy.flatB (enc r) = true
  | .inn a, h => by simpa [enc, goodD, goodL, Dy.flatB, flatL] using h
  | .seen c n, h => by
    simp [enc, goodD, goodL] at h
    simp [enc, Dy.flatB, flatL, h]
  | .made w xs, h => by
    simp [enc, goodD, goodL] at h
    simp [enc, Dy.flatB, flatL, h.1, h.2.1, good_flatL xs h.2.2]
theorem good_flatL : ∀ xs : List Rs, goodL (encL xs) = true → flatL (encL xs) = true
  | [], _ => rfl
  | x :: xs, h => by
    simp [encL, goodL] at h
    simp [encL, flatL, good_flat x h.1, good_flatL xs h.2]
end
theorem Ok.shape {r : Rs} (h : Ok (enc r)) : SeqAt.shaped (encP r) = true ∧ (encP r).depth ≤ 60 := by
  have f := good_flat r h.g
  obtain ⟨p, h1, h2, h3⟩ := flat_toP f
  rw [toP_enc] at h1
  cases h1
  have := h.e
  exact ⟨flat_shaped f (by omega) (toP_enc r), by omega⟩
theorem tupN_enc (r : Rs) : tupN (enc r) = true := by cases r <;> simp [enc, tupN]
theorem sortOk_enc {L : List Rs} (h : ∀ r ∈ L, Ok (enc r)) : sortOk (L.map enc) = true := by
  unfold sortOk
  simp only [Bool.and_eq_true, Bool.or_eq_true, List.all_eq_true, List.mem_map]
  refine ⟨?_, .inl ?_⟩
  · rintro d ⟨r, hr, rfl⟩
    obtain ⟨h1, h2⟩ := (h r hr).shape
    rw [toP_enc, pD_enc]
    refine ⟨rfl, ⟨h1, decide_eq_true (by omega)⟩, ?_⟩
    rintro e ⟨t, _, rfl⟩
    rw [pD_enc]
    exact cmp_enc r t
  · rintro d ⟨r, hr, rfl⟩
    exact tupN_enc r
end Rs24

set_option Elab.async false
set_option linter.all false
set_option maxRecDepth 100000
set_option maxHeartbeats 4000000
namespace Rs24
open PySem L2 Dy
theorem eqS_enc {a b : Rs} (ha : Ok (enc a)) (hb : Ok (enc b)) (M : MS) : eqS M (.dt (enc a)) (.dt (enc b)) = some (PyData.eqv (encP a) (encP b)) :=
  gEq_data (peek_dt' _) (peek_dt' _) (toP_enc a) (toP_enc b) ha.shape.1 hb.shape.1
theorem eqT_enc (a : Rs) (t : SV) (M : MS) : eqT M (.dt (enc a)) t = eqL M (.dt (enc a)) t := by cases a <;> rfl
theorem gEq_enc {a b : Rs} (ha : Ok (enc a)) (hb : Ok (enc b)) (M : MS) : gEq M (.dt (enc a)) (.dt (enc b)) = some (.sv (.dt (.bl (PyData.eqv (encP a) (encP b))))) := by
  unfold gEq
  rw [eqT_enc]
  unfold eqL
  rw [eqS_enc ha hb]
  rfl
theorem gNe_enc {a b : Rs} (ha : Ok (enc a)) (hb : Ok (enc b)) (M : MS) : gNe M (.dt (enc a)) (.dt (enc b)) = some (.sv (.dt (.bl (!PyData.eqv (encP a) (encP b))))) := by
  unfold gNe
  rw [eqT_enc]
  unfold eqL
  rw [eqS_enc ha hb]
  rfl
theorem gIx_map (O : List Rs) (i : Nat) (h : i < O.length) (M : MS) : gIx M (.dt (.lst (O.map enc))) (.dt (.int (i : Int))) = some (.sv (.dt (enc O[i]))) := by
  obtain ⟨d, _, e, hd⟩ := gIx_lst (M := M) (ds := O.map enc) (i := (i : Int)) (by omega) (by simpa using h)
  rw [e]
  simp [h] at hd
  rw [← hd]
theorem gIx_mapT (O : List Rs) (i : Nat) (h : i < O.length) (M : MS) : gIx M (.dt (.tup (O.map enc))) (.dt (.int (i : Int))) = some (.sv (.dt (enc O[i]))) := by
  obtain ⟨d, _, e, hd⟩ := gIx_tup (M := M) (ds := O.map enc) (i := (i : Int)) (by omega) (by simpa using h)
  rw [e]
  simp [h] at hd
  rw [← hd]
def onceM : SM := (sSeq (sSet 1 (eCall (g1 sortedS) (eCons (eVar 0) eNil)))
    (sRet (eComp (eRng1 (eCons (eCall (g1 lenS) (eCons (eVar 1) eNil)) eNil)) (bName 2) (tOrB (eBool (eBin gEq (eVar 2) (eC (.int 0)))) (eBool (eBin gNe (eBin gIx (eVar 1) (eVar 2)) (eBin gIx (eVar 1) (eBin Dy.gSub (eVar 2) (eC (.int 1))))))) (eBin gIx (eVar 1) (eVar 2)) [2])))
theorem onceM_ok {L : List Rs} {s : D} {M : MS} (hs : s = .lst (L.map enc) ∨ s = .tup (L.map enc)) (ok : ∀ r ∈ L, Ok (enc r)) (hl : L.length ≤ 16777216) : runBody onceM 3 [.dt s] M = some (.fr ((once L).map enc), M) := by
  have srt : sortedS M (.dt s) = some (.fr ((sortR L).map enc)) := by
    have e : itemsD M (.dt s) = some (L.map enc) := by
      rcases hs with rfl | rfl
      · exact itemsD_lst _
      · exact itemsD_tup _
    unfold sortedS
    simp only [e, sortOk_enc ok, if_true, sortD_enc]
  have hp := sortR_perm L
  have okO : ∀ r ∈ sortR L, Ok (enc r) := fun r hr => ok r (hp.mem_iff.mp hr)
  have len : (sortR L).length = L.length := hp.length_eq
  rw [runBody_eq]
  unfold onceM once
  generalize sortR L = O at *
  have hm : eRng1 (eCons (eCall (g1 lenS) (eCons (eVar 1) eNil)) eNil) [some (.dt s), some (.dt (.lst (O.map enc))), none] M = some (rngSrc 0 O.length, M) := by
    have q := rng_len (m := eVar 1) (ρ := [some (.dt s), some (.dt (.lst (O.map enc))), none]) (M := M) (r := .sv (.dt (.lst (O.map enc)))) (ds := O.map enc) rfl (.inl rfl) (by rw [List.length_map]; omega)
    rw [List.length_map] at q
    exact q
  have c := comp_pure (ms := eRng1 (eCons (eCall (g1 lenS) (eCons (eVar 1) eNil)) eNil)) (vs := [2]) (ρ := [some (.dt s), some (.dt (.lst (O.map enc))), none]) (M := M) (M0 := M) (b := bName 2)
    (c := tOrB (eBool (eBin gEq (eVar 2) (eC (.int 0)))) (eBool (eBin gNe (eBin gIx (eVar 1) (eVar 2)) (eBin gIx (eVar 1) (eBin Dy.gSub (eVar 2) (eC (.int 1))))))) (el := eBin gIx (eVar 1) (eVar 2))
    (keepP O) (atP O) hm (isSrc_rng 0 O.length) (by rw [sizeLine_eq]; simp; omega) (fun x hx => by
      simp only [List.mem_map, List.mem_range] at hx
      obtain ⟨i, hi, rfl⟩ := hx
      have e1 := gIx_map O i hi M
      refine ⟨_, rfl, ?_, fun _ => ⟨.sv (.dt (enc O[i])), by simp [eVar, wipeE, e1], ?_⟩⟩
      · by_cases z : i = 0
        · subst z
          simp [eVar, wipeE, keepP, Dy.unI]
        · have e2 := gIx_map O (i - 1) (by omega) M
          have e3 : (((i - 1 : Nat)) : Int) = (i : Int) - 1 := by omega
          rw [e3] at e2
          have ne := gNe_enc (okO _ (List.getElem_mem hi)) (okO _ (List.getElem_mem (show i - 1 < O.length by omega))) M
          have zi : ¬ (i : Int) = 0 := by omega
          have k : keepP O (gI i) = !PyData.eqv (encP O[i]) (encP O[i - 1]) := by
            unfold keepP
            rw [ixP_gI, List.getElem?_eq_getElem hi, List.getElem?_eq_getElem (show i - 1 < O.length by omega)]
            simp [gI, Dy.unI, z]
          have k2 : keepP O (.dt (.int (0 + (i : Int)))) = !PyData.eqv (encP O[i]) (encP O[i - 1]) := k
          rw [k2]
          simp [eVar, wipeE, Dy.gSub, int2, z, e1, e2, ne]
      · have k2 : atP O (.dt (.int (0 + (i : Int)))) = enc O[i] := by
          show atP O (gI i) = _
          unfold atP
          rw [ixP_gI, List.getElem?_eq_getElem hi]
        rw [k2]
        rfl)
  have d : (((List.range O.length).map fun i : Nat => SV.dt (D.int (0 + (i : Int)))).filter (keepP O)).map (atP O) = (dd none O).map enc := dd_range O
  rw [d] at c
  have s1 : sSet 1 (eCall (g1 sortedS) (eCons (eVar 0) eNil)) [some (.dt s), none, none] M = some (.nx [some (.dt s), some (.dt (.lst (O.map enc))), none] M) := by simp [eVar, srt]
  rw [show ([SV.dt s].map some ++ List.replicate (3 - [SV.dt s].length) none : Dy.Env) = [some (.dt s), none, none] from rfl, sSeq_nx s1, sRet_ev, c, Option.bind_some, fin_rt, close_fr, List.take_length]
end Rs24

set_option Elab.async false
set_option linter.all false
set_option maxRecDepth 100000
set_option maxHeartbeats 0
namespace K24
open PySem PySem.Spec PyProof.Rows L2 Dy
def top (i : Nat) : Stmt := PySem.Challenge.pw_movedchecks_k24_results.main.body.getD i (.Pass ⟨0, 0, 0, 0⟩)
abbrev s_law : Stmt := top 75
abbrev i_law : Nat := 0
abbrev N_law : List Str := ["_law_script", "_law_bag_here", "_law_turn", "_law_result_here", "_law_k", "_law_some", "_law_every", "_law_deep", "_law_thing", "_law_due", "_law_shown", "_law_again"]
abbrev p_law : List Str := ["_law_script"]
def d_law : He.DefD := ⟨("law", none), "law", "law", defArgs s_law, defBody s_law, defScope s_law, [], []⟩
theorem sc_law : FnScope N_law p_law (defScope s_law) := ⟨rfl, rfl, rfl, by decide +kernel, rfl, by decide +kernel, by decide +kernel⟩
abbrev s__law_bag : Stmt := top 60
abbrev i__law_bag : Nat := 1
abbrev N__law_bag : List Str := ["_law_script", "_law_cell"]
abbrev p__law_bag : List Str := ["_law_script"]
def d__law_bag : He.DefD := ⟨("_law_bag", none), "_law_bag", "_law_bag", defArgs s__law_bag, defBody s__law_bag, defScope s__law_bag, [], []⟩
theorem sc__law_bag : FnScope N__law_bag p__law_bag (defScope s__law_bag) := ⟨rfl, rfl, rfl, by decide +kernel, rfl, by decide +kernel, by decide +kernel⟩
abbrev s__law_result : Stmt := top 67
abbrev i__law_result : Nat := 2
abbrev N__law_result : List Str := ["_law_bag_here", "_law_deep", "_law_kind", "_law_some", "_law_k"]
abbrev p__law_result : List Str := ["_law_bag_here", "_law_deep"]
def d__law_result : He.DefD := ⟨("_law_result", none), "_law_result", "_law_result", defArgs s__law_result, defBody s__law_result, defScope s__law_result, [], []⟩
theorem sc__law_result : FnScope N__law_result p__law_result (defScope s__law_result) := ⟨rfl, rfl, rfl, by decide +kernel, rfl, by decide +kernel, by decide +kernel⟩
abbrev s__law_take : Stmt := top 61
abbrev i__law_take : Nat := 3
abbrev N__law_take : List Str := ["_law_bag_here", "_law_many", "_law_cell", "_law_mixed", "_law_drawn", "_law_early", "_law_second"]
abbrev p__law_take : List Str := ["_law_bag_here", "_law_many"]
def d__law_take : He.DefD := ⟨("_law_take", none), "_law_take", "_law_take", defArgs s__law_take, defBody s__law_take, defScope s__law_take, [], []⟩
theorem sc__law_take : FnScope N__law_take p__law_take (defScope s__law_take) := ⟨rfl, rfl, rfl, by decide +kernel, rfl, by decide +kernel, by decide +kernel⟩
abbrev s__law_right : Stmt := top 74
abbrev i__law_right : Nat := 4
abbrev N__law_right : List Str := ["_law_bag_here", "_law_result_here", "_law_numbers", "_law_channel", "_law_due", "_law_shown", "_law_again", "_law_found"]
abbrev p__law_right : List Str := ["_law_bag_here", "_law_result_here"]
def d__law_right : He.DefD := ⟨("_law_right", none), "_law_right", "_law_right", defArgs s__law_right, defBody s__law_right, defScope s__law_right, [], []⟩
theorem sc__law_right : FnScope N__law_right p__law_right (defScope s__law_right) := ⟨rfl, rfl, rfl, by decide +kernel, rfl, by decide +kernel, by decide +kernel⟩
abbrev s__law_pick : Stmt := top 63
abbrev i__law_pick : Nat := 5
abbrev N__law_pick : List Str := ["_law_bag_here", "_law_some"]
abbrev p__law_pick : List Str := ["_law_bag_here", "_law_some"]
def d__law_pick : He.DefD := ⟨("_law_pick", none), "_law_pick", "_law_pick", defArgs s__law_pick, defBody s__law_pick, defScope s__law_pick, [], []⟩
theorem sc__law_pick : FnScope N__law_pick p__law_pick (defScope s__law_pick) := ⟨rfl, rfl, rfl, by decide +kernel, rfl, by decide +kernel, by decide +kernel⟩
abbrev s__law_bent : Stmt := top 71
abbrev i__law_bent : Nat := 6
abbrev N__law_bent : List Str := ["_law_bag_here", "_law_thing", "_law_odd_here", "_law_found", "_law_at", "_law_style"]
abbrev p__law_bent : List Str := ["_law_bag_here", "_law_thing"]
def d__law_bent : He.DefD := ⟨("_law_bent", none), "_law_bent", "_law_bent", defArgs s__law_bent, defBody s__law_bent, defScope s__law_bent, [], []⟩
theorem sc__law_bent : FnScope N__law_bent p__law_bent (defScope s__law_bent) := ⟨rfl, rfl, rfl, by decide +kernel, rfl, by decide +kernel, by decide +kernel⟩
abbrev s_Program___init__ : Stmt := meth (top 58) 0
abbrev i_Program___init__ : Nat := 7
abbrev N_Program___init__ : List Str := ["self", "inputs", "rows", "row"]
abbrev p_Program___init__ : List Str := ["self", "inputs", "rows"]
def d_Program___init__ : He.DefD := ⟨("Program", some "__init__"), "__init__", "Program.__init__", defArgs s_Program___init__, defBody s_Program___init__, defScope s_Program___init__, [], []⟩
theorem sc_Program___init__ : FnScope N_Program___init__ p_Program___init__ (defScope s_Program___init__) := ⟨rfl, rfl, rfl, by decide +kernel, rfl, by decide +kernel, by decide +kernel⟩
abbrev s__law_are_bad : Stmt := top 70
abbrev i__law_are_bad : Nat := 8
abbrev N__law_are_bad : List Str := ["_law_thing", "_law_one", "_law_k"]
abbrev p__law_are_bad : List Str := ["_law_thing"]
def d__law_are_bad : He.DefD := ⟨("_law_are_bad", none), "_law_are_bad", "_law_are_bad", defArgs s__law_are_bad, defBody s__law_are_bad, defScope s__law_are_bad, [], []⟩
theorem sc__law_are_bad : FnScope N__law_are_bad p__law_are_bad (defScope s__law_are_bad) := ⟨rfl, rfl, rfl, by decide +kernel, rfl, by decide +kernel, by decide +kernel⟩
abbrev s__law_is_result : Stmt := top 69
abbrev i__law_is_result : Nat := 9
abbrev N__law_is_result : List Str := ["_law_thing", "_law_part"]
abbrev p__law_is_result : List Str := ["_law_thing"]
def d__law_is_result : He.DefD := ⟨("_law_is_result", none), "_law_is_result", "_law_is_result", defArgs s__law_is_result, defBody s__law_is_result, defScope s__law_is_result, [], []⟩
theorem sc__law_is_result : FnScope N__law_is_result p__law_is_result (defScope s__law_is_result) := ⟨rfl, rfl, rfl, by decide +kernel, rfl, by decide +kernel, by decide +kernel⟩
abbrev s_are_bad : Stmt := top 12
abbrev i_are_bad : Nat := 10
abbrev N_are_bad : List Str := ["thing", "one"]
abbrev p_are_bad : List Str := ["thing"]
def d_are_bad : He.DefD := ⟨("are_bad", none), "are_bad", "are_bad", defArgs s_are_bad, defBody s_are_bad, defScope s_are_bad, [], []⟩
theorem sc_are_bad : FnScope N_are_bad p_are_bad (defScope s_are_bad) := ⟨rfl, rfl, rfl, by decide +kernel, rfl, by decide +kernel, by decide +kernel⟩
abbrev s_is_result : Stmt := top 10
abbrev i_is_result : Nat := 11
abbrev N_is_result : List Str := ["thing", "part"]
abbrev p_is_result : List Str := ["thing"]
def d_is_result : He.DefD := ⟨("is_result", none), "is_result", "is_result", defArgs s_is_result, defBody s_is_result, defScope s_is_result, [], []⟩
theorem sc_is_result : FnScope N_is_result p_is_result (defScope s_is_result) := ⟨rfl, rfl, rfl, by decide +kernel, rfl, by decide +kernel, by decide +kernel⟩
abbrev s__law_alike : Stmt := top 62
abbrev i__law_alike : Nat := 12
abbrev N__law_alike : List Str := ["_law_found", "_law_due"]
abbrev p__law_alike : List Str := ["_law_found", "_law_due"]
def d__law_alike : He.DefD := ⟨("_law_alike", none), "_law_alike", "_law_alike", defArgs s__law_alike, defBody s__law_alike, defScope s__law_alike, [], []⟩
theorem sc__law_alike : FnScope N__law_alike p__law_alike (defScope s__law_alike) := ⟨rfl, rfl, rfl, by decide +kernel, rfl, by decide +kernel, by decide +kernel⟩
abbrev s__law_later : Stmt := top 73
abbrev i__law_later : Nat := 13
abbrev N__law_later : List Str := ["_law_result_here", "_law_numbers", "_law_part"]
abbrev p__law_later : List Str := ["_law_result_here", "_law_numbers"]
def d__law_later : He.DefD := ⟨("_law_later", none), "_law_later", "_law_later", defArgs s__law_later, defBody s__law_later, defScope s__law_later, [], []⟩
theorem sc__law_later : FnScope N__law_later p__law_later (defScope s__law_later) := ⟨rfl, rfl, rfl, by decide +kernel, rfl, by decide +kernel, by decide +kernel⟩
abbrev s__law_in : Stmt := top 72
abbrev i__law_in : Nat := 14
abbrev N__law_in : List Str := ["_law_result_here", "_law_found", "_law_part"]
abbrev p__law_in : List Str := ["_law_result_here"]
def d__law_in : He.DefD := ⟨("_law_in", none), "_law_in", "_law_in", defArgs s__law_in, defBody s__law_in, defScope s__law_in, [], []⟩
theorem sc__law_in : FnScope N__law_in p__law_in (defScope s__law_in) := ⟨rfl, rfl, rfl, by decide +kernel, rfl, by decide +kernel, by decide +kernel⟩
abbrev s_later : Stmt := top 16
abbrev i_later : Nat := 15
abbrev N_later : List Str := ["result", "numbers", "part"]
abbrev p_later : List Str := ["result", "numbers"]
def d_later : He.DefD := ⟨("later", none), "later", "later", defArgs s_later, defBody s_later, defScope s_later, [], []⟩
theorem sc_later : FnScope N_later p_later (defScope s_later) := ⟨rfl, rfl, rfl, by decide +kernel, rfl, by decide +kernel, by decide +kernel⟩
abbrev s_within : Stmt := top 15
abbrev i_within : Nat := 16
abbrev N_within : List Str := ["result"]
abbrev p_within : List Str := ["result"]
def d_within : He.DefD := ⟨("within", none), "within", "within", defArgs s_within, defBody s_within, defScope s_within, [], []⟩
theorem sc_within : FnScope N_within p_within (defScope s_within) := ⟨rfl, rfl, rfl, by decide +kernel, rfl, by decide +kernel, by decide +kernel⟩
abbrev s_word_of : Stmt := top 13
abbrev i_word_of : Nat := 17
abbrev N_word_of : List Str := ["result"]
abbrev p_word_of : List Str := ["result"]
def d_word_of : He.DefD := ⟨("word_of", none), "word_of", "word_of", defArgs s_word_of, defBody s_word_of, defScope s_word_of, [], []⟩
theorem sc_word_of : FnScope N_word_of p_word_of (defScope s_word_of) := ⟨rfl, rfl, rfl, by decide +kernel, rfl, by decide +kernel, by decide +kernel⟩
abbrev s__law_odd : Stmt := top 64
abbrev i__law_odd : Nat := 18
abbrev N__law_odd : List Str := ["_law_bag_here", "_law_name", "_law_odd_here"]
abbrev p__law_odd : List Str := ["_law_bag_here", "_law_name"]
def d__law_odd : He.DefD := ⟨("_law_odd", none), "_law_odd", "_law_odd", defArgs s__law_odd, defBody s__law_odd, defScope s__law_odd, [], []⟩
theorem sc__law_odd : FnScope N__law_odd p__law_odd (defScope s__law_odd) := ⟨rfl, rfl, rfl, by decide +kernel, rfl, by decide +kernel, by decide +kernel⟩
abbrev s_are_inputs : Stmt := top 57
abbrev i_are_inputs : Nat := 19
abbrev N_are_inputs : List Str := ["thing"]
abbrev p_are_inputs : List Str := ["thing"]
def d_are_inputs : He.DefD := ⟨("are_inputs", none), "are_inputs", "are_inputs", defArgs s_are_inputs, defBody s_are_inputs, defScope s_are_inputs, [], []⟩
theorem sc_are_inputs : FnScope N_are_inputs p_are_inputs (defScope s_are_inputs) := ⟨rfl, rfl, rfl, by decide +kernel, rfl, by decide +kernel, by decide +kernel⟩
abbrev s_are_rows : Stmt := top 36
abbrev i_are_rows : Nat := 20
abbrev N_are_rows : List Str := ["thing", "row"]
abbrev p_are_rows : List Str := ["thing"]
def d_are_rows : He.DefD := ⟨("are_rows", none), "are_rows", "are_rows", defArgs s_are_rows, defBody s_are_rows, defScope s_are_rows, [], []⟩
theorem sc_are_rows : FnScope N_are_rows p_are_rows (defScope s_are_rows) := ⟨rfl, rfl, rfl, by decide +kernel, rfl, by decide +kernel, by decide +kernel⟩
abbrev s_count : Stmt := top 42
abbrev i_count : Nat := 21
abbrev N_count : List Str := ["rows", "row", "some"]
abbrev p_count : List Str := ["rows"]
def d_count : He.DefD := ⟨("count", none), "count", "count", defArgs s_count, defBody s_count, defScope s_count, [], []⟩
theorem sc_count : FnScope N_count p_count (defScope s_count) := ⟨rfl, rfl, rfl, by decide +kernel, rfl, by decide +kernel, by decide +kernel⟩
abbrev s_depth : Stmt := top 43
abbrev i_depth : Nat := 22
abbrev N_depth : List Str := ["rows", "row", "some"]
abbrev p_depth : List Str := ["rows"]
def d_depth : He.DefD := ⟨("depth", none), "depth", "depth", defArgs s_depth, defBody s_depth, defScope s_depth, [], []⟩
theorem sc_depth : FnScope N_depth p_depth (defScope s_depth) := ⟨rfl, rfl, rfl, by decide +kernel, rfl, by decide +kernel, by decide +kernel⟩
abbrev s_walked : Stmt := top 51
abbrev i_walked : Nat := 23
abbrev N_walked : List Str := ["rows", "begin", "found", "at", "row", "number", "some"]
abbrev p_walked : List Str := ["rows", "begin"]
def d_walked : He.DefD := ⟨("walked", none), "walked", "walked", defArgs s_walked, defBody s_walked, defScope s_walked, [], []⟩
theorem sc_walked : FnScope N_walked p_walked (defScope s_walked) := ⟨rfl, rfl, rfl, by decide +kernel, rfl, by decide +kernel, by decide +kernel⟩
abbrev s_Program_need_leaves : Stmt := meth (top 58) 1
abbrev i_Program_need_leaves : Nat := 24
abbrev N_Program_need_leaves : List Str := ["self", "address", "row"]
abbrev p_Program_need_leaves : List Str := ["self"]
def d_Program_need_leaves : He.DefD := ⟨("Program", some "need_leaves"), "need_leaves", "Program.need_leaves", defArgs s_Program_need_leaves, defBody s_Program_need_leaves, defScope s_Program_need_leaves, [], []⟩
theorem sc_Program_need_leaves : FnScope N_Program_need_leaves p_Program_need_leaves (defScope s_Program_need_leaves) := ⟨rfl, rfl, rfl, by decide +kernel, rfl, by decide +kernel, by decide +kernel⟩
abbrev s_Program_need_names : Stmt := meth (top 58) 2
abbrev i_Program_need_names : Nat := 25
abbrev N_Program_need_names : List Str := ["self", "doubled", "address", "row", "name"]
abbrev p_Program_need_names : List Str := ["self"]
def d_Program_need_names : He.DefD := ⟨("Program", some "need_names"), "need_names", "Program.need_names", defArgs s_Program_need_names, defBody s_Program_need_names, defScope s_Program_need_names, [], []⟩
theorem sc_Program_need_names : FnScope N_Program_need_names p_Program_need_names (defScope s_Program_need_names) := ⟨rfl, rfl, rfl, by decide +kernel, rfl, by decide +kernel, by decide +kernel⟩
abbrev s_Program_need_sight : Stmt := meth (top 58) 3
abbrev i_Program_need_sight : Nat := 26
abbrev N_Program_need_sight : List Str := ["self", "address", "row", "ends", "at", "name", "gap", "number", "some"]
abbrev p_Program_need_sight : List Str := ["self"]
def d_Program_need_sight : He.DefD := ⟨("Program", some "need_sight"), "need_sight", "Program.need_sight", defArgs s_Program_need_sight, defBody s_Program_need_sight, defScope s_Program_need_sight, [], []⟩
theorem sc_Program_need_sight : FnScope N_Program_need_sight p_Program_need_sight (defScope s_Program_need_sight) := ⟨rfl, rfl, rfl, by decide +kernel, rfl, by decide +kernel, by decide +kernel⟩
abbrev s_Program_need_trees : Stmt := meth (top 58) 4
abbrev i_Program_need_trees : Nat := 27
abbrev N_Program_need_trees : List Str := ["self", "fans", "name"]
abbrev p_Program_need_trees : List Str := ["self"]
def d_Program_need_trees : He.DefD := ⟨("Program", some "need_trees"), "need_trees", "Program.need_trees", defArgs s_Program_need_trees, defBody s_Program_need_trees, defScope s_Program_need_trees, [], []⟩
theorem sc_Program_need_trees : FnScope N_Program_need_trees p_Program_need_trees (defScope s_Program_need_trees) := ⟨rfl, rfl, rfl, by decide +kernel, rfl, by decide +kernel, by decide +kernel⟩
abbrev s__law_is_name : Stmt := top 66
abbrev i__law_is_name : Nat := 28
abbrev N__law_is_name : List Str := ["_law_thing", "_law_letter"]
abbrev p__law_is_name : List Str := ["_law_thing"]
def d__law_is_name : He.DefD := ⟨("_law_is_name", none), "_law_is_name", "_law_is_name", defArgs s__law_is_name, defBody s__law_is_name, defScope s__law_is_name, [], []⟩
theorem sc__law_is_name : FnScope N__law_is_name p__law_is_name (defScope s__law_is_name) := ⟨rfl, rfl, rfl, by decide +kernel, rfl, by decide +kernel, by decide +kernel⟩
abbrev s__law_is_integer : Stmt := top 65
abbrev i__law_is_integer : Nat := 29
abbrev N__law_is_integer : List Str := ["_law_thing"]
abbrev p__law_is_integer : List Str := ["_law_thing"]
def d__law_is_integer : He.DefD := ⟨("_law_is_integer", none), "_law_is_integer", "_law_is_integer", defArgs s__law_is_integer, defBody s__law_is_integer, defScope s__law_is_integer, [], []⟩
theorem sc__law_is_integer : FnScope N__law_is_integer p__law_is_integer (defScope s__law_is_integer) := ⟨rfl, rfl, rfl, by decide +kernel, rfl, by decide +kernel, by decide +kernel⟩
abbrev s_each_once : Stmt := top 11
abbrev i_each_once : Nat := 30
abbrev N_each_once : List Str := ["results", "ordered", "at"]
abbrev p_each_once : List Str := ["results"]
def d_each_once : He.DefD := ⟨("each_once", none), "each_once", "each_once", defArgs s_each_once, defBody s_each_once, defScope s_each_once, [], []⟩
theorem sc_each_once : FnScope N_each_once p_each_once (defScope s_each_once) := ⟨rfl, rfl, rfl, by decide +kernel, rfl, by decide +kernel, by decide +kernel⟩
abbrev s_is_name : Stmt := top 5
abbrev i_is_name : Nat := 31
abbrev N_is_name : List Str := ["thing", "letter"]
abbrev p_is_name : List Str := ["thing"]
def d_is_name : He.DefD := ⟨("is_name", none), "is_name", "is_name", defArgs s_is_name, defBody s_is_name, defScope s_is_name, [], []⟩
theorem sc_is_name : FnScope N_is_name p_is_name (defScope s_is_name) := ⟨rfl, rfl, rfl, by decide +kernel, rfl, by decide +kernel, by decide +kernel⟩
abbrev s_is_integer : Stmt := top 4
abbrev i_is_integer : Nat := 32
abbrev N_is_integer : List Str := ["thing"]
abbrev p_is_integer : List Str := ["thing"]
def d_is_integer : He.DefD := ⟨("is_integer", none), "is_integer", "is_integer", defArgs s_is_integer, defBody s_is_integer, defScope s_is_integer, [], []⟩
theorem sc_is_integer : FnScope N_is_integer p_is_integer (defScope s_is_integer) := ⟨rfl, rfl, rfl, by decide +kernel, rfl, by decide +kernel, by decide +kernel⟩
abbrev s__law_different : Stmt := top 68
abbrev i__law_different : Nat := 33
abbrev N__law_different : List Str := ["_law_some", "_law_ordered", "_law_k"]
abbrev p__law_different : List Str := ["_law_some"]
def d__law_different : He.DefD := ⟨("_law_different", none), "_law_different", "_law_different", defArgs s__law_different, defBody s__law_different, defScope s__law_different, [], []⟩
theorem sc__law_different : FnScope N__law_different p__law_different (defScope s__law_different) := ⟨rfl, rfl, rfl, by decide +kernel, rfl, by decide +kernel, by decide +kernel⟩
abbrev s_all_within : Stmt := top 14
abbrev i_all_within : Nat := 34
abbrev N_all_within : List Str := ["result", "found", "part"]
abbrev p_all_within : List Str := ["result"]
def d_all_within : He.DefD := ⟨("all_within", none), "all_within", "all_within", defArgs s_all_within, defBody s_all_within, defScope s_all_within, [], []⟩
theorem sc_all_within : FnScope N_all_within p_all_within (defScope s_all_within) := ⟨rfl, rfl, rfl, by decide +kernel, rfl, by decide +kernel, by decide +kernel⟩
abbrev s_are_names : Stmt := top 7
abbrev i_are_names : Nat := 35
abbrev N_are_names : List Str := ["thing", "most", "name"]
abbrev p_are_names : List Str := ["thing", "most"]
def d_are_names : He.DefD := ⟨("are_names", none), "are_names", "are_names", defArgs s_are_names, defBody s_are_names, defScope s_are_names, [], []⟩
theorem sc_are_names : FnScope N_are_names p_are_names (defScope s_are_names) := ⟨rfl, rfl, rfl, by decide +kernel, rfl, by decide +kernel, by decide +kernel⟩
abbrev s_Fans___init__ : Stmt := meth (top 56) 0
abbrev i_Fans___init__ : Nat := 36
abbrev N_Fans___init__ : List Str := ["self", "inputs", "rows", "name"]
abbrev p_Fans___init__ : List Str := ["self", "inputs", "rows"]
def d_Fans___init__ : He.DefD := ⟨("Fans", some "__init__"), "__init__", "Fans.__init__", defArgs s_Fans___init__, defBody s_Fans___init__, defScope s_Fans___init__, [], []⟩
theorem sc_Fans___init__ : FnScope N_Fans___init__ p_Fans___init__ (defScope s_Fans___init__) := ⟨rfl, rfl, rfl, by decide +kernel, rfl, by decide +kernel, by decide +kernel⟩
abbrev s_Program_names : Stmt := meth (top 58) 13
abbrev i_Program_names : Nat := 37
abbrev N_Program_names : List Str := ["self"]
abbrev p_Program_names : List Str := ["self"]
def d_Program_names : He.DefD := ⟨("Program", some "names"), "names", "Program.names", defArgs s_Program_names, defBody s_Program_names, defScope s_Program_names, [], []⟩
theorem sc_Program_names : FnScope N_Program_names p_Program_names (defScope s_Program_names) := ⟨rfl, rfl, rfl, by decide +kernel, rfl, by decide +kernel, by decide +kernel⟩
abbrev s_Fans_add : Stmt := meth (top 56) 5
abbrev i_Fans_add : Nat := 38
abbrev N_Fans_add : List Str := ["self", "rows", "row", "some", "name", "one", "other", "arg"]
abbrev p_Fans_add : List Str := ["self", "rows"]
def d_Fans_add : He.DefD := ⟨("Fans", some "add"), "add", "Fans.add", defArgs s_Fans_add, defBody s_Fans_add, defScope s_Fans_add, [], []⟩
theorem sc_Fans_add : FnScope N_Fans_add p_Fans_add (defScope s_Fans_add) := ⟨rfl, rfl, rfl, by decide +kernel, rfl, by decide +kernel, by decide +kernel⟩
/-! ### mirrors -/
def m_law (T : Nat → Fn) (a_Fans a_Program : Addr) : SM := (sSeq (sNew 1 (eFn (T i__law_bag) (eCons (eVar 0) eNil)))
    (sSeq (sFor (eRng1 (eCons (eC (.int 12)) eNil)) (bName 2) (sSeq (sSet 3 (eFn (T i__law_result) (eCons (eVar 1) (eCons (eC (.int 4)) eNil))))
    (sSeq (sSet 5 (eComp (eRng1 (eCons (eFn (T i__law_take) (eCons (eVar 1) (eCons (eC (.int 4)) eNil))) eNil)) (bName 4) cYes (eFn (T i__law_result) (eCons (eVar 1) (eCons (eC (.int 2)) eNil))) [4]))
    (sSeq (sIf (tNotB (eTru (eFn (T i__law_right) (eCons (eVar 1) (eCons (eVar 3) eNil))))) (sRet (eC (.bl false))) sNext)
    (sSeq (sBind (bTup 2 (bsCons (bName 6) (bsCons (bName 7) bsNil))) (eTup (eCons (eLst (eCons (eVar 3) (eCons (eVar 5) (eCons (eCall (g1 tupleS) (eCons (eVar 5) eNil)) (eCons (eBin gAdd (eVar 5) (eSlice (eVar 5) eNoPart (ePart (eC (.int 1))))) (eCons (eLst (eCons (eVar 3) (eCons (eVar 3) eNil))) eNil)))))) (eCons (eTup (eCons (eC (.str "in")) (eCons (eC (.str "a")) eNil))) eNil))))
    (sSeq (sFor (eRng1 (eCons (eC (.int 17)) eNil)) (bName 4) (sSet 7 (eTup (eCons (eC (.str "made")) (eCons (eC (.str "f")) (eCons (eTup (eCons (eVar 7) eNil)) eNil))))))
    (sSeq (sSet 6 (eBin gAdd (eVar 6) (eComp (eRng1 (eCons (eC (.int 4)) eNil)) (bName 4) cYes (eFn (T i__law_bent) (eCons (eVar 1) (eCons (eFn (T i__law_pick) (eCons (eVar 1) (eCons (eVar 6) eNil))) eNil))) [4])))
    (sFor (eSeq (eBin gAdd (eVar 6) (eLst (eCons (eVar 7) (eCons (eLst (eCons (eVar 7) eNil)) (eCons (eTup (eCons (eC (.str "made")) (eCons (eC (.str "g")) (eCons (eBin gMul (eTup (eCons (eVar 3) eNil)) (eC (.int 4))) eNil)))) (eCons (eMake a_Program (T i_Program___init__) (eCons (eLst eNil) (eCons (eLst eNil) eNil))) eNil))))))) (bName 8) (sSeq (sPar 9 10 (eCons (eLst (eCons (eFn (T i__law_is_result) (eCons (eVar 8) eNil)) (eCons (eFn (T i__law_are_bad) (eCons (eVar 8) eNil)) eNil))) (eCons (eC (.str "")) eNil)))
    (sSeq (sIf (tNotB (eTru (eIsiC a_Program (eVar 8)))) (sSet 10 (eCall (g1 reprS) (eCons (eVar 8) eNil))) sNext)
    (sSeq (sFor (eRng1 (eCons (eC (.int 2)) eNil)) (bName 11) (sIf (tNotB (eTru (eFn (T i__law_alike) (eCons (eLst (eCons (eFn (T i_is_result) (eCons (eVar 8) eNil)) (eCons (eFn (T i_are_bad) (eCons (eVar 8) eNil)) eNil))) (eCons (eVar 9) eNil))))) (sRet (eC (.bl false))) sNext))
    (sIf (tAndB (eBool (eBin gNe (eVar 10) (eC (.str "")))) (eBool (eBin gNe (eCall (g1 reprS) (eCons (eVar 8) eNil)) (eVar 10)))) (sRet (eC (.bl false))) sNext))))))))))))
    (sRet (eAnd (eBin gIs (eFn (T i_is_result) (eCons (eBin gMul (eLst (eCons (eC .non) eNil)) (eC (.int 19000))) eNil)) (eC (.bl false))) (eBin gIs (eFn (T i_are_bad) (eCons (eBin gMul (eLst (eCons (eC .non) eNil)) (eC (.int 19000))) eNil)) (eC (.bl false)))))))
def m__law_bag (T : Nat → Fn) (a_Fans a_Program : Addr) : SM := (sRet (eLst (eCons (eC (.int 0)) (eCons (eC (.int 1234567891)) (eCons (eC (.int 0)) (eCons (eComp (eSeq (eSlice (eVar 0) eNoPart (ePart (eC (.int 63))))) (bName 1) cYes (eCall (g1 absS) (eCons (eVar 1) eNil)) [1]) eNil))))))
def m__law_result (T : Nat → Fn) (a_Fans a_Program : Addr) : SM := (sSeq (sSet 2 (eIf (eBool (eBin gGt (eVar 1) (eC (.int 0)))) (eFn (T i__law_take) (eCons (eVar 0) (eCons (eC (.int 4)) eNil))) (eFn (T i__law_take) (eCons (eVar 0) (eCons (eC (.int 2)) eNil)))))
    (sSeq (sIf (eBool (eBin gEq (eVar 2) (eC (.int 0)))) (sRet (eTup (eCons (eC (.str "in")) (eCons (eBin gIx (eLst (eCons (eC (.str "a")) (eCons (eC (.str "b")) (eCons (eC (.str "in")) (eCons (eC (.str "made")) eNil))))) (eFn (T i__law_take) (eCons (eVar 0) (eCons (eC (.int 4)) eNil)))) eNil)))) sNext)
    (sSeq (sIf (eBool (eBin gEq (eVar 2) (eC (.int 1)))) (sRet (eTup (eCons (eC (.str "seen")) (eCons (eBin gIx (eLst (eCons (eC (.str "c")) (eCons (eC (.str "d")) (eCons (eC (.str "seen")) eNil)))) (eFn (T i__law_take) (eCons (eVar 0) (eCons (eC (.int 3)) eNil)))) (eCons (eBin gIx (eLst (eCons (eC (.int 0)) (eCons (eC (.int 1)) (eCons (eC (.int 2)) (eCons (eBin gPow (eC (.int 10)) (eC (.int 39))) eNil))))) (eFn (T i__law_take) (eCons (eVar 0) (eCons (eC (.int 4)) eNil)))) eNil))))) sNext)
    (sSeq (sSet 3 (eCall (g1 tupleS) (eCons (eComp (eRng1 (eCons (eFn (T i__law_take) (eCons (eVar 0) (eCons (eC (.int 4)) eNil))) eNil)) (bName 4) cYes (eFn (T i__law_result) (eCons (eVar 0) (eCons (eBin Dy.gSub (eVar 1) (eC (.int 1))) eNil))) [4]) eNil)))
    (sRet (eTup (eCons (eC (.str "made")) (eCons (eBin gIx (eLst (eCons (eC (.str "f")) (eCons (eC (.str "g")) (eCons (eC (.str "made")) eNil)))) (eFn (T i__law_take) (eCons (eVar 0) (eCons (eC (.int 3)) eNil)))) (eCons (eVar 3) eNil)))))))))
def m__law_take (T : Nat → Fn) (a_Fans a_Program : Addr) : SM := (sSeq (sIf (eBool (eBin gEq (eBin gIx (eVar 0) (eC (.int 0))) (eC (.int 0)))) (sSeq (sSet 2 (eBin gIx (eBin gAdd (eSlice (eBin gIx (eVar 0) (eC (.int 3))) (ePart (eBin gIx (eVar 0) (eC (.int 2)))) eNoPart) (eLst (eCons (eC (.int 0)) eNil))) (eC (.int 0))))
    (sSeq (sAugPut (fun i j => i + j) (eVar 0) (eC (.int 2)) (eC (.int 1)))
    (sSeq (sPut (eVar 0) (eC (.int 0)) (eBin gMul (eVar 2) (eCall (g1 intS) (eCons (eBin gGe (eVar 2) (eBin gPow (eC (.int 10)) (eC (.int 18)))) eNil))))
    (sSeq (sSet 3 (eBin gAdd (eBin gAdd (eBin gMul (eBin gIx (eVar 0) (eC (.int 1))) (eC (.int 48271))) (eBin gMod (eCall (g1 intS) (eCons (eVar 2) eNil)) (eC (.int 2147483647)))) (eBin gMul (eC (.int 7919)) (eBin gIx (eVar 0) (eC (.int 2))))))
    (sPut (eVar 0) (eC (.int 1)) (eBin gMod (eCall (g1 intS) (eCons (eVar 3) eNil)) (eC (.int 2147483647)))))))) sNext)
    (sSeq (sIf (eBool (eBin gGt (eBin gIx (eVar 0) (eC (.int 0))) (eC (.int 0)))) (sSeq (sNamePut 4 (eVar 0) (eC (.int 0)) (eTup (eCons (eBin gMod (eCall (g1 intS) (eCons (eBin gIx (eVar 0) (eC (.int 0))) eNil)) (eVar 1)) (eCons (eBin gFdiv (eCall (g1 intS) (eCons (eBin gIx (eVar 0) (eC (.int 0))) eNil)) (eVar 1)) eNil))))
    (sRet (eVar 4))) sNext)
    (sSeq (sSet 5 (eBin gMod (eCall (g1 intS) (eCons (eBin gMul (eBin gAdd (eBin gIx (eVar 0) (eC (.int 1))) (eC (.int 1))) (eC (.int 39373))) eNil)) (eC (.int 1000000007))))
    (sSeq (sSet 6 (eBin gMod (eCall (g1 intS) (eCons (eBin gMul (eBin gMod (eCall (g1 intS) (eCons (eBin gMul (eVar 5) (eVar 5)) eNil)) (eC (.int 998244353))) (eC (.int 30011))) eNil)) (eC (.int 998244353))))
    (sRet (eBin gMod (eCall (g1 intS) (eCons (eBin gFdiv (eVar 6) (eC (.int 7))) eNil)) (eVar 1)))))))
def m__law_right (T : Nat → Fn) (a_Fans a_Program : Addr) : SM := (sSeq (sNew 2 eDict0)
    (sSeq (sFor (eSeq (eTup (eCons (eC (.str "c")) (eCons (eC (.str "d")) eNil)))) (bName 3) (sIf (eBool (eBin gGt (eFn (T i__law_take) (eCons (eVar 0) (eCons (eC (.int 3)) eNil))) (eC (.int 0)))) (sPutD (eVar 2) (eVar 3) (eBin gIx (eLst (eCons (eC (.int 0)) (eCons (eC (.int 1)) (eCons (eC (.int 5)) (eCons (eBin gPow (eC (.int 10)) (eC (.int 39))) eNil))))) (eFn (T i__law_take) (eCons (eVar 0) (eCons (eC (.int 4)) eNil))))) sNext))
    (sSeq (sSet 4 (eLst (eCons (eIf (eBool (eBin gEq (eBin gIx (eVar 1) (eC (.int 0))) (eC (.str "made")))) (eBin gIx (eVar 1) (eC (.int 1))) (eC .non)) (eCons (eFn (T i__law_in) (eCons (eVar 1) eNil)) (eCons (eFn (T i__law_later) (eCons (eVar 1) (eCons (eVar 2) eNil))) eNil)))))
    (sSeq (sSet 5 (eCall (g1 reprS) (eCons (eVar 2) eNil)))
    (sSeq (sFor (eRng1 (eCons (eC (.int 2)) eNil)) (bName 6) (sSeq (sNewL 7 (rConsD (eFn (T i_word_of) (eCons (eVar 1) eNil)) (rConsN (eFn (T i_within) (eCons (eVar 1) eNil)) (rConsD (eFn (T i_later) (eCons (eVar 1) (eCons (eVar 2) eNil))) rNil))))
    (sSeq (sIf (tNotB (eTru (eFn (T i__law_alike) (eCons (eVar 7) (eCons (eVar 4) eNil))))) (sRet (eC (.bl false))) sNext)
    (sExpr (eMt "list" gAppend (eBin gIx (eVar 7) (eC (.int 1))) (eCons (eC .non) eNil))))))
    (sRet (eBin gEq (eCall (g1 reprS) (eCons (eVar 2) eNil)) (eVar 5))))))))
def m__law_pick (T : Nat → Fn) (a_Fans a_Program : Addr) : SM := (sRet (eBin gIx (eVar 1) (eFn (T i__law_take) (eCons (eVar 0) (eCons (eCall (g1 lenS) (eCons (eVar 1) eNil)) eNil)))))
def m__law_bent (T : Nat → Fn) (a_Fans a_Program : Addr) : SM := (sSeq (sIf (tOrB (tNotB (eTru (eIsi2 "list" "tuple" (eVar 1)))) (tOrB (eBool (eBin gEq (eCall (g1 lenS) (eCons (eVar 1) eNil)) (eC (.int 0)))) (eBool (eBin gEq (eFn (T i__law_take) (eCons (eVar 0) (eCons (eC (.int 4)) eNil))) (eC (.int 0)))))) (sSeq (sSet 2 (eLst (eCons (eFn (T i__law_odd) (eCons (eVar 0) (eCons (eC (.str "ab")) eNil))) (eCons (eC (.str "seen")) (eCons (eC (.str "in")) (eCons (eC (.str "made")) (eCons (eTup (eCons (eC (.str "in")) (eCons (eC (.str "a")) eNil))) (eCons (eNeg (eC (.int 1))) (eCons (eTup (eCons (eC (.str "made")) (eCons (eC (.str "f")) (eCons (eLst eNil) eNil)))) eNil)))))))))
    (sRet (eBin gIx (eVar 2) (eFn (T i__law_take) (eCons (eVar 0) (eCons (eC (.int 7)) eNil)))))) sNext)
    (sSeq (sPar3N 3 4 5 (rConsN (eCall (g1 listS) (eCons (eVar 1) eNil)) (rConsD (eFn (T i__law_take) (eCons (eVar 0) (eCons (eCall (g1 lenS) (eCons (eVar 1) eNil)) eNil))) (rConsD (eFn (T i__law_take) (eCons (eVar 0) (eCons (eC (.int 7)) eNil))) rNil))))
    (sSeq (sIf (eBool (eBin gEq (eVar 5) (eC (.int 0)))) (sExpr (eMt "list" gInsert (eVar 3) (eCons (eVar 4) (eCons (eFn (T i__law_odd) (eCons (eVar 0) (eCons (eC (.str "ab")) eNil))) eNil)))) (sIf (eBool (eBin gEq (eVar 5) (eC (.int 1)))) (sExpr (eMt "list" gPopAt (eVar 3) (eCons (eVar 4) eNil))) (sIf (eBool (eBin gEq (eVar 5) (eC (.int 2)))) (sRet (eIf (eTru (eIsi "tuple" (eVar 1))) (eVar 3) (eCall (g1 tupleS) (eCons (eVar 3) eNil)))) (sPut (eVar 3) (eVar 4) (eFn (T i__law_bent) (eCons (eVar 0) (eCons (eBin gIx (eVar 3) (eVar 4)) eNil)))))))
    (sRet (eIf (eTru (eIsi "tuple" (eVar 1))) (eCall (g1 tupleS) (eCons (eVar 3) eNil)) (eVar 3))))))
def m_Program___init__ (T : Nat → Fn) (a_Fans a_Program : Addr) : SM := (sSeq (sIf (tNotB (eTru (eFn (T i_are_inputs) (eCons (eVar 1) eNil)))) sNo sNext)
    (sSeq (sIf (tNotB (eTru (eFn (T i_are_rows) (eCons (eVar 2) eNil)))) sNo sNext)
    (sSeq (sIf (eBool (eBin gGt (eFn (T i_count) (eCons (eVar 2) eNil)) (eC (.int 24)))) sNo sNext)
    (sSeq (sIf (eBool (eBin gGt (eFn (T i_depth) (eCons (eVar 2) eNil)) (eC (.int 4)))) sNo sNext)
    (sSeq (sFldPut a_Program "kept_inputs" (eVar 0) (eCall (g1 tupleS) (eCons (eCall (g1 sorted0S) (eCons (eVar 1) eNil)) eNil)))
    (sSeq (sFldPut a_Program "kept_rows" (eVar 0) (eCall (g1 tupleS) (eCons (eComp (eSeq (eVar 2)) (bName 3) cYes eNo [3]) eNil)))
    (sSeq (sFldPut a_Program "kept_at" (eVar 0) (eCall (g1 dictPS) (eCons (eFn (T i_walked) (eCons (eFld a_Program "kept_rows" (eVar 0)) (eCons (eTup eNil) eNil))) eNil)))
    (sSeq (sFlds (fsCons a_Program "kept_makers" (eVar 0) (fsCons a_Program "kept_ways" (eVar 0) (fsCons a_Program "kept_forks" (eVar 0) fsNil))) 3 (eTup (eCons eDict0 (eCons eDict0 (eCons (eLst eNil) eNil)))))
    (sSeq (sExpr (eMeth a_Program "need_leaves" (T i_Program_need_leaves) (eVar 0) eNil))
    (sSeq (sExpr (eMeth a_Program "need_names" (T i_Program_need_names) (eVar 0) eNil))
    (sSeq (sExpr (eMeth a_Program "need_sight" (T i_Program_need_sight) (eVar 0) eNil))
    (sExpr (eMeth a_Program "need_trees" (T i_Program_need_trees) (eVar 0) eNil)))))))))))))
def m__law_are_bad (T : Nat → Fn) (a_Fans a_Program : Addr) : SM := (sSeq (sIf (tNotB (eTru (eIsi2 "list" "tuple" (eVar 0)))) (sRet (eC (.bl false))) sNext)
    (sSeq (sIf (eBool (eBin gNe (eComp (eSeq (eVar 0)) (bName 1) (tOrB (tNotB (eTru (eFn (T i__law_is_result) (eCons (eVar 1) eNil)))) (eBool (eBin gNe (eBin gIx (eVar 1) (eC (.int 0))) (eC (.str "made"))))) (eVar 1) [1]) (eLst eNil))) (sRet (eC (.bl false))) sNext)
    (sRet (eBin gEq (eComp (eRng1 (eCons (eCall (g1 lenS) (eCons (eVar 0) eNil)) eNil)) (bName 2) (eBool (eBin gInD (eBin gIx (eVar 0) (eVar 2)) (eSlice (eVar 0) eNoPart (ePart (eVar 2))))) (eVar 2) [2]) (eLst eNil)))))
def m__law_is_result (T : Nat → Fn) (a_Fans a_Program : Addr) : SM := (sSeq (sIf (tOrB (tNotB (eTru (eIsi "tuple" (eVar 0)))) (tOrB (eBool (eBin gNotIn (eCall (g1 lenS) (eCons (eVar 0) eNil)) (eTup (eCons (eC (.int 2)) (eCons (eC (.int 3)) eNil))))) (tNotB (eTru (eIsi "str" (eBin gIx (eVar 0) (eC (.int 0)))))))) (sRet (eC (.bl false))) sNext)
    (sSeq (sIf (tOrB (eBool (eBin gEq (eCall (g1 lenS) (eCons (eVar 0) eNil)) (eC (.int 2)))) (tNotB (eTru (eFn (T i__law_is_name) (eCons (eBin gIx (eVar 0) (eC (.int 1))) eNil))))) (sRet (eAnd (eBin gEq (eCall (g1 lenS) (eCons (eVar 0) eNil)) (eC (.int 2))) (eAnd (eBin gEq (eBin gIx (eVar 0) (eC (.int 0))) (eC (.str "in"))) (eFn (T i__law_is_name) (eCons (eBin gIx (eVar 0) (eC (.int 1))) eNil))))) sNext)
    (sSeq (sIf (eBool (eBin gEq (eBin gIx (eVar 0) (eC (.int 0))) (eC (.str "seen")))) (sRet (eAnd (eFn (T i__law_is_integer) (eCons (eBin gIx (eVar 0) (eC (.int 2))) eNil)) (eBin gGe (eBin gIx (eVar 0) (eC (.int 2))) (eC (.int 0))))) sNext)
    (sSeq (sIf (tOrB (eBool (eBin gNe (eBin gIx (eVar 0) (eC (.int 0))) (eC (.str "made")))) (tOrB (tNotB (eTru (eIsi "tuple" (eBin gIx (eVar 0) (eC (.int 2)))))) (eBool (eBin gGt (eCall (g1 lenS) (eCons (eBin gIx (eVar 0) (eC (.int 2))) eNil)) (eC (.int 3)))))) (sRet (eC (.bl false))) sNext)
    (sRet (eBin gEq (eComp (eSeq (eBin gIx (eVar 0) (eC (.int 2)))) (bName 1) (tNotB (eTru (eFn (T i__law_is_result) (eCons (eVar 1) eNil)))) (eVar 1) [1]) (eLst eNil)))))))
def m_are_bad (T : Nat → Fn) (a_Fans a_Program : Addr) : SM := (sSeq (sIf (tNotB (eTru (eIsi2 "list" "tuple" (eVar 0)))) (sRet (eC (.bl false))) sNext)
    (sSeq (sIf (tNotB (eTru (eCall (g1 allS) (eCons (eComp (eSeq (eVar 0)) (bName 1) cYes (eAnd (eFn (T i_is_result) (eCons (eVar 1) eNil)) (eBin gEq (eBin gIx (eVar 1) (eC (.int 0))) (eC (.str "made")))) [1]) eNil)))) (sRet (eC (.bl false))) sNext)
    (sRet (eBin gEq (eCall (g1 lenS) (eCons (eFn (T i_each_once) (eCons (eVar 0) eNil)) eNil)) (eCall (g1 lenS) (eCons (eVar 0) eNil))))))
def m_is_result (T : Nat → Fn) (a_Fans a_Program : Addr) : SM := (sSeq (sIf (tOrB (tNotB (eTru (eIsi "tuple" (eVar 0)))) (tOrB (eBool (eBin gLt (eCall (g1 lenS) (eCons (eVar 0) eNil)) (eC (.int 2)))) (tNotB (eTru (eIsi "str" (eBin gIx (eVar 0) (eC (.int 0)))))))) (sRet (eC (.bl false))) sNext)
    (sSeq (sIf (eBool (eBin gEq (eBin gIx (eVar 0) (eC (.int 0))) (eC (.str "in")))) (sRet (eAnd (eBin gEq (eCall (g1 lenS) (eCons (eVar 0) eNil)) (eC (.int 2))) (eFn (T i_is_name) (eCons (eBin gIx (eVar 0) (eC (.int 1))) eNil)))) sNext)
    (sSeq (sIf (tOrB (eBool (eBin gNe (eCall (g1 lenS) (eCons (eVar 0) eNil)) (eC (.int 3)))) (tNotB (eTru (eFn (T i_is_name) (eCons (eBin gIx (eVar 0) (eC (.int 1))) eNil))))) (sRet (eC (.bl false))) sNext)
    (sSeq (sIf (eBool (eBin gEq (eBin gIx (eVar 0) (eC (.int 0))) (eC (.str "seen")))) (sRet (eAnd (eFn (T i_is_integer) (eCons (eBin gIx (eVar 0) (eC (.int 2))) eNil)) (eBin gGe (eBin gIx (eVar 0) (eC (.int 2))) (eC (.int 0))))) sNext)
    (sSeq (sIf (tOrB (eBool (eBin gNe (eBin gIx (eVar 0) (eC (.int 0))) (eC (.str "made")))) (tOrB (tNotB (eTru (eIsi "tuple" (eBin gIx (eVar 0) (eC (.int 2)))))) (eBool (eBin gGt (eCall (g1 lenS) (eCons (eBin gIx (eVar 0) (eC (.int 2))) eNil)) (eC (.int 3)))))) (sRet (eC (.bl false))) sNext)
    (sRet (eCall (g1 allS) (eCons (eComp (eSeq (eBin gIx (eVar 0) (eC (.int 2)))) (bName 1) cYes (eFn (T i_is_result) (eCons (eVar 1) eNil)) [1]) eNil))))))))
def m__law_alike (T : Nat → Fn) (a_Fans a_Program : Addr) : SM := (sRet (eAnd (eBin gEq (eVar 0) (eVar 1)) (eBin gEq (eCall (g1 reprS) (eCons (eVar 0) eNil)) (eCall (g1 reprS) (eCons (eVar 1) eNil)))))
def m__law_later (T : Nat → Fn) (a_Fans a_Program : Addr) : SM := (sSeq (sIf (eBool (eBin gEq (eBin gIx (eVar 0) (eC (.int 0))) (eC (.str "seen")))) (sRet (eTup (eCons (eBin gIx (eVar 0) (eC (.int 0))) (eCons (eBin gIx (eVar 0) (eC (.int 1))) (eCons (eBin gAdd (eBin gIx (eVar 0) (eC (.int 2))) (eDGet2 (eVar 1) (eBin gIx (eVar 0) (eC (.int 1))) (eC (.int 0)))) eNil))))) sNext)
    (sSeq (sIf (eBool (eBin gEq (eBin gIx (eVar 0) (eC (.int 0))) (eC (.str "in")))) (sRet (eVar 0)) sNext)
    (sRet (eTup (eCons (eBin gIx (eVar 0) (eC (.int 0))) (eCons (eBin gIx (eVar 0) (eC (.int 1))) (eCons (eCall (g1 tupleS) (eCons (eComp (eSeq (eBin gIx (eVar 0) (eC (.int 2)))) (bName 2) cYes (eFn (T i__law_later) (eCons (eVar 2) (eCons (eVar 1) eNil))) [2]) eNil)) eNil)))))))
def m__law_in (T : Nat → Fn) (a_Fans a_Program : Addr) : SM := (sSeq (sSet 1 (eLst (eCons (eVar 0) eNil)))
    (sSeq (sFor (eSeq (eIf (eBool (eBin gEq (eBin gIx (eVar 0) (eC (.int 0))) (eC (.str "made")))) (eBin gIx (eVar 0) (eC (.int 2))) (eTup eNil))) (bName 2) (sSet 1 (eBin gAdd (eVar 1) (eFn (T i__law_in) (eCons (eVar 2) eNil)))))
    (sRet (eFn (T i__law_different) (eCons (eVar 1) eNil)))))
def m_later (T : Nat → Fn) (a_Fans a_Program : Addr) : SM := (sSeq (sIf (eBool (eBin gEq (eBin gIx (eVar 0) (eC (.int 0))) (eC (.str "seen")))) (sRet (eTup (eCons (eC (.str "seen")) (eCons (eBin gIx (eVar 0) (eC (.int 1))) (eCons (eBin gAdd (eBin gIx (eVar 0) (eC (.int 2))) (eDGet2 (eVar 1) (eBin gIx (eVar 0) (eC (.int 1))) (eC (.int 0)))) eNil))))) sNext)
    (sSeq (sIf (eBool (eBin gEq (eBin gIx (eVar 0) (eC (.int 0))) (eC (.str "made")))) (sRet (eTup (eCons (eC (.str "made")) (eCons (eBin gIx (eVar 0) (eC (.int 1))) (eCons (eCall (g1 tupleS) (eCons (eComp (eSeq (eBin gIx (eVar 0) (eC (.int 2)))) (bName 2) cYes (eFn (T i_later) (eCons (eVar 2) (eCons (eVar 1) eNil))) [2]) eNil)) eNil))))) sNext)
    (sRet (eVar 0))))
def m_within (T : Nat → Fn) (a_Fans a_Program : Addr) : SM := (sRet (eFn (T i_each_once) (eCons (eFn (T i_all_within) (eCons (eVar 0) eNil)) eNil)))
def m_word_of (T : Nat → Fn) (a_Fans a_Program : Addr) : SM := (sRet (eIf (eBool (eBin gEq (eBin gIx (eVar 0) (eC (.int 0))) (eC (.str "made")))) (eBin gIx (eVar 0) (eC (.int 1))) (eC .non)))
def m__law_odd (T : Nat → Fn) (a_Fans a_Program : Addr) : SM := (sSeq (sSet 2 (eLst (eCons (eC .non) (eCons (eC (.bl true)) (eCons (eC (.bl false)) (eCons (eC (.int 0)) (eCons (eC (.int 1)) (eCons (eNeg (eC (.int 1))) (eCons (eBin gPow (eC (.int 10)) (eC (.int 40))) (eCons (eC (.str "")) (eCons (eVar 1) (eCons (eMt "str" gUpper (eVar 1) eNil) (eCons (eBin gAdd (eVar 1) (eC (.str "_"))) (eCons (eC (.str "abcdefghi")) (eCons (eC (.str "a b")) (eCons (eC (.str "a1")) eNil))))))))))))))))
    (sSeq (sSet 2 (eBin gAdd (eVar 2) (eLst (eCons (eTup eNil) (eCons (eLst eNil) (eCons eDict0 (eCons (eTup (eCons (eVar 1) eNil)) (eCons (eLst (eCons (eVar 1) eNil)) (eCons (eDict1 (eVar 1) (eC (.int 0))) (eCons (eTup (eCons (eC (.int 0)) eNil)) (eCons (eLst (eCons (eC (.int 0)) eNil)) (eCons (eTup (eCons (eC (.bl true)) eNil)) (eCons (eTup (eCons (eNeg (eC (.int 1))) eNil)) (eCons (eTup (eCons (eC (.int 0)) (eCons (eC (.int 1)) eNil))) (eCons (eC (.str "yes")) (eCons (eTup (eCons (eC (.str "yes")) eNil)) eNil))))))))))))))))
    (sRet (eBin gIx (eVar 2) (eFn (T i__law_take) (eCons (eVar 0) (eCons (eCall (g1 lenS) (eCons (eVar 2) eNil)) eNil)))))))
def m_are_inputs (T : Nat → Fn) (a_Fans a_Program : Addr) : SM := (sRet (eAnd (eFn (T i_are_names) (eCons (eVar 0) (eCons (eC (.int 4)) eNil))) (eBin gEq (eLenSet (eVar 0)) (eCall (g1 lenS) (eCons (eVar 0) eNil)))))
def m_are_rows (T : Nat → Fn) (a_Fans a_Program : Addr) : SM := (sRet (eAnd (eIsi2 "list" "tuple" (eVar 0)) (eCall (g1 allS) (eCons (eComp (eSeq (eVar 0)) (bName 1) cYes eNo [1]) eNil))))
def m_count (T : Nat → Fn) (a_Fans a_Program : Addr) : SM := (sRet (eBin gAdd (eCall (g1 lenS) (eCons (eVar 0) eNil)) (eCall (g1 sumS) (eCons (eComp20 (eSeq (eVar 0))) eNil))))
def m_depth (T : Nat → Fn) (a_Fans a_Program : Addr) : SM := (sRet (eBin gAdd (eC (.int 1)) (eMax0 (eComp20 (eSeq (eVar 0))) (eC (.int 0)))))
def m_walked (T : Nat → Fn) (a_Fans a_Program : Addr) : SM := (sSeq (sNew 2 (eLst eNil))
    (sSeq (sFor (eEnum (eCons (eVar 0) eNil)) (bTup 2 (bsCons (bName 3) (bsCons (bName 4) bsNil))) sNo)
    (sRet (eVar 2))))
def m_Program_need_leaves (T : Nat → Fn) (a_Fans a_Program : Addr) : SM := (sForFld0 a_Program 0 "kept_at")
def m_Program_need_names (T : Nat → Fn) (a_Fans a_Program : Addr) : SM := (sSeq (sNew 1 (eLst eNil))
    (sSeq (sForFld0 a_Program 0 "kept_at")
    (sIf (eBool (eBin gNe (eVar 1) (eLst eNil))) sNo sNext)))
def m_Program_need_sight (T : Nat → Fn) (a_Fans a_Program : Addr) : SM := (sForFld0 a_Program 0 "kept_at")
def m_Program_need_trees (T : Nat → Fn) (a_Fans a_Program : Addr) : SM := (sSeq (sSet 1 (eMake a_Fans (T i_Fans___init__) (eCons (eFld a_Program "kept_inputs" (eVar 0)) (eCons (eFld a_Program "kept_rows" (eVar 0)) eNil))))
    (sFor (eSeq (eMeth a_Program "names" (T i_Program_names) (eVar 0) eNil)) (bName 2) sNo))
def m__law_is_name (T : Nat → Fn) (a_Fans a_Program : Addr) : SM := (sSeq (sIf (tOrB (tNotB (eTru (eIsi "str" (eVar 0)))) (tNotB (eBool (eChain gLe gLe (eC (.int 1)) (eCall (g1 lenS) (eCons (eVar 0) eNil)) (eC (.int 8)))))) (sRet (eC (.bl false))) sNext)
    (sRet (eBin gEq (eComp (eSeq (eVar 0)) (bName 1) (eBool (eBin gNotIn (eVar 1) (eC (.str "abcdefghijklmnopqrstuvwxyz")))) (eVar 1) [1]) (eLst eNil))))
def m__law_is_integer (T : Nat → Fn) (a_Fans a_Program : Addr) : SM := (sRet (eAnd (eIsi "int" (eVar 0)) (eNot (eIsi "bool" (eVar 0)))))
def m_each_once (T : Nat → Fn) (a_Fans a_Program : Addr) : SM := (sSeq (sSet 1 (eCall (g1 sortedS) (eCons (eVar 0) eNil)))
    (sRet (eComp (eRng1 (eCons (eCall (g1 lenS) (eCons (eVar 1) eNil)) eNil)) (bName 2) (tOrB (eBool (eBin gEq (eVar 2) (eC (.int 0)))) (eBool (eBin gNe (eBin gIx (eVar 1) (eVar 2)) (eBin gIx (eVar 1) (eBin Dy.gSub (eVar 2) (eC (.int 1))))))) (eBin gIx (eVar 1) (eVar 2)) [2])))
def m_is_name (T : Nat → Fn) (a_Fans a_Program : Addr) : SM := (sSeq (sIf (tOrB (tNotB (eTru (eIsi "str" (eVar 0)))) (tNotB (eBool (eChain gLe gLe (eC (.int 1)) (eCall (g1 lenS) (eCons (eVar 0) eNil)) (eC (.int 8)))))) (sRet (eC (.bl false))) sNext)
    (sRet (eCall (g1 allS) (eCons (eComp (eSeq (eVar 0)) (bName 1) cYes (eBin gIn (eVar 1) (eC (.str "abcdefghijklmnopqrstuvwxyz"))) [1]) eNil))))
def m_is_integer (T : Nat → Fn) (a_Fans a_Program : Addr) : SM := (sRet (eAnd (eIsi "int" (eVar 0)) (eNot (eIsi "bool" (eVar 0)))))
def m__law_different (T : Nat → Fn) (a_Fans a_Program : Addr) : SM := (sSeq (sSet 1 (eCall (g1 sortedS) (eCons (eVar 0) eNil)))
    (sRet (eComp (eRng1 (eCons (eCall (g1 lenS) (eCons (eVar 1) eNil)) eNil)) (bName 2) (tOrB (eBool (eBin gEq (eVar 2) (eC (.int 0)))) (eBool (eBin gNe (eBin gIx (eVar 1) (eVar 2)) (eBin gIx (eVar 1) (eBin Dy.gSub (eVar 2) (eC (.int 1))))))) (eBin gIx (eVar 1) (eVar 2)) [2])))
def m_all_within (T : Nat → Fn) (a_Fans a_Program : Addr) : SM := (sSeq (sNew 1 (eLst (eCons (eVar 0) eNil)))
    (sSeq (sIf (eBool (eBin gEq (eBin gIx (eVar 0) (eC (.int 0))) (eC (.str "made")))) (sFor (eSeq (eBin gIx (eVar 0) (eC (.int 2)))) (bName 2) (sExpr (eMt "list" gExtend (eVar 1) (eCons (eFn (T i_all_within) (eCons (eVar 2) eNil)) eNil)))) sNext)
    (sRet (eVar 1))))
def m_are_names (T : Nat → Fn) (a_Fans a_Program : Addr) : SM := (sSeq (sIf (tOrB (tNotB (eTru (eIsi2 "list" "tuple" (eVar 0)))) (eBool (eBin gGt (eCall (g1 lenS) (eCons (eVar 0) eNil)) (eVar 1)))) (sRet (eC (.bl false))) sNext)
    (sRet (eCall (g1 allS) (eCons (eComp (eSeq (eVar 0)) (bName 2) cYes (eFn (T i_is_name) (eCons (eVar 2) eNil)) [2]) eNil))))
def m_Fans___init__ (T : Nat → Fn) (a_Fans a_Program : Addr) : SM := (sSeq (sFlds (fsCons a_Fans "nodes" (eVar 0) (fsCons a_Fans "numbers" (eVar 0) (fsCons a_Fans "makings" (eVar 0) (fsCons a_Fans "rank" (eVar 0) fsNil)))) 4 (eTup (eCons (eLst eNil) (eCons eDict0 (eCons eDict0 (eCons (eC (.int 0)) eNil))))))
    (sSeq (sFldPut a_Fans "node_of" (eVar 0) (eDcE (eSeq (eVar 1))))
    (sExpr (eMeth a_Fans "add" (T i_Fans_add) (eVar 0) (eCons (eVar 2) eNil)))))
def m_Program_names (T : Nat → Fn) (a_Fans a_Program : Addr) : SM := (sRet (eCall (g1 sorted0S) (eCons (eFld a_Program "kept_makers" (eVar 0)) eNil)))
def m_Fans_add (T : Nat → Fn) (a_Fans a_Program : Addr) : SM := (sFor (eSeq (eVar 1)) (bName 2) sNo)
def step (T : Nat → Fn) (a_Fans a_Program : Addr) : Nat → Fn
  | 0 => runBody (m_law T a_Fans a_Program) 12
  | 1 => runBody (m__law_bag T a_Fans a_Program) 2
  | 2 => runBody (m__law_result T a_Fans a_Program) 5
  | 3 => runBody (m__law_take T a_Fans a_Program) 7
  | 4 => runBody (m__law_right T a_Fans a_Program) 8
  | 5 => runBody (m__law_pick T a_Fans a_Program) 2
  | 6 => runBody (m__law_bent T a_Fans a_Program) 6
  | 7 => runBody (m_Program___init__ T a_Fans a_Program) 4
  | 8 => runBody (m__law_are_bad T a_Fans a_Program) 3
  | 9 => runBody (m__law_is_result T a_Fans a_Program) 2
  | 10 => runBody (m_are_bad T a_Fans a_Program) 2
  | 11 => runBody (m_is_result T a_Fans a_Program) 2
  | 12 => runBody (m__law_alike T a_Fans a_Program) 2
  | 13 => runBody (m__law_later T a_Fans a_Program) 3
  | 14 => runBody (m__law_in T a_Fans a_Program) 3
  | 15 => runBody (m_later T a_Fans a_Program) 3
  | 16 => runBody (m_within T a_Fans a_Program) 1
  | 17 => runBody (m_word_of T a_Fans a_Program) 1
  | 18 => runBody (m__law_odd T a_Fans a_Program) 3
  | 19 => runBody (m_are_inputs T a_Fans a_Program) 1
  | 20 => runBody (m_are_rows T a_Fans a_Program) 2
  | 21 => runBody (m_count T a_Fans a_Program) 3
  | 22 => runBody (m_depth T a_Fans a_Program) 3
  | 23 => runBody (m_walked T a_Fans a_Program) 7
  | 24 => runBody (m_Program_need_leaves T a_Fans a_Program) 3
  | 25 => runBody (m_Program_need_names T a_Fans a_Program) 5
  | 26 => runBody (m_Program_need_sight T a_Fans a_Program) 9
  | 27 => runBody (m_Program_need_trees T a_Fans a_Program) 3
  | 28 => runBody (m__law_is_name T a_Fans a_Program) 2
  | 29 => runBody (m__law_is_integer T a_Fans a_Program) 1
  | 30 => runBody (m_each_once T a_Fans a_Program) 3
  | 31 => runBody (m_is_name T a_Fans a_Program) 2
  | 32 => runBody (m_is_integer T a_Fans a_Program) 1
  | 33 => runBody (m__law_different T a_Fans a_Program) 3
  | 34 => runBody (m_all_within T a_Fans a_Program) 3
  | 35 => runBody (m_are_names T a_Fans a_Program) 3
  | 36 => runBody (m_Fans___init__ T a_Fans a_Program) 4
  | 37 => runBody (m_Program_names T a_Fans a_Program) 1
  | 38 => runBody (m_Fans_add T a_Fans a_Program) 8
  | _ => fun _ _ => none
def tab (a_Fans a_Program : Addr) : Nat → Nat → Fn
  | 0 => fun _ _ _ => none
  | k + 1 => step (tab a_Fans a_Program k) a_Fans a_Program
/-! ### the head -/
def fn_0 : List He.DefD := [d_law, d__law_bag, d__law_result, d__law_take, d__law_right, d__law_pick, d__law_bent, d_Program___init__, d__law_are_bad, d__law_is_result, d_are_bad, d_is_result, d__law_alike, d__law_later, d__law_in, d_later, d_within, d_word_of, d__law_odd, d_are_inputs]
def fn_1 : List He.DefD := [d_are_rows, d_count, d_depth, d_walked, d_Program_need_leaves, d_Program_need_names, d_Program_need_sight, d_Program_need_trees, d__law_is_name, d__law_is_integer, d_each_once, d_is_name, d_is_integer, d__law_different, d_all_within, d_are_names, d_Fans___init__, d_Program_names, d_Fans_add]
def fn : List He.DefD := fn_0 ++ fn_1
def fa_0 : List He.Fa := [.glo "law", .glo "_law_bag", .glo "_law_result", .glo "_law_take", .glo "_law_right", .glo "_law_pick", .glo "_law_bent", .mkr "Program", .glo "_law_are_bad", .glo "_law_is_result", .glo "are_bad", .glo "is_result", .glo "_law_alike", .glo "_law_later", .glo "_law_in", .glo "later", .glo "within", .glo "word_of", .glo "_law_odd", .glo "are_inputs"]
def fa_1 : List He.Fa := [.glo "are_rows", .glo "count", .glo "depth", .glo "walked", .meth "Program" "need_leaves", .meth "Program" "need_names", .meth "Program" "need_sight", .meth "Program" "need_trees", .glo "_law_is_name", .glo "_law_is_integer", .glo "each_once", .glo "is_name", .glo "is_integer", .glo "_law_different", .glo "all_within", .glo "are_names", .mkr "Fans", .meth "Program" "names", .meth "Fans" "add", .noat "Fans" "makings"]
def fa_2 : List He.Fa := [.noat "Fans" "node_of", .noat "Fans" "nodes", .noat "Fans" "numbers", .noat "Fans" "rank", .noat "Program" "kept_at", .noat "Program" "kept_forks", .noat "Program" "kept_inputs", .noat "Program" "kept_makers", .noat "Program" "kept_rows", .noat "Program" "kept_ways", .str "LETTERS" "abcdefghijklmnopqrstuvwxyz", .int "MOST_DEEP" 4, .int "MOST_INPUTS" 4, .int "MOST_LETTERS" 8, .int "MOST_MADE" 3, .int "MOST_ROWS" 24]
def fa : List He.Fa := fa_0 ++ fa_1 ++ fa_2
def chk (K : PySem.W.Frag) : Bool := noSysB K && (frees bltNames K && (fa.all (fun f => f.ok K) && (objB "Fans" K && (objB "Program" K && (isiB "Program" K)))))
def loose_0 : List Str := ["_wall", "LETTERS", "MOST_LETTERS", "is_integer", "is_name", "is_address", "are_names", "MOST_MADE", "is_result", "each_once", "are_bad", "word_of", "all_within", "within", "later", "MoveError", "Wrong", "Full", "Deep", "NotLast"]
def loose_1 : List Str := ["Twice", "Unseen", "Wide", "NoRow", "NoGap", "MOST_ARGS", "MOST_JOINED", "is_called", "is_join", "are_joins", "is_plain", "is_row", "are_rows", "frozen", "inner_lists", "with_lists", "makes", "uses", "count", "depth"]
def loose_2 : List Str := ["MOST_INPUTS", "MOST_ROWS", "MOST_DEEP", "MOST_TREES", "MOST_PARTS", "MOST_READINGS", "walked", "changed", "size_of", "readings_of", "limited", "Fans", "are_inputs", "Program", "_law_bag", "_law_take", "_law_alike", "_law_pick", "_law_odd", "_law_is_integer"]
def loose_3 : List Str := ["_law_is_name", "_law_result", "_law_different", "_law_is_result", "_law_are_bad", "_law_bent", "_law_in", "_law_later", "_law_right"]
def loose : List Str := loose_0 ++ loose_1 ++ loose_2 ++ loose_3
structure Gs (K : PySem.W.Frag) (mg : Str → Option Value) : Prop where
  ns : NoSys K
  bl : Blt mg
  gl_law : mg "law" = some (.ref (He.ga K "law"))
  gl__law_bag : mg "_law_bag" = some (.ref (He.ga K "_law_bag"))
  gl__law_result : mg "_law_result" = some (.ref (He.ga K "_law_result"))
  gl__law_take : mg "_law_take" = some (.ref (He.ga K "_law_take"))
  gl__law_right : mg "_law_right" = some (.ref (He.ga K "_law_right"))
  gl__law_pick : mg "_law_pick" = some (.ref (He.ga K "_law_pick"))
  gl__law_bent : mg "_law_bent" = some (.ref (He.ga K "_law_bent"))
  mk_Program : Mk K (He.ga K "Program") (He.ma K (He.ga K "Program") "__init__")
  gl__law_are_bad : mg "_law_are_bad" = some (.ref (He.ga K "_law_are_bad"))
  gl__law_is_result : mg "_law_is_result" = some (.ref (He.ga K "_law_is_result"))
  gl_are_bad : mg "are_bad" = some (.ref (He.ga K "are_bad"))
  gl_is_result : mg "is_result" = some (.ref (He.ga K "is_result"))
  gl__law_alike : mg "_law_alike" = some (.ref (He.ga K "_law_alike"))
  gl__law_later : mg "_law_later" = some (.ref (He.ga K "_law_later"))
  gl__law_in : mg "_law_in" = some (.ref (He.ga K "_law_in"))
  gl_later : mg "later" = some (.ref (He.ga K "later"))
  gl_within : mg "within" = some (.ref (He.ga K "within"))
  gl_word_of : mg "word_of" = some (.ref (He.ga K "word_of"))
  gl__law_odd : mg "_law_odd" = some (.ref (He.ga K "_law_odd"))
  gl_are_inputs : mg "are_inputs" = some (.ref (He.ga K "are_inputs"))
  gl_are_rows : mg "are_rows" = some (.ref (He.ga K "are_rows"))
  gl_count : mg "count" = some (.ref (He.ga K "count"))
  gl_depth : mg "depth" = some (.ref (He.ga K "depth"))
  gl_walked : mg "walked" = some (.ref (He.ga K "walked"))
  mt_Program_need_leaves : Meth K (He.ga K "Program") "need_leaves" (He.ma K (He.ga K "Program") "need_leaves")
  mt_Program_need_names : Meth K (He.ga K "Program") "need_names" (He.ma K (He.ga K "Program") "need_names")
  mt_Program_need_sight : Meth K (He.ga K "Program") "need_sight" (He.ma K (He.ga K "Program") "need_sight")
  mt_Program_need_trees : Meth K (He.ga K "Program") "need_trees" (He.ma K (He.ga K "Program") "need_trees")
  gl__law_is_name : mg "_law_is_name" = some (.ref (He.ga K "_law_is_name"))
  gl__law_is_integer : mg "_law_is_integer" = some (.ref (He.ga K "_law_is_integer"))
  gl_each_once : mg "each_once" = some (.ref (He.ga K "each_once"))
  gl_is_name : mg "is_name" = some (.ref (He.ga K "is_name"))
  gl_is_integer : mg "is_integer" = some (.ref (He.ga K "is_integer"))
  gl__law_different : mg "_law_different" = some (.ref (He.ga K "_law_different"))
  gl_all_within : mg "all_within" = some (.ref (He.ga K "all_within"))
  gl_are_names : mg "are_names" = some (.ref (He.ga K "are_names"))
  mk_Fans : Mk K (He.ga K "Fans") (He.ma K (He.ga K "Fans") "__init__")
  mt_Program_names : Meth K (He.ga K "Program") "names" (He.ma K (He.ga K "Program") "names")
  mt_Fans_add : Meth K (He.ga K "Fans") "add" (He.ma K (He.ga K "Fans") "add")
  na_Fans_makings : NoAttr K (He.ga K "Fans") "makings"
  na_Fans_node_of : NoAttr K (He.ga K "Fans") "node_of"
  na_Fans_nodes : NoAttr K (He.ga K "Fans") "nodes"
  na_Fans_numbers : NoAttr K (He.ga K "Fans") "numbers"
  na_Fans_rank : NoAttr K (He.ga K "Fans") "rank"
  na_Program_kept_at : NoAttr K (He.ga K "Program") "kept_at"
  na_Program_kept_forks : NoAttr K (He.ga K "Program") "kept_forks"
  na_Program_kept_inputs : NoAttr K (He.ga K "Program") "kept_inputs"
  na_Program_kept_makers : NoAttr K (He.ga K "Program") "kept_makers"
  na_Program_kept_rows : NoAttr K (He.ga K "Program") "kept_rows"
  na_Program_kept_ways : NoAttr K (He.ga K "Program") "kept_ways"
  c_LETTERS : ∃ t, mg "LETTERS" = some (.str "abcdefghijklmnopqrstuvwxyz" t)
  c_MOST_DEEP : ∃ t, mg "MOST_DEEP" = some (.int 4 t)
  c_MOST_INPUTS : ∃ t, mg "MOST_INPUTS" = some (.int 4 t)
  c_MOST_LETTERS : ∃ t, mg "MOST_LETTERS" = some (.int 8 t)
  c_MOST_MADE : ∃ t, mg "MOST_MADE" = some (.int 3 t)
  c_MOST_ROWS : ∃ t, mg "MOST_ROWS" = some (.int 24 t)
  cl_Fans : Cls K (He.ga K "Fans")
  ob_Fans : ObjC K (He.ga K "Fans")
  gc_Fans : mg "Fans" = some (.ref (He.ga K "Fans"))
  cl_Program : Cls K (He.ga K "Program")
  ob_Program : ObjC K (He.ga K "Program")
  gc_Program : mg "Program" = some (.ref (He.ga K "Program"))
  k_Program : IsiC K (He.ga K "Program")
theorem Gs.of {K : PySem.W.Frag} {h : Heap} {mg : Str → Option Value} (X : K.In h) (G : h.Ns mainGlobals mg) (c : chk K = true) : Gs K mg := by
  obtain ⟨c0, c⟩ := He.ba c
  obtain ⟨c1, c⟩ := He.ba c
  obtain ⟨c2, c⟩ := He.ba c
  obtain ⟨c3, c⟩ := He.ba c
  obtain ⟨c4, c⟩ := He.ba c
  have c5 := c
  have F : ∀ (i : Nat) {f : He.Fa} (h : fa[i]? = some f := by rfl), f.ok K = true := fun i f h => List.all_eq_true.mp c2 f (List.mem_of_getElem? h)
  exact ⟨noSysB_ok c0, fun x hx => frees_ok X G c1 x hx, He.glo_ok X G (F 0), He.glo_ok X G (F 1), He.glo_ok X G (F 2), He.glo_ok X G (F 3), He.glo_ok X G (F 4), He.glo_ok X G (F 5), He.glo_ok X G (F 6), He.mkr_ok (F 7), He.glo_ok X G (F 8), He.glo_ok X G (F 9), He.glo_ok X G (F 10), He.glo_ok X G (F 11), He.glo_ok X G (F 12), He.glo_ok X G (F 13), He.glo_ok X G (F 14), He.glo_ok X G (F 15), He.glo_ok X G (F 16), He.glo_ok X G (F 17), He.glo_ok X G (F 18), He.glo_ok X G (F 19), He.glo_ok X G (F 20), He.glo_ok X G (F 21), He.glo_ok X G (F 22), He.glo_ok X G (F 23), He.meth_ok (F 24), He.meth_ok (F 25), He.meth_ok (F 26), He.meth_ok (F 27), He.glo_ok X G (F 28), He.glo_ok X G (F 29), He.glo_ok X G (F 30), He.glo_ok X G (F 31), He.glo_ok X G (F 32), He.glo_ok X G (F 33), He.glo_ok X G (F 34), He.glo_ok X G (F 35), He.mkr_ok (F 36), He.meth_ok (F 37), He.meth_ok (F 38), He.noat_ok (F 39), He.noat_ok (F 40), He.noat_ok (F 41), He.noat_ok (F 42), He.noat_ok (F 43), He.noat_ok (F 44), He.noat_ok (F 45), He.noat_ok (F 46), He.noat_ok (F 47), He.noat_ok (F 48), He.noat_ok (F 49), He.str_ok X G (F 50), He.int_ok X G (F 51), He.int_ok X G (F 52), He.int_ok X G (F 53), He.int_ok X G (F 54), He.int_ok X G (F 55), objB_cl c3, objB_ok c3, objB_gl X G c3, objB_cl c4, objB_ok c4, objB_gl X G c4, isiB_ok c5⟩
/-! ### the defs keep to their mirrors -/
structure Fns (P : Program) (w : PySem.World) (K : PySem.W.Frag) (mg : Str → Option Value) (base : Heap) (fds : Nat → FuncData) (k : Nat) (T : Nat → Fn) : Prop where
  d_law : DefOk P w K mg base (2 * k) "law" (He.ga K "law") (fds 0) p_law (T i_law)
  d__law_bag : DefOk P w K mg base (2 * k) "_law_bag" (He.ga K "_law_bag") (fds 1) p__law_bag (T i__law_bag)
  d__law_result : DefOk P w K mg base (2 * k) "_law_result" (He.ga K "_law_result") (fds 2) p__law_result (T i__law_result)
  d__law_take : DefOk P w K mg base (2 * k) "_law_take" (He.ga K "_law_take") (fds 3) p__law_take (T i__law_take)
  d__law_right : DefOk P w K mg base (2 * k) "_law_right" (He.ga K "_law_right") (fds 4) p__law_right (T i__law_right)
  d__law_pick : DefOk P w K mg base (2 * k) "_law_pick" (He.ga K "_law_pick") (fds 5) p__law_pick (T i__law_pick)
  d__law_bent : DefOk P w K mg base (2 * k) "_law_bent" (He.ga K "_law_bent") (fds 6) p__law_bent (T i__law_bent)
  k_Program : MakeOk P w K mg base (2 * k) "Program" (He.ga K "Program") (He.ma K (He.ga K "Program") "__init__") (fds 7) p_Program___init__ (T i_Program___init__)
  d__law_are_bad : DefOk P w K mg base (2 * k) "_law_are_bad" (He.ga K "_law_are_bad") (fds 8) p__law_are_bad (T i__law_are_bad)
  d__law_is_result : DefOk P w K mg base (2 * k) "_law_is_result" (He.ga K "_law_is_result") (fds 9) p__law_is_result (T i__law_is_result)
  d_are_bad : DefOk P w K mg base (2 * k) "are_bad" (He.ga K "are_bad") (fds 10) p_are_bad (T i_are_bad)
  d_is_result : DefOk P w K mg base (2 * k) "is_result" (He.ga K "is_result") (fds 11) p_is_result (T i_is_result)
  d__law_alike : DefOk P w K mg base (2 * k) "_law_alike" (He.ga K "_law_alike") (fds 12) p__law_alike (T i__law_alike)
  d__law_later : DefOk P w K mg base (2 * k) "_law_later" (He.ga K "_law_later") (fds 13) p__law_later (T i__law_later)
  d__law_in : DefOk P w K mg base (2 * k) "_law_in" (He.ga K "_law_in") (fds 14) p__law_in (T i__law_in)
  d_later : DefOk P w K mg base (2 * k) "later" (He.ga K "later") (fds 15) p_later (T i_later)
  d_within : DefOk P w K mg base (2 * k) "within" (He.ga K "within") (fds 16) p_within (T i_within)
  d_word_of : DefOk P w K mg base (2 * k) "word_of" (He.ga K "word_of") (fds 17) p_word_of (T i_word_of)
  d__law_odd : DefOk P w K mg base (2 * k) "_law_odd" (He.ga K "_law_odd") (fds 18) p__law_odd (T i__law_odd)
  d_are_inputs : DefOk P w K mg base (2 * k) "are_inputs" (He.ga K "are_inputs") (fds 19) p_are_inputs (T i_are_inputs)
  d_are_rows : DefOk P w K mg base (2 * k) "are_rows" (He.ga K "are_rows") (fds 20) p_are_rows (T i_are_rows)
  d_count : DefOk P w K mg base (2 * k) "count" (He.ga K "count") (fds 21) p_count (T i_count)
  d_depth : DefOk P w K mg base (2 * k) "depth" (He.ga K "depth") (fds 22) p_depth (T i_depth)
  d_walked : DefOk P w K mg base (2 * k) "walked" (He.ga K "walked") (fds 23) p_walked (T i_walked)
  m_Program_need_leaves : MethOk P w K mg base (2 * k) (He.ga K "Program") "need_leaves" (He.ma K (He.ga K "Program") "need_leaves") (fds 24) p_Program_need_leaves (T i_Program_need_leaves)
  m_Program_need_names : MethOk P w K mg base (2 * k) (He.ga K "Program") "need_names" (He.ma K (He.ga K "Program") "need_names") (fds 25) p_Program_need_names (T i_Program_need_names)
  m_Program_need_sight : MethOk P w K mg base (2 * k) (He.ga K "Program") "need_sight" (He.ma K (He.ga K "Program") "need_sight") (fds 26) p_Program_need_sight (T i_Program_need_sight)
  m_Program_need_trees : MethOk P w K mg base (2 * k) (He.ga K "Program") "need_trees" (He.ma K (He.ga K "Program") "need_trees") (fds 27) p_Program_need_trees (T i_Program_need_trees)
  d__law_is_name : DefOk P w K mg base (2 * k) "_law_is_name" (He.ga K "_law_is_name") (fds 28) p__law_is_name (T i__law_is_name)
  d__law_is_integer : DefOk P w K mg base (2 * k) "_law_is_integer" (He.ga K "_law_is_integer") (fds 29) p__law_is_integer (T i__law_is_integer)
  d_each_once : DefOk P w K mg base (2 * k) "each_once" (He.ga K "each_once") (fds 30) p_each_once (T i_each_once)
  d_is_name : DefOk P w K mg base (2 * k) "is_name" (He.ga K "is_name") (fds 31) p_is_name (T i_is_name)
  d_is_integer : DefOk P w K mg base (2 * k) "is_integer" (He.ga K "is_integer") (fds 32) p_is_integer (T i_is_integer)
  d__law_different : DefOk P w K mg base (2 * k) "_law_different" (He.ga K "_law_different") (fds 33) p__law_different (T i__law_different)
  d_all_within : DefOk P w K mg base (2 * k) "all_within" (He.ga K "all_within") (fds 34) p_all_within (T i_all_within)
  d_are_names : DefOk P w K mg base (2 * k) "are_names" (He.ga K "are_names") (fds 35) p_are_names (T i_are_names)
  k_Fans : MakeOk P w K mg base (2 * k) "Fans" (He.ga K "Fans") (He.ma K (He.ga K "Fans") "__init__") (fds 36) p_Fans___init__ (T i_Fans___init__)
  m_Program_names : MethOk P w K mg base (2 * k) (He.ga K "Program") "names" (He.ma K (He.ga K "Program") "names") (fds 37) p_Program_names (T i_Program_names)
  m_Fans_add : MethOk P w K mg base (2 * k) (He.ga K "Fans") "add" (He.ma K (He.ga K "Fans") "add") (fds 38) p_Fans_add (T i_Fans_add)
section
variable {P : Program} {w : PySem.World} {K : PySem.W.Frag} {mg : Str → Option Value} {base : Heap} {fds : Nat → FuncData} {k : Nat}
abbrev AllD (K : PySem.W.Frag) (fds : Nat → FuncData) : Prop := ∀ (i : Nat) (d : He.DefD), fn[i]? = some d → FunD K d.name d.qual d.params d.body d.scope (d.dvs K) (d.kws K) (He.fAd K d.at_) (fds i)
theorem b_law (FD : AllD K fds) : Binds K (fds 0) p_law [] := (FD 0 d_law rfl).bindsN fun _ _ _ _ _ _ us hl => match us, hl with | [_], _ => rfl
theorem b__law_bag (FD : AllD K fds) : Binds K (fds 1) p__law_bag [] := (FD 1 d__law_bag rfl).bindsN fun _ _ _ _ _ _ us hl => match us, hl with | [_], _ => rfl
theorem b__law_result (FD : AllD K fds) : Binds K (fds 2) p__law_result [] := (FD 2 d__law_result rfl).bindsN fun _ _ _ _ _ _ us hl => match us, hl with | [_, _], _ => rfl
theorem b__law_take (FD : AllD K fds) : Binds K (fds 3) p__law_take [] := (FD 3 d__law_take rfl).bindsN fun _ _ _ _ _ _ us hl => match us, hl with | [_, _], _ => rfl
theorem b__law_right (FD : AllD K fds) : Binds K (fds 4) p__law_right [] := (FD 4 d__law_right rfl).bindsN fun _ _ _ _ _ _ us hl => match us, hl with | [_, _], _ => rfl
theorem b__law_pick (FD : AllD K fds) : Binds K (fds 5) p__law_pick [] := (FD 5 d__law_pick rfl).bindsN fun _ _ _ _ _ _ us hl => match us, hl with | [_, _], _ => rfl
theorem b__law_bent (FD : AllD K fds) : Binds K (fds 6) p__law_bent [] := (FD 6 d__law_bent rfl).bindsN fun _ _ _ _ _ _ us hl => match us, hl with | [_, _], _ => rfl
theorem b_Program___init__ (FD : AllD K fds) : Binds K (fds 7) p_Program___init__ [] := (FD 7 d_Program___init__ rfl).bindsN fun _ _ _ _ _ _ us hl => match us, hl with | [_, _, _], _ => rfl
theorem b__law_are_bad (FD : AllD K fds) : Binds K (fds 8) p__law_are_bad [] := (FD 8 d__law_are_bad rfl).bindsN fun _ _ _ _ _ _ us hl => match us, hl with | [_], _ => rfl
theorem b__law_is_result (FD : AllD K fds) : Binds K (fds 9) p__law_is_result [] := (FD 9 d__law_is_result rfl).bindsN fun _ _ _ _ _ _ us hl => match us, hl with | [_], _ => rfl
theorem b_are_bad (FD : AllD K fds) : Binds K (fds 10) p_are_bad [] := (FD 10 d_are_bad rfl).bindsN fun _ _ _ _ _ _ us hl => match us, hl with | [_], _ => rfl
theorem b_is_result (FD : AllD K fds) : Binds K (fds 11) p_is_result [] := (FD 11 d_is_result rfl).bindsN fun _ _ _ _ _ _ us hl => match us, hl with | [_], _ => rfl
theorem b__law_alike (FD : AllD K fds) : Binds K (fds 12) p__law_alike [] := (FD 12 d__law_alike rfl).bindsN fun _ _ _ _ _ _ us hl => match us, hl with | [_, _], _ => rfl
theorem b__law_later (FD : AllD K fds) : Binds K (fds 13) p__law_later [] := (FD 13 d__law_later rfl).bindsN fun _ _ _ _ _ _ us hl => match us, hl with | [_, _], _ => rfl
theorem b__law_in (FD : AllD K fds) : Binds K (fds 14) p__law_in [] := (FD 14 d__law_in rfl).bindsN fun _ _ _ _ _ _ us hl => match us, hl with | [_], _ => rfl
theorem b_later (FD : AllD K fds) : Binds K (fds 15) p_later [] := (FD 15 d_later rfl).bindsN fun _ _ _ _ _ _ us hl => match us, hl with | [_, _], _ => rfl
theorem b_within (FD : AllD K fds) : Binds K (fds 16) p_within [] := (FD 16 d_within rfl).bindsN fun _ _ _ _ _ _ us hl => match us, hl with | [_], _ => rfl
theorem b_word_of (FD : AllD K fds) : Binds K (fds 17) p_word_of [] := (FD 17 d_word_of rfl).bindsN fun _ _ _ _ _ _ us hl => match us, hl with | [_], _ => rfl
theorem b__law_odd (FD : AllD K fds) : Binds K (fds 18) p__law_odd [] := (FD 18 d__law_odd rfl).bindsN fun _ _ _ _ _ _ us hl => match us, hl with | [_, _], _ => rfl
theorem b_are_inputs (FD : AllD K fds) : Binds K (fds 19) p_are_inputs [] := (FD 19 d_are_inputs rfl).bindsN fun _ _ _ _ _ _ us hl => match us, hl with | [_], _ => rfl
theorem b_are_rows (FD : AllD K fds) : Binds K (fds 20) p_are_rows [] := (FD 20 d_are_rows rfl).bindsN fun _ _ _ _ _ _ us hl => match us, hl with | [_], _ => rfl
theorem b_count (FD : AllD K fds) : Binds K (fds 21) p_count [] := (FD 21 d_count rfl).bindsN fun _ _ _ _ _ _ us hl => match us, hl with | [_], _ => rfl
theorem b_depth (FD : AllD K fds) : Binds K (fds 22) p_depth [] := (FD 22 d_depth rfl).bindsN fun _ _ _ _ _ _ us hl => match us, hl with | [_], _ => rfl
theorem b_walked (FD : AllD K fds) : Binds K (fds 23) p_walked [] := (FD 23 d_walked rfl).bindsN fun _ _ _ _ _ _ us hl => match us, hl with | [_, _], _ => rfl
theorem b_Program_need_leaves (FD : AllD K fds) : Binds K (fds 24) p_Program_need_leaves [] := (FD 24 d_Program_need_leaves rfl).bindsN fun _ _ _ _ _ _ us hl => match us, hl with | [_], _ => rfl
theorem b_Program_need_names (FD : AllD K fds) : Binds K (fds 25) p_Program_need_names [] := (FD 25 d_Program_need_names rfl).bindsN fun _ _ _ _ _ _ us hl => match us, hl with | [_], _ => rfl
theorem b_Program_need_sight (FD : AllD K fds) : Binds K (fds 26) p_Program_need_sight [] := (FD 26 d_Program_need_sight rfl).bindsN fun _ _ _ _ _ _ us hl => match us, hl with | [_], _ => rfl
theorem b_Program_need_trees (FD : AllD K fds) : Binds K (fds 27) p_Program_need_trees [] := (FD 27 d_Program_need_trees rfl).bindsN fun _ _ _ _ _ _ us hl => match us, hl with | [_], _ => rfl
theorem b__law_is_name (FD : AllD K fds) : Binds K (fds 28) p__law_is_name [] := (FD 28 d__law_is_name rfl).bindsN fun _ _ _ _ _ _ us hl => match us, hl with | [_], _ => rfl
theorem b__law_is_integer (FD : AllD K fds) : Binds K (fds 29) p__law_is_integer [] := (FD 29 d__law_is_integer rfl).bindsN fun _ _ _ _ _ _ us hl => match us, hl with | [_], _ => rfl
theorem b_each_once (FD : AllD K fds) : Binds K (fds 30) p_each_once [] := (FD 30 d_each_once rfl).bindsN fun _ _ _ _ _ _ us hl => match us, hl with | [_], _ => rfl
theorem b_is_name (FD : AllD K fds) : Binds K (fds 31) p_is_name [] := (FD 31 d_is_name rfl).bindsN fun _ _ _ _ _ _ us hl => match us, hl with | [_], _ => rfl
theorem b_is_integer (FD : AllD K fds) : Binds K (fds 32) p_is_integer [] := (FD 32 d_is_integer rfl).bindsN fun _ _ _ _ _ _ us hl => match us, hl with | [_], _ => rfl
theorem b__law_different (FD : AllD K fds) : Binds K (fds 33) p__law_different [] := (FD 33 d__law_different rfl).bindsN fun _ _ _ _ _ _ us hl => match us, hl with | [_], _ => rfl
theorem b_all_within (FD : AllD K fds) : Binds K (fds 34) p_all_within [] := (FD 34 d_all_within rfl).bindsN fun _ _ _ _ _ _ us hl => match us, hl with | [_], _ => rfl
theorem b_are_names (FD : AllD K fds) : Binds K (fds 35) p_are_names [] := (FD 35 d_are_names rfl).bindsN fun _ _ _ _ _ _ us hl => match us, hl with | [_, _], _ => rfl
theorem b_Fans___init__ (FD : AllD K fds) : Binds K (fds 36) p_Fans___init__ [] := (FD 36 d_Fans___init__ rfl).bindsN fun _ _ _ _ _ _ us hl => match us, hl with | [_, _, _], _ => rfl
theorem b_Program_names (FD : AllD K fds) : Binds K (fds 37) p_Program_names [] := (FD 37 d_Program_names rfl).bindsN fun _ _ _ _ _ _ us hl => match us, hl with | [_], _ => rfl
theorem b_Fans_add (FD : AllD K fds) : Binds K (fds 38) p_Fans_add [] := (FD 38 d_Fans_add rfl).bindsN fun _ _ _ _ _ _ us hl => match us, hl with | [_, _], _ => rfl
theorem ok_law (G : Gs K mg) (FD : AllD K fds) {T : Nat → Fn} (Fs : Fns P w K mg base fds k T) : FnG P w K mg base CX0 (2 * k + 1 + 1) (He.ga K "law") (fds 0) p_law (spM K p_law.length (runBody (m_law T (He.ga K "Fans") (He.ga K "Program")) N_law.length)) := by
  refine FunDG.ok (FD 0 d_law rfl) sc_law rfl fun cdv A outer s H E hgd hr1 => ?_
  have hr : Room (2 * k) (A.deeper (envOfC "law" (defScope s_law) s.heap.objs.size (He.ga K "law") cdv)) := hr1.mono (by omega)
  have hu := hr.units
  have hu5 : (A.deeper (envOfC "law" (defScope s_law) s.heap.objs.size (He.ga K "law") cdv)).units + 65 < cLine := by have := hr.un; omega
  have B := G.bl
  have NS := G.ns
  exact (psm_cons (psm_new (ps_set (i := 1) sc_law.nd rfl (Or.inr rfl) (pm_def Fs.d__law_bag hgd hr (pam_cons (pm_var (pv 0)) pam_nil) (len_cons len_nil))))
      (psm_cons (psm_for PassesOwn.never rfl (pim_rng1 B (pam_cons pm_int pam_nil)) (pgm_name (pg_name (i := 2) sc_law.nd rfl (Or.inl rfl))) (psm_cons (psm_set (ps_set (i := 3) sc_law.nd rfl (Or.inl rfl) (pm_def Fs.d__law_result hgd hr (pam_cons (pm_var (pv 1)) (pam_cons pm_int pam_nil)) (len_cons (len_cons len_nil)))))
      (psm_cons (psm_set (ps_comp (own := [("_law_k", 4)]) (i := 5) rfl sc_law.nd rfl rfl (sw_true rfl rfl rfl (by decide +kernel)) (pim_rng1 B (pam_cons (pm_def Fs.d__law_take hgd hr (pam_cons (pm_var (pv 1)) (pam_cons pm_int pam_nil)) (len_cons (len_cons len_nil))) pam_nil)) (blkOk_by (N := N_law) (sc := defScope s_law) (own := [("_law_k", 4)]) (by decide +kernel)) (by decide) (fun _ _ _ _ _ => (pgm_name (pg_name (i := 4) sc_law.nd rfl (Or.inl rfl)))) (fun _ _ _ _ _ => ptsm_nil) (fun _ _ _ _ _ => (pm_def Fs.d__law_result hgd hr (pam_cons (pm_var (pv 1)) (pam_cons pm_int pam_nil)) (len_cons (len_cons len_nil))))))
      (psm_cons (psm_if (ptm_not (ptm_val (pm_def Fs.d__law_right hgd hr (pam_cons (pm_var (pv 1)) (pam_cons (pm_var (pv 3)) pam_nil)) (len_cons (len_cons len_nil))))) (psm_one (psm_ret pm_bl)) psm_nil)
      (psm_cons (psm_bind (pm_tup (pam_cons (pm_lst (pam_cons (pm_var (pv 3)) (pam_cons (pm_var (pv 5)) (pam_cons (pm_totuple B (pam_cons (pm_var (pv 5)) pam_nil)) (pam_cons (pm_add (pm_var (pv 5)) (pm_slice (pm_var (pv 5)) pom_none (pom_some pm_int))) (pam_cons (pm_lst (pam_cons (pm_var (pv 3)) (pam_cons (pm_var (pv 3)) pam_nil))) pam_nil)))))) (pam_cons (pm_tup (pam_cons pm_str (pam_cons pm_str pam_nil))) pam_nil))) (pgm_tup rfl (pgm_cons (pgm_name (pg_name (i := 6) sc_law.nd rfl (Or.inr rfl))) (pgm_cons (pgm_name (pg_name (i := 7) sc_law.nd rfl (Or.inl rfl))) pgm_nil))))
      (psm_cons (psm_for PassesOwn.never rfl (pim_rng1 B (pam_cons pm_int pam_nil)) (pgm_name (pg_name (i := 4) sc_law.nd rfl (Or.inl rfl))) (psm_one (psm_set (ps_set (i := 7) sc_law.nd rfl (Or.inl rfl) (pm_tup (pam_cons pm_str (pam_cons pm_str (pam_cons (pm_tup (pam_cons (pm_var (pv 7)) pam_nil)) pam_nil))))))))
      (psm_cons (psm_set (ps_set (i := 6) sc_law.nd rfl (Or.inr rfl) (pm_add (pm_var (pv 6)) (pm_comp (own := [("_law_k", 4)]) rfl sc_law.nd (pim_rng1 B (pam_cons pm_int pam_nil)) (blkOk_by (N := N_law) (sc := defScope s_law) (own := [("_law_k", 4)]) (by decide +kernel)) (by decide) (fun _ _ _ _ _ => (pgm_name (pg_name (i := 4) sc_law.nd rfl (Or.inl rfl)))) (fun _ _ _ _ _ => ptsm_nil) (fun _ _ _ _ _ => (pm_def Fs.d__law_bent hgd hr (pam_cons (pm_var (pv 1)) (pam_cons (pm_def Fs.d__law_pick hgd hr (pam_cons (pm_var (pv 1)) (pam_cons (pm_var (pv 6)) pam_nil)) (len_cons (len_cons len_nil))) pam_nil)) (len_cons (len_cons len_nil))))))))
      (psm_one (psm_for PassesOwn.never rfl (pim_seq (pm_add (pm_var (pv 6)) (pm_lst (pam_cons (pm_var (pv 7)) (pam_cons (pm_lst (pam_cons (pm_var (pv 7)) pam_nil)) (pam_cons (pm_tup (pam_cons pm_str (pam_cons pm_str (pam_cons (pm_mul (pm_tup (pam_cons (pm_var (pv 3)) pam_nil)) pm_int) pam_nil)))) (pam_cons (pm_make Fs.k_Program hgd hr1 (pam_cons (pm_lst pam_nil) (pam_cons (pm_lst pam_nil) pam_nil)) (fun ρ M ss M' h => congrArg (· + 1) ((len_cons (len_cons len_nil)) ρ M ss M' h))) pam_nil))))))) (pgm_name (pg_name (i := 8) sc_law.nd rfl (Or.inl rfl))) (psm_cons (psm_par (ps_par (i := 9) (j := 10) rfl sc_law.nd rfl rfl (by decide) rfl rfl (pam_cons (pm_lst (pam_cons (pm_def Fs.d__law_is_result hgd hr (pam_cons (pm_var (pv 8)) pam_nil) (len_cons len_nil)) (pam_cons (pm_def Fs.d__law_are_bad hgd hr (pam_cons (pm_var (pv 8)) pam_nil) (len_cons len_nil)) pam_nil))) (pam_cons pm_str pam_nil)) (by rfl)))
      (psm_cons (psm_if (ptm_not (ptm_val (pm_isiC G.k_Program rfl (B _ (by decide +kernel)) rfl G.gc_Program (pm_var (pv 8))))) (psm_one (psm_set (ps_set (i := 10) sc_law.nd rfl (Or.inl rfl) (pm_repr B NS hgd hu (pam_cons (pm_var (pv 8)) pam_nil))))) psm_nil)
      (psm_cons (psm_for PassesOwn.never rfl (pim_rng1 B (pam_cons pm_int pam_nil)) (pgm_name (pg_name (i := 11) sc_law.nd rfl (Or.inl rfl))) (psm_one (psm_if (ptm_not (ptm_val (pm_def Fs.d__law_alike hgd hr (pam_cons (pm_lst (pam_cons (pm_def Fs.d_is_result hgd hr (pam_cons (pm_var (pv 8)) pam_nil) (len_cons len_nil)) (pam_cons (pm_def Fs.d_are_bad hgd hr (pam_cons (pm_var (pv 8)) pam_nil) (len_cons len_nil)) pam_nil))) (pam_cons (pm_var (pv 9)) pam_nil)) (len_cons (len_cons len_nil))))) (psm_one (psm_ret pm_bl)) psm_nil)))
      (psm_one (psm_if (PWm.t (pwm_and (ptm_ne hu (pm_var (pv 10)) pm_str) (pwm_and1 (ptm_ne hu (pm_repr B NS hgd hu (pam_cons (pm_var (pv 8)) pam_nil)) (pm_var (pv 10)))))) (psm_one (psm_ret pm_bl)) psm_nil))))))))))))))
      (psm_one (psm_ret (pm_and (pm_is (pm_def Fs.d_is_result hgd hr (pam_cons (pm_mul (pm_lst (pam_cons pm_non pam_nil)) pm_int) pam_nil) (len_cons len_nil)) pm_bl) (pm_one (pm_is (pm_def Fs.d_are_bad hgd hr (pam_cons (pm_mul (pm_lst (pam_cons pm_non pam_nil)) pm_int) pam_nil) (len_cons len_nil)) pm_bl)))))))
theorem ok__law_bag (G : Gs K mg) (FD : AllD K fds) {T : Nat → Fn} (Fs : Fns P w K mg base fds k T) : FnG P w K mg base CX0 (2 * k + 1 + 1) (He.ga K "_law_bag") (fds 1) p__law_bag (spM K p__law_bag.length (runBody (m__law_bag T (He.ga K "Fans") (He.ga K "Program")) N__law_bag.length)) := by
  refine FunDG.ok (FD 1 d__law_bag rfl) sc__law_bag rfl fun cdv A outer s H E hgd hr1 => ?_
  have hr : Room (2 * k) (A.deeper (envOfC "_law_bag" (defScope s__law_bag) s.heap.objs.size (He.ga K "_law_bag") cdv)) := hr1.mono (by omega)
  have hu := hr.units
  have hu5 : (A.deeper (envOfC "_law_bag" (defScope s__law_bag) s.heap.objs.size (He.ga K "_law_bag") cdv)).units + 65 < cLine := by have := hr.un; omega
  have B := G.bl
  have NS := G.ns
  exact (psm_one (psm_ret (pm_lst (pam_cons pm_int (pam_cons pm_int (pam_cons pm_int (pam_cons (pm_comp (own := [("_law_cell", 1)]) rfl sc__law_bag.nd (pim_seq (pm_slice (pm_var (pv 0)) pom_none (pom_some pm_int))) (blkOk_by (N := N__law_bag) (sc := defScope s__law_bag) (own := [("_law_cell", 1)]) (by decide +kernel)) (by decide) (fun _ _ _ _ _ => (pgm_name (pg_name (i := 1) sc__law_bag.nd rfl (Or.inl rfl)))) (fun _ _ _ _ _ => ptsm_nil) (fun _ _ _ _ _ => (pm_abs B (pam_cons (pm_var (pv 1)) pam_nil)))) pam_nil)))))))
theorem ok__law_result (G : Gs K mg) (FD : AllD K fds) {T : Nat → Fn} (Fs : Fns P w K mg base fds k T) : FnG P w K mg base CX0 (2 * k + 1 + 1) (He.ga K "_law_result") (fds 2) p__law_result (spM K p__law_result.length (runBody (m__law_result T (He.ga K "Fans") (He.ga K "Program")) N__law_result.length)) := by
  refine FunDG.ok (FD 2 d__law_result rfl) sc__law_result rfl fun cdv A outer s H E hgd hr1 => ?_
  have hr : Room (2 * k) (A.deeper (envOfC "_law_result" (defScope s__law_result) s.heap.objs.size (He.ga K "_law_result") cdv)) := hr1.mono (by omega)
  have hu := hr.units
  have hu5 : (A.deeper (envOfC "_law_result" (defScope s__law_result) s.heap.objs.size (He.ga K "_law_result") cdv)).units + 65 < cLine := by have := hr.un; omega
  have B := G.bl
  have NS := G.ns
  exact (psm_cons (psm_set (ps_set (i := 2) sc__law_result.nd rfl (Or.inl rfl) (pm_if (ptm_gt (pm_var (pv 1)) pm_int) (pm_def Fs.d__law_take hgd hr (pam_cons (pm_var (pv 0)) (pam_cons pm_int pam_nil)) (len_cons (len_cons len_nil))) (pm_def Fs.d__law_take hgd hr (pam_cons (pm_var (pv 0)) (pam_cons pm_int pam_nil)) (len_cons (len_cons len_nil))))))
      (psm_cons (psm_if (ptm_eq hu (pm_var (pv 2)) pm_int) (psm_one (psm_ret (pm_tup (pam_cons pm_str (pam_cons (pm_sub_ix (pm_lst (pam_cons pm_str (pam_cons pm_str (pam_cons pm_str (pam_cons pm_str pam_nil))))) (pm_def Fs.d__law_take hgd hr (pam_cons (pm_var (pv 0)) (pam_cons pm_int pam_nil)) (len_cons (len_cons len_nil)))) pam_nil))))) psm_nil)
      (psm_cons (psm_if (ptm_eq hu (pm_var (pv 2)) pm_int) (psm_one (psm_ret (pm_tup (pam_cons pm_str (pam_cons (pm_sub_ix (pm_lst (pam_cons pm_str (pam_cons pm_str (pam_cons pm_str pam_nil)))) (pm_def Fs.d__law_take hgd hr (pam_cons (pm_var (pv 0)) (pam_cons pm_int pam_nil)) (len_cons (len_cons len_nil)))) (pam_cons (pm_sub_ix (pm_lst (pam_cons pm_int (pam_cons pm_int (pam_cons pm_int (pam_cons (pm_pow pm_int pm_int) pam_nil))))) (pm_def Fs.d__law_take hgd hr (pam_cons (pm_var (pv 0)) (pam_cons pm_int pam_nil)) (len_cons (len_cons len_nil)))) pam_nil)))))) psm_nil)
      (psm_cons (psm_set (ps_set (i := 3) sc__law_result.nd rfl (Or.inl rfl) (pm_totuple B (pam_cons (pm_comp (own := [("_law_k", 4)]) rfl sc__law_result.nd (pim_rng1 B (pam_cons (pm_def Fs.d__law_take hgd hr (pam_cons (pm_var (pv 0)) (pam_cons pm_int pam_nil)) (len_cons (len_cons len_nil))) pam_nil)) (blkOk_by (N := N__law_result) (sc := defScope s__law_result) (own := [("_law_k", 4)]) (by decide +kernel)) (by decide) (fun _ _ _ _ _ => (pgm_name (pg_name (i := 4) sc__law_result.nd rfl (Or.inl rfl)))) (fun _ _ _ _ _ => ptsm_nil) (fun _ _ _ _ _ => (pm_def Fs.d__law_result hgd hr (pam_cons (pm_var (pv 0)) (pam_cons (pm_sub (pm_var (pv 1)) pm_int) pam_nil)) (len_cons (len_cons len_nil))))) pam_nil))))
      (psm_one (psm_ret (pm_tup (pam_cons pm_str (pam_cons (pm_sub_ix (pm_lst (pam_cons pm_str (pam_cons pm_str (pam_cons pm_str pam_nil)))) (pm_def Fs.d__law_take hgd hr (pam_cons (pm_var (pv 0)) (pam_cons pm_int pam_nil)) (len_cons (len_cons len_nil)))) (pam_cons (pm_var (pv 3)) pam_nil))))))))))
theorem ok__law_take (G : Gs K mg) (FD : AllD K fds) {T : Nat → Fn} (Fs : Fns P w K mg base fds k T) : FnG P w K mg base CX0 (2 * k + 1 + 1) (He.ga K "_law_take") (fds 3) p__law_take (spM K p__law_take.length (runBody (m__law_take T (He.ga K "Fans") (He.ga K "Program")) N__law_take.length)) := by
  refine FunDG.ok (FD 3 d__law_take rfl) sc__law_take rfl fun cdv A outer s H E hgd hr1 => ?_
  have hr : Room (2 * k) (A.deeper (envOfC "_law_take" (defScope s__law_take) s.heap.objs.size (He.ga K "_law_take") cdv)) := hr1.mono (by omega)
  have hu := hr.units
  have hu5 : (A.deeper (envOfC "_law_take" (defScope s__law_take) s.heap.objs.size (He.ga K "_law_take") cdv)).units + 65 < cLine := by have := hr.un; omega
  have B := G.bl
  have NS := G.ns
  exact (psm_cons (psm_if (ptm_eq hu (pm_sub_ix (pm_var (pv 0)) pm_int) pm_int) (psm_cons (psm_set (ps_set (i := 2) sc__law_take.nd rfl (Or.inl rfl) (pm_sub_ix (pm_add (pm_slice (pm_sub_ix (pm_var (pv 0)) pm_int) (pom_some (pm_sub_ix (pm_var (pv 0)) pm_int)) pom_none) (pm_lst (pam_cons pm_int pam_nil))) pm_int)))
      (psm_cons (psm_augPut ip_add (pm_var (pv 0)) pm_int pm_int)
      (psm_cons (psm_put (pm_mul (pm_var (pv 2)) (pm_toint B (pam_cons (pm_ge (pm_var (pv 2)) (pm_pow pm_int pm_int)) pam_nil))) (pm_var (pv 0)) pm_int)
      (psm_cons (psm_set (ps_set (i := 3) sc__law_take.nd rfl (Or.inl rfl) (pm_add (pm_add (pm_mul (pm_sub_ix (pm_var (pv 0)) pm_int) pm_int) (pm_mod (pm_toint B (pam_cons (pm_var (pv 2)) pam_nil)) pm_int)) (pm_mul pm_int (pm_sub_ix (pm_var (pv 0)) pm_int)))))
      (psm_one (psm_put (pm_mod (pm_toint B (pam_cons (pm_var (pv 3)) pam_nil)) pm_int) (pm_var (pv 0)) pm_int)))))) psm_nil)
      (psm_cons (psm_if (ptm_gt (pm_sub_ix (pm_var (pv 0)) pm_int) pm_int) (psm_cons (psm_namePut (j := 4) rfl (pm_tup (pam_cons (pm_mod (pm_toint B (pam_cons (pm_sub_ix (pm_var (pv 0)) pm_int) pam_nil)) (pm_var (pv 1))) (pam_cons (pm_fdiv (pm_toint B (pam_cons (pm_sub_ix (pm_var (pv 0)) pm_int) pam_nil)) (pm_var (pv 1))) pam_nil))) (pg_name (i := 4) sc__law_take.nd rfl (Or.inl rfl)) (pm_var (pv 0)) pm_int)
      (psm_one (psm_ret (pm_var (pv 4))))) psm_nil)
      (psm_cons (psm_set (ps_set (i := 5) sc__law_take.nd rfl (Or.inl rfl) (pm_mod (pm_toint B (pam_cons (pm_mul (pm_add (pm_sub_ix (pm_var (pv 0)) pm_int) pm_int) pm_int) pam_nil)) pm_int)))
      (psm_cons (psm_set (ps_set (i := 6) sc__law_take.nd rfl (Or.inl rfl) (pm_mod (pm_toint B (pam_cons (pm_mul (pm_mod (pm_toint B (pam_cons (pm_mul (pm_var (pv 5)) (pm_var (pv 5))) pam_nil)) pm_int) pm_int) pam_nil)) pm_int)))
      (psm_one (psm_ret (pm_mod (pm_toint B (pam_cons (pm_fdiv (pm_var (pv 6)) pm_int) pam_nil)) (pm_var (pv 1)))))))))
theorem ok__law_right (G : Gs K mg) (FD : AllD K fds) {T : Nat → Fn} (Fs : Fns P w K mg base fds k T) : FnG P w K mg base CX0 (2 * k + 1 + 1) (He.ga K "_law_right") (fds 4) p__law_right (spM K p__law_right.length (runBody (m__law_right T (He.ga K "Fans") (He.ga K "Program")) N__law_right.length)) := by
  refine FunDG.ok (FD 4 d__law_right rfl) sc__law_right rfl fun cdv A outer s H E hgd hr1 => ?_
  have hr : Room (2 * k) (A.deeper (envOfC "_law_right" (defScope s__law_right) s.heap.objs.size (He.ga K "_law_right") cdv)) := hr1.mono (by omega)
  have hu := hr.units
  have hu5 : (A.deeper (envOfC "_law_right" (defScope s__law_right) s.heap.objs.size (He.ga K "_law_right") cdv)).units + 65 < cLine := by have := hr.un; omega
  have B := G.bl
  have NS := G.ns
  exact (psm_cons (psm_new (ps_set (i := 2) sc__law_right.nd rfl (Or.inl rfl) pm_dict0))
      (psm_cons (psm_for PassesOwn.never rfl (pim_seq (pm_tup (pam_cons pm_str (pam_cons pm_str pam_nil)))) (pgm_name (pg_name (i := 3) sc__law_right.nd rfl (Or.inl rfl))) (psm_one (psm_if (ptm_gt (pm_def Fs.d__law_take hgd hr (pam_cons (pm_var (pv 0)) (pam_cons pm_int pam_nil)) (len_cons (len_cons len_nil))) pm_int) (psm_one (psm_putD hu (pm_sub_ix (pm_lst (pam_cons pm_int (pam_cons pm_int (pam_cons pm_int (pam_cons (pm_pow pm_int pm_int) pam_nil))))) (pm_def Fs.d__law_take hgd hr (pam_cons (pm_var (pv 0)) (pam_cons pm_int pam_nil)) (len_cons (len_cons len_nil)))) (pm_var (pv 2)) (pm_var (pv 3)))) psm_nil)))
      (psm_cons (psm_set (ps_set (i := 4) sc__law_right.nd rfl (Or.inl rfl) (pm_lst (pam_cons (pm_if (ptm_eq hu (pm_sub_ix (pm_var (pv 1)) pm_int) pm_str) (pm_sub_ix (pm_var (pv 1)) pm_int) pm_non) (pam_cons (pm_def Fs.d__law_in hgd hr (pam_cons (pm_var (pv 1)) pam_nil) (len_cons len_nil)) (pam_cons (pm_def Fs.d__law_later hgd hr (pam_cons (pm_var (pv 1)) (pam_cons (pm_var (pv 2)) pam_nil)) (len_cons (len_cons len_nil))) pam_nil))))))
      (psm_cons (psm_set (ps_set (i := 5) sc__law_right.nd rfl (Or.inl rfl) (pm_repr B NS hgd hu (pam_cons (pm_var (pv 2)) pam_nil))))
      (psm_cons (psm_for PassesOwn.never rfl (pim_rng1 B (pam_cons pm_int pam_nil)) (pgm_name (pg_name (i := 6) sc__law_right.nd rfl (Or.inl rfl))) (psm_cons (psm_newL (ps_set (i := 7) sc__law_right.nd rfl (Or.inl rfl) (pe_lst (par_consD (pm_def Fs.d_word_of hgd hr (pam_cons (pm_var (pv 1)) pam_nil) (len_cons len_nil)) (par_consN (pm_def Fs.d_within hgd hr (pam_cons (pm_var (pv 1)) pam_nil) (len_cons len_nil)) (par_consD (pm_def Fs.d_later hgd hr (pam_cons (pm_var (pv 1)) (pam_cons (pm_var (pv 2)) pam_nil)) (len_cons (len_cons len_nil))) par_nil))))))
      (psm_cons (psm_if (ptm_not (ptm_val (pm_def Fs.d__law_alike hgd hr (pam_cons (pm_var (pv 7)) (pam_cons (pm_var (pv 4)) pam_nil)) (len_cons (len_cons len_nil))))) (psm_one (psm_ret pm_bl)) psm_nil)
      (psm_one (psm_expr (pm_append (pm_sub_ix (pm_var (pv 7)) pm_int) (pam_cons pm_non pam_nil)))))))
      (psm_one (psm_ret (pm_eq hu (pm_repr B NS hgd hu (pam_cons (pm_var (pv 2)) pam_nil)) (pm_var (pv 5))))))))))
theorem ok__law_pick (G : Gs K mg) (FD : AllD K fds) {T : Nat → Fn} (Fs : Fns P w K mg base fds k T) : FnG P w K mg base CX0 (2 * k + 1 + 1) (He.ga K "_law_pick") (fds 5) p__law_pick (spM K p__law_pick.length (runBody (m__law_pick T (He.ga K "Fans") (He.ga K "Program")) N__law_pick.length)) := by
  refine FunDG.ok (FD 5 d__law_pick rfl) sc__law_pick rfl fun cdv A outer s H E hgd hr1 => ?_
  have hr : Room (2 * k) (A.deeper (envOfC "_law_pick" (defScope s__law_pick) s.heap.objs.size (He.ga K "_law_pick") cdv)) := hr1.mono (by omega)
  have hu := hr.units
  have hu5 : (A.deeper (envOfC "_law_pick" (defScope s__law_pick) s.heap.objs.size (He.ga K "_law_pick") cdv)).units + 65 < cLine := by have := hr.un; omega
  have B := G.bl
  have NS := G.ns
  exact (psm_one (psm_ret (pm_sub_ix (pm_var (pv 1)) (pm_def Fs.d__law_take hgd hr (pam_cons (pm_var (pv 0)) (pam_cons (pm_len B (pam_cons (pm_var (pv 1)) pam_nil)) pam_nil)) (len_cons (len_cons len_nil))))))
theorem ok__law_bent (G : Gs K mg) (FD : AllD K fds) {T : Nat → Fn} (Fs : Fns P w K mg base fds k T) : FnG P w K mg base CX0 (2 * k + 1 + 1) (He.ga K "_law_bent") (fds 6) p__law_bent (spM K p__law_bent.length (runBody (m__law_bent T (He.ga K "Fans") (He.ga K "Program")) N__law_bent.length)) := by
  refine FunDG.ok (FD 6 d__law_bent rfl) sc__law_bent rfl fun cdv A outer s H E hgd hr1 => ?_
  have hr : Room (2 * k) (A.deeper (envOfC "_law_bent" (defScope s__law_bent) s.heap.objs.size (He.ga K "_law_bent") cdv)) := hr1.mono (by omega)
  have hu := hr.units
  have hu5 : (A.deeper (envOfC "_law_bent" (defScope s__law_bent) s.heap.objs.size (He.ga K "_law_bent") cdv)).units + 65 < cLine := by have := hr.un; omega
  have B := G.bl
  have NS := G.ns
  exact (psm_cons (psm_if (PWm.t (pwm_or (ptm_not (ptm_val (pm_isT2 B "list" "tuple" (by decide) (by decide +kernel) PyProof.Rows.boot_list (by decide) (by decide +kernel) PyProof.Rows.boot_tuple (pm_var (pv 1))))) (pwm_or (ptm_eq hu (pm_len B (pam_cons (pm_var (pv 1)) pam_nil)) pm_int) (pwm_or1 (ptm_eq hu (pm_def Fs.d__law_take hgd hr (pam_cons (pm_var (pv 0)) (pam_cons pm_int pam_nil)) (len_cons (len_cons len_nil))) pm_int))))) (psm_cons (psm_set (ps_set (i := 2) sc__law_bent.nd rfl (Or.inl rfl) (pm_lst (pam_cons (pm_def Fs.d__law_odd hgd hr (pam_cons (pm_var (pv 0)) (pam_cons pm_str pam_nil)) (len_cons (len_cons len_nil))) (pam_cons pm_str (pam_cons pm_str (pam_cons pm_str (pam_cons (pm_tup (pam_cons pm_str (pam_cons pm_str pam_nil))) (pam_cons (pm_neg pm_int) (pam_cons (pm_tup (pam_cons pm_str (pam_cons pm_str (pam_cons (pm_lst pam_nil) pam_nil)))) pam_nil))))))))))
      (psm_one (psm_ret (pm_sub_ix (pm_var (pv 2)) (pm_def Fs.d__law_take hgd hr (pam_cons (pm_var (pv 0)) (pam_cons pm_int pam_nil)) (len_cons (len_cons len_nil))))))) psm_nil)
      (psm_cons (psm_par3N (ps_par3 (i := 3) (j := 4) (l := 5) rfl sc__law_bent.nd rfl rfl rfl (by decide) (by decide) (by decide) rfl rfl rfl (par_consN (pm_tolist B (pam_cons (pm_var (pv 1)) pam_nil)) (par_consD (pm_def Fs.d__law_take hgd hr (pam_cons (pm_var (pv 0)) (pam_cons (pm_len B (pam_cons (pm_var (pv 1)) pam_nil)) pam_nil)) (len_cons (len_cons len_nil))) (par_consD (pm_def Fs.d__law_take hgd hr (pam_cons (pm_var (pv 0)) (pam_cons pm_int pam_nil)) (len_cons (len_cons len_nil))) par_nil))) (by rfl)))
      (psm_cons (psm_if (ptm_eq hu (pm_var (pv 5)) pm_int) (psm_one (psm_expr (pm_insert (pm_var (pv 3)) (pam_cons (pm_var (pv 4)) (pam_cons (pm_def Fs.d__law_odd hgd hr (pam_cons (pm_var (pv 0)) (pam_cons pm_str pam_nil)) (len_cons (len_cons len_nil))) pam_nil))))) (psm_one (psm_if (ptm_eq hu (pm_var (pv 5)) pm_int) (psm_one (psm_expr (pm_popAt (pm_var (pv 3)) (pam_cons (pm_var (pv 4)) pam_nil)))) (psm_one (psm_if (ptm_eq hu (pm_var (pv 5)) pm_int) (psm_one (psm_ret (pm_if (ptm_val (pm_isT B "tuple" (by decide) (by decide +kernel) PyProof.Rows.boot_tuple (pm_var (pv 1)))) (pm_var (pv 3)) (pm_totuple B (pam_cons (pm_var (pv 3)) pam_nil))))) (psm_one (psm_put (pm_def Fs.d__law_bent hgd hr (pam_cons (pm_var (pv 0)) (pam_cons (pm_sub_ix (pm_var (pv 3)) (pm_var (pv 4))) pam_nil)) (len_cons (len_cons len_nil))) (pm_var (pv 3)) (pm_var (pv 4)))))))))
      (psm_one (psm_ret (pm_if (ptm_val (pm_isT B "tuple" (by decide) (by decide +kernel) PyProof.Rows.boot_tuple (pm_var (pv 1)))) (pm_totuple B (pam_cons (pm_var (pv 3)) pam_nil)) (pm_var (pv 3))))))))
theorem ok_Program___init__ (G : Gs K mg) (FD : AllD K fds) {T : Nat → Fn} (Fs : Fns P w K mg base fds k T) : FnG P w K mg base CX0 (2 * k + 1 + 1) (He.ma K (He.ga K "Program") "__init__") (fds 7) p_Program___init__ (spM K p_Program___init__.length (runBody (m_Program___init__ T (He.ga K "Fans") (He.ga K "Program")) N_Program___init__.length)) := by
  refine FunDG.ok (FD 7 d_Program___init__ rfl) sc_Program___init__ rfl fun cdv A outer s H E hgd hr1 => ?_
  have hr : Room (2 * k) (A.deeper (envOfC "Program.__init__" (defScope s_Program___init__) s.heap.objs.size (He.ma K (He.ga K "Program") "__init__") cdv)) := hr1.mono (by omega)
  have hu := hr.units
  have hu5 : (A.deeper (envOfC "Program.__init__" (defScope s_Program___init__) s.heap.objs.size (He.ma K (He.ga K "Program") "__init__") cdv)).units + 65 < cLine := by have := hr.un; omega
  have B := G.bl
  have NS := G.ns
  exact (psm_cons (psm_if (ptm_not (ptm_val (pm_def Fs.d_are_inputs hgd hr (pam_cons (pm_var (pv 1)) pam_nil) (len_cons len_nil)))) (psm_one psm_no) psm_nil)
      (psm_cons (psm_if (ptm_not (ptm_val (pm_def Fs.d_are_rows hgd hr (pam_cons (pm_var (pv 2)) pam_nil) (len_cons len_nil)))) (psm_one psm_no) psm_nil)
      (psm_cons (psm_if (ptm_gt (pm_def Fs.d_count hgd hr (pam_cons (pm_var (pv 2)) pam_nil) (len_cons len_nil)) (pm_gint G.c_MOST_ROWS)) (psm_one psm_no) psm_nil)
      (psm_cons (psm_if (ptm_gt (pm_def Fs.d_depth hgd hr (pam_cons (pm_var (pv 2)) pam_nil) (len_cons len_nil)) (pm_gint G.c_MOST_DEEP)) (psm_one psm_no) psm_nil)
      (psm_cons (psm_fldPut G.cl_Program G.na_Program_kept_inputs (pm_var (pv 0)) (pm_totuple B (pam_cons (pm_sorted0 B rfl (pam_cons (pm_var (pv 1)) pam_nil)) pam_nil)))
      (psm_cons (psm_fldPut G.cl_Program G.na_Program_kept_rows (pm_var (pv 0)) (pm_totuple B (pam_cons (pm_comp (own := [("row", 3)]) rfl sc_Program___init__.nd (pim_seq (pm_var (pv 2))) (blkOk_by (N := N_Program___init__) (sc := defScope s_Program___init__) (own := [("row", 3)]) (by decide +kernel)) (by decide) (fun _ _ _ _ _ => (pgm_name (pg_name (i := 3) sc_Program___init__.nd rfl (Or.inl rfl)))) (fun _ _ _ _ _ => ptsm_nil) (fun _ _ _ _ _ => pm_no)) pam_nil)))
      (psm_cons (psm_fldPut G.cl_Program G.na_Program_kept_at (pm_var (pv 0)) (pm_dictP B rfl (pam_cons (pm_def Fs.d_walked hgd hr (pam_cons (pm_fld G.cl_Program G.na_Program_kept_rows (pm_var (pv 0))) (pam_cons (pm_tup pam_nil) pam_nil)) (len_cons (len_cons len_nil))) pam_nil)))
      (psm_cons (psm_flds rfl (pm_tup (pam_cons pm_dict0 (pam_cons pm_dict0 (pam_cons (pm_lst pam_nil) pam_nil)))) (pfs_cons G.cl_Program G.na_Program_kept_makers (pm_var (pv 0)) (pfs_cons G.cl_Program G.na_Program_kept_ways (pm_var (pv 0)) (pfs_cons G.cl_Program G.na_Program_kept_forks (pm_var (pv 0)) pfs_nil))))
      (psm_cons (psm_expr (pm_meth0 Fs.m_Program_need_leaves rfl hgd hr (pm_var (pv 0))))
      (psm_cons (psm_expr (pm_meth0 Fs.m_Program_need_names rfl hgd hr (pm_var (pv 0))))
      (psm_cons (psm_expr (pm_meth0 Fs.m_Program_need_sight rfl hgd hr (pm_var (pv 0))))
      (psm_one (psm_expr (pm_meth0 Fs.m_Program_need_trees rfl hgd hr (pm_var (pv 0))))))))))))))))
theorem ok__law_are_bad (G : Gs K mg) (FD : AllD K fds) {T : Nat → Fn} (Fs : Fns P w K mg base fds k T) : FnG P w K mg base CX0 (2 * k + 1 + 1) (He.ga K "_law_are_bad") (fds 8) p__law_are_bad (spM K p__law_are_bad.length (runBody (m__law_are_bad T (He.ga K "Fans") (He.ga K "Program")) N__law_are_bad.length)) := by
  refine FunDG.ok (FD 8 d__law_are_bad rfl) sc__law_are_bad rfl fun cdv A outer s H E hgd hr1 => ?_
  have hr : Room (2 * k) (A.deeper (envOfC "_law_are_bad" (defScope s__law_are_bad) s.heap.objs.size (He.ga K "_law_are_bad") cdv)) := hr1.mono (by omega)
  have hu := hr.units
  have hu5 : (A.deeper (envOfC "_law_are_bad" (defScope s__law_are_bad) s.heap.objs.size (He.ga K "_law_are_bad") cdv)).units + 65 < cLine := by have := hr.un; omega
  have B := G.bl
  have NS := G.ns
  exact (psm_cons (psm_if (ptm_not (ptm_val (pm_isT2 B "list" "tuple" (by decide) (by decide +kernel) PyProof.Rows.boot_list (by decide) (by decide +kernel) PyProof.Rows.boot_tuple (pm_var (pv 0))))) (psm_one (psm_ret pm_bl)) psm_nil)
      (psm_cons (psm_if (ptm_ne hu (pm_comp (own := [("_law_one", 1)]) rfl sc__law_are_bad.nd (pim_seq (pm_var (pv 0))) (blkOk_by (N := N__law_are_bad) (sc := defScope s__law_are_bad) (own := [("_law_one", 1)]) (by decide +kernel)) (by decide) (fun _ _ _ _ _ => (pgm_name (pg_name (i := 1) sc__law_are_bad.nd rfl (Or.inl rfl)))) (fun _ _ _ _ _ => (ptsm_one (PWm.t (pwm_or (ptm_not (ptm_val (pm_def Fs.d__law_is_result hgd hr (pam_cons (pm_var (pv 1)) pam_nil) (len_cons len_nil)))) (pwm_or1 (ptm_ne hu (pm_sub_ix (pm_var (pv 1)) pm_int) pm_str)))))) (fun _ _ _ _ _ => (pm_var (pv 1)))) (pm_lst pam_nil)) (psm_one (psm_ret pm_bl)) psm_nil)
      (psm_one (psm_ret (pm_eq hu (pm_comp (own := [("_law_k", 2)]) rfl sc__law_are_bad.nd (pim_rng1 B (pam_cons (pm_len B (pam_cons (pm_var (pv 0)) pam_nil)) pam_nil)) (blkOk_by (N := N__law_are_bad) (sc := defScope s__law_are_bad) (own := [("_law_k", 2)]) (by decide +kernel)) (by decide) (fun _ _ _ _ _ => (pgm_name (pg_name (i := 2) sc__law_are_bad.nd rfl (Or.inl rfl)))) (fun _ _ _ _ _ => (ptsm_one (ptm_inD hu5 (pm_sub_ix (pm_var (pv 0)) (pm_var (pv 2))) (pm_slice (pm_var (pv 0)) pom_none (pom_some (pm_var (pv 2))))))) (fun _ _ _ _ _ => (pm_var (pv 2)))) (pm_lst pam_nil))))))
theorem ok__law_is_result (G : Gs K mg) (FD : AllD K fds) {T : Nat → Fn} (Fs : Fns P w K mg base fds k T) : FnG P w K mg base CX0 (2 * k + 1 + 1) (He.ga K "_law_is_result") (fds 9) p__law_is_result (spM K p__law_is_result.length (runBody (m__law_is_result T (He.ga K "Fans") (He.ga K "Program")) N__law_is_result.length)) := by
  refine FunDG.ok (FD 9 d__law_is_result rfl) sc__law_is_result rfl fun cdv A outer s H E hgd hr1 => ?_
  have hr : Room (2 * k) (A.deeper (envOfC "_law_is_result" (defScope s__law_is_result) s.heap.objs.size (He.ga K "_law_is_result") cdv)) := hr1.mono (by omega)
  have hu := hr.units
  have hu5 : (A.deeper (envOfC "_law_is_result" (defScope s__law_is_result) s.heap.objs.size (He.ga K "_law_is_result") cdv)).units + 65 < cLine := by have := hr.un; omega
  have B := G.bl
  have NS := G.ns
  exact (psm_cons (psm_if (PWm.t (pwm_or (ptm_not (ptm_val (pm_isT B "tuple" (by decide) (by decide +kernel) PyProof.Rows.boot_tuple (pm_var (pv 0))))) (pwm_or (ptm_notIn (pm_len B (pam_cons (pm_var (pv 0)) pam_nil)) (pm_tup (pam_cons pm_int (pam_cons pm_int pam_nil)))) (pwm_or1 (ptm_not (ptm_val (pm_isT B "str" (by decide) (by decide +kernel) PyProof.Rows.boot_str (pm_sub_ix (pm_var (pv 0)) pm_int)))))))) (psm_one (psm_ret pm_bl)) psm_nil)
      (psm_cons (psm_if (PWm.t (pwm_or (ptm_eq hu (pm_len B (pam_cons (pm_var (pv 0)) pam_nil)) pm_int) (pwm_or1 (ptm_not (ptm_val (pm_def Fs.d__law_is_name hgd hr (pam_cons (pm_sub_ix (pm_var (pv 0)) pm_int) pam_nil) (len_cons len_nil))))))) (psm_one (psm_ret (pm_and (pm_eq hu (pm_len B (pam_cons (pm_var (pv 0)) pam_nil)) pm_int) (pm_and (pm_eq hu (pm_sub_ix (pm_var (pv 0)) pm_int) pm_str) (pm_one (pm_def Fs.d__law_is_name hgd hr (pam_cons (pm_sub_ix (pm_var (pv 0)) pm_int) pam_nil) (len_cons len_nil))))))) psm_nil)
      (psm_cons (psm_if (ptm_eq hu (pm_sub_ix (pm_var (pv 0)) pm_int) pm_str) (psm_one (psm_ret (pm_and (pm_def Fs.d__law_is_integer hgd hr (pam_cons (pm_sub_ix (pm_var (pv 0)) pm_int) pam_nil) (len_cons len_nil)) (pm_one (pm_ge (pm_sub_ix (pm_var (pv 0)) pm_int) pm_int))))) psm_nil)
      (psm_cons (psm_if (PWm.t (pwm_or (ptm_ne hu (pm_sub_ix (pm_var (pv 0)) pm_int) pm_str) (pwm_or (ptm_not (ptm_val (pm_isT B "tuple" (by decide) (by decide +kernel) PyProof.Rows.boot_tuple (pm_sub_ix (pm_var (pv 0)) pm_int)))) (pwm_or1 (ptm_gt (pm_len B (pam_cons (pm_sub_ix (pm_var (pv 0)) pm_int) pam_nil)) pm_int))))) (psm_one (psm_ret pm_bl)) psm_nil)
      (psm_one (psm_ret (pm_eq hu (pm_comp (own := [("_law_part", 1)]) rfl sc__law_is_result.nd (pim_seq (pm_sub_ix (pm_var (pv 0)) pm_int)) (blkOk_by (N := N__law_is_result) (sc := defScope s__law_is_result) (own := [("_law_part", 1)]) (by decide +kernel)) (by decide) (fun _ _ _ _ _ => (pgm_name (pg_name (i := 1) sc__law_is_result.nd rfl (Or.inl rfl)))) (fun _ _ _ _ _ => (ptsm_one (ptm_not (ptm_val (pm_def Fs.d__law_is_result hgd hr (pam_cons (pm_var (pv 1)) pam_nil) (len_cons len_nil)))))) (fun _ _ _ _ _ => (pm_var (pv 1)))) (pm_lst pam_nil))))))))
theorem ok_are_bad (G : Gs K mg) (FD : AllD K fds) {T : Nat → Fn} (Fs : Fns P w K mg base fds k T) : FnG P w K mg base CX0 (2 * k + 1 + 1) (He.ga K "are_bad") (fds 10) p_are_bad (spM K p_are_bad.length (runBody (m_are_bad T (He.ga K "Fans") (He.ga K "Program")) N_are_bad.length)) := by
  refine FunDG.ok (FD 10 d_are_bad rfl) sc_are_bad rfl fun cdv A outer s H E hgd hr1 => ?_
  have hr : Room (2 * k) (A.deeper (envOfC "are_bad" (defScope s_are_bad) s.heap.objs.size (He.ga K "are_bad") cdv)) := hr1.mono (by omega)
  have hu := hr.units
  have hu5 : (A.deeper (envOfC "are_bad" (defScope s_are_bad) s.heap.objs.size (He.ga K "are_bad") cdv)).units + 65 < cLine := by have := hr.un; omega
  have B := G.bl
  have NS := G.ns
  exact (psm_cons (psm_if (ptm_not (ptm_val (pm_isT2 B "list" "tuple" (by decide) (by decide +kernel) PyProof.Rows.boot_list (by decide) (by decide +kernel) PyProof.Rows.boot_tuple (pm_var (pv 0))))) (psm_one (psm_ret pm_bl)) psm_nil)
      (psm_cons (psm_if (ptm_not (ptm_val (pm_all B rfl (pam_cons (pm_comp (own := [("one", 1)]) rfl sc_are_bad.nd (pim_seq (pm_var (pv 0))) (blkOk_by (N := N_are_bad) (sc := defScope s_are_bad) (own := [("one", 1)]) (by decide +kernel)) (by decide) (fun _ _ _ _ _ => (pgm_name (pg_name (i := 1) sc_are_bad.nd rfl (Or.inl rfl)))) (fun _ _ _ _ _ => ptsm_nil) (fun _ _ _ _ _ => (pm_and (pm_def Fs.d_is_result hgd hr (pam_cons (pm_var (pv 1)) pam_nil) (len_cons len_nil)) (pm_one (pm_eq hu (pm_sub_ix (pm_var (pv 1)) pm_int) pm_str))))) pam_nil)))) (psm_one (psm_ret pm_bl)) psm_nil)
      (psm_one (psm_ret (pm_eq hu (pm_len B (pam_cons (pm_def Fs.d_each_once hgd hr (pam_cons (pm_var (pv 0)) pam_nil) (len_cons len_nil)) pam_nil)) (pm_len B (pam_cons (pm_var (pv 0)) pam_nil)))))))
theorem ok_is_result (G : Gs K mg) (FD : AllD K fds) {T : Nat → Fn} (Fs : Fns P w K mg base fds k T) : FnG P w K mg base CX0 (2 * k + 1 + 1) (He.ga K "is_result") (fds 11) p_is_result (spM K p_is_result.length (runBody (m_is_result T (He.ga K "Fans") (He.ga K "Program")) N_is_result.length)) := by
  refine FunDG.ok (FD 11 d_is_result rfl) sc_is_result rfl fun cdv A outer s H E hgd hr1 => ?_
  have hr : Room (2 * k) (A.deeper (envOfC "is_result" (defScope s_is_result) s.heap.objs.size (He.ga K "is_result") cdv)) := hr1.mono (by omega)
  have hu := hr.units
  have hu5 : (A.deeper (envOfC "is_result" (defScope s_is_result) s.heap.objs.size (He.ga K "is_result") cdv)).units + 65 < cLine := by have := hr.un; omega
  have B := G.bl
  have NS := G.ns
  exact (psm_cons (psm_if (PWm.t (pwm_or (ptm_not (ptm_val (pm_isT B "tuple" (by decide) (by decide +kernel) PyProof.Rows.boot_tuple (pm_var (pv 0))))) (pwm_or (ptm_lt (pm_len B (pam_cons (pm_var (pv 0)) pam_nil)) pm_int) (pwm_or1 (ptm_not (ptm_val (pm_isT B "str" (by decide) (by decide +kernel) PyProof.Rows.boot_str (pm_sub_ix (pm_var (pv 0)) pm_int)))))))) (psm_one (psm_ret pm_bl)) psm_nil)
      (psm_cons (psm_if (ptm_eq hu (pm_sub_ix (pm_var (pv 0)) pm_int) pm_str) (psm_one (psm_ret (pm_and (pm_eq hu (pm_len B (pam_cons (pm_var (pv 0)) pam_nil)) pm_int) (pm_one (pm_def Fs.d_is_name hgd hr (pam_cons (pm_sub_ix (pm_var (pv 0)) pm_int) pam_nil) (len_cons len_nil)))))) psm_nil)
      (psm_cons (psm_if (PWm.t (pwm_or (ptm_ne hu (pm_len B (pam_cons (pm_var (pv 0)) pam_nil)) pm_int) (pwm_or1 (ptm_not (ptm_val (pm_def Fs.d_is_name hgd hr (pam_cons (pm_sub_ix (pm_var (pv 0)) pm_int) pam_nil) (len_cons len_nil))))))) (psm_one (psm_ret pm_bl)) psm_nil)
      (psm_cons (psm_if (ptm_eq hu (pm_sub_ix (pm_var (pv 0)) pm_int) pm_str) (psm_one (psm_ret (pm_and (pm_def Fs.d_is_integer hgd hr (pam_cons (pm_sub_ix (pm_var (pv 0)) pm_int) pam_nil) (len_cons len_nil)) (pm_one (pm_ge (pm_sub_ix (pm_var (pv 0)) pm_int) pm_int))))) psm_nil)
      (psm_cons (psm_if (PWm.t (pwm_or (ptm_ne hu (pm_sub_ix (pm_var (pv 0)) pm_int) pm_str) (pwm_or (ptm_not (ptm_val (pm_isT B "tuple" (by decide) (by decide +kernel) PyProof.Rows.boot_tuple (pm_sub_ix (pm_var (pv 0)) pm_int)))) (pwm_or1 (ptm_gt (pm_len B (pam_cons (pm_sub_ix (pm_var (pv 0)) pm_int) pam_nil)) (pm_gint G.c_MOST_MADE)))))) (psm_one (psm_ret pm_bl)) psm_nil)
      (psm_one (psm_ret (pm_all B rfl (pam_cons (pm_comp (own := [("part", 1)]) rfl sc_is_result.nd (pim_seq (pm_sub_ix (pm_var (pv 0)) pm_int)) (blkOk_by (N := N_is_result) (sc := defScope s_is_result) (own := [("part", 1)]) (by decide +kernel)) (by decide) (fun _ _ _ _ _ => (pgm_name (pg_name (i := 1) sc_is_result.nd rfl (Or.inl rfl)))) (fun _ _ _ _ _ => ptsm_nil) (fun _ _ _ _ _ => (pm_def Fs.d_is_result hgd hr (pam_cons (pm_var (pv 1)) pam_nil) (len_cons len_nil)))) pam_nil)))))))))
theorem ok__law_alike (G : Gs K mg) (FD : AllD K fds) {T : Nat → Fn} (Fs : Fns P w K mg base fds k T) : FnG P w K mg base CX0 (2 * k + 1 + 1) (He.ga K "_law_alike") (fds 12) p__law_alike (spM K p__law_alike.length (runBody (m__law_alike T (He.ga K "Fans") (He.ga K "Program")) N__law_alike.length)) := by
  refine FunDG.ok (FD 12 d__law_alike rfl) sc__law_alike rfl fun cdv A outer s H E hgd hr1 => ?_
  have hr : Room (2 * k) (A.deeper (envOfC "_law_alike" (defScope s__law_alike) s.heap.objs.size (He.ga K "_law_alike") cdv)) := hr1.mono (by omega)
  have hu := hr.units
  have hu5 : (A.deeper (envOfC "_law_alike" (defScope s__law_alike) s.heap.objs.size (He.ga K "_law_alike") cdv)).units + 65 < cLine := by have := hr.un; omega
  have B := G.bl
  have NS := G.ns
  exact (psm_one (psm_ret (pm_and (pm_eq hu (pm_var (pv 0)) (pm_var (pv 1))) (pm_one (pm_eq hu (pm_repr B NS hgd hu (pam_cons (pm_var (pv 0)) pam_nil)) (pm_repr B NS hgd hu (pam_cons (pm_var (pv 1)) pam_nil)))))))
theorem ok__law_later (G : Gs K mg) (FD : AllD K fds) {T : Nat → Fn} (Fs : Fns P w K mg base fds k T) : FnG P w K mg base CX0 (2 * k + 1 + 1) (He.ga K "_law_later") (fds 13) p__law_later (spM K p__law_later.length (runBody (m__law_later T (He.ga K "Fans") (He.ga K "Program")) N__law_later.length)) := by
  refine FunDG.ok (FD 13 d__law_later rfl) sc__law_later rfl fun cdv A outer s H E hgd hr1 => ?_
  have hr : Room (2 * k) (A.deeper (envOfC "_law_later" (defScope s__law_later) s.heap.objs.size (He.ga K "_law_later") cdv)) := hr1.mono (by omega)
  have hu := hr.units
  have hu5 : (A.deeper (envOfC "_law_later" (defScope s__law_later) s.heap.objs.size (He.ga K "_law_later") cdv)).units + 65 < cLine := by have := hr.un; omega
  have B := G.bl
  have NS := G.ns
  exact (psm_cons (psm_if (ptm_eq hu (pm_sub_ix (pm_var (pv 0)) pm_int) pm_str) (psm_one (psm_ret (pm_tup (pam_cons (pm_sub_ix (pm_var (pv 0)) pm_int) (pam_cons (pm_sub_ix (pm_var (pv 0)) pm_int) (pam_cons (pm_add (pm_sub_ix (pm_var (pv 0)) pm_int) (pm_dget2 hu (pm_var (pv 1)) (pm_sub_ix (pm_var (pv 0)) pm_int) pm_int)) pam_nil)))))) psm_nil)
      (psm_cons (psm_if (ptm_eq hu (pm_sub_ix (pm_var (pv 0)) pm_int) pm_str) (psm_one (psm_ret (pm_var (pv 0)))) psm_nil)
      (psm_one (psm_ret (pm_tup (pam_cons (pm_sub_ix (pm_var (pv 0)) pm_int) (pam_cons (pm_sub_ix (pm_var (pv 0)) pm_int) (pam_cons (pm_totuple B (pam_cons (pm_comp (own := [("_law_part", 2)]) rfl sc__law_later.nd (pim_seq (pm_sub_ix (pm_var (pv 0)) pm_int)) (blkOk_by (N := N__law_later) (sc := defScope s__law_later) (own := [("_law_part", 2)]) (by decide +kernel)) (by decide) (fun _ _ _ _ _ => (pgm_name (pg_name (i := 2) sc__law_later.nd rfl (Or.inl rfl)))) (fun _ _ _ _ _ => ptsm_nil) (fun _ _ _ _ _ => (pm_def Fs.d__law_later hgd hr (pam_cons (pm_var (pv 2)) (pam_cons (pm_var (pv 1)) pam_nil)) (len_cons (len_cons len_nil))))) pam_nil)) pam_nil))))))))
theorem ok__law_in (G : Gs K mg) (FD : AllD K fds) {T : Nat → Fn} (Fs : Fns P w K mg base fds k T) : FnG P w K mg base CX0 (2 * k + 1 + 1) (He.ga K "_law_in") (fds 14) p__law_in (spM K p__law_in.length (runBody (m__law_in T (He.ga K "Fans") (He.ga K "Program")) N__law_in.length)) := by
  refine FunDG.ok (FD 14 d__law_in rfl) sc__law_in rfl fun cdv A outer s H E hgd hr1 => ?_
  have hr : Room (2 * k) (A.deeper (envOfC "_law_in" (defScope s__law_in) s.heap.objs.size (He.ga K "_law_in") cdv)) := hr1.mono (by omega)
  have hu := hr.units
  have hu5 : (A.deeper (envOfC "_law_in" (defScope s__law_in) s.heap.objs.size (He.ga K "_law_in") cdv)).units + 65 < cLine := by have := hr.un; omega
  have B := G.bl
  have NS := G.ns
  exact (psm_cons (psm_set (ps_set (i := 1) sc__law_in.nd rfl (Or.inl rfl) (pm_lst (pam_cons (pm_var (pv 0)) pam_nil))))
      (psm_cons (psm_for PassesOwn.never rfl (pim_seq (pm_if (ptm_eq hu (pm_sub_ix (pm_var (pv 0)) pm_int) pm_str) (pm_sub_ix (pm_var (pv 0)) pm_int) (pm_tup pam_nil))) (pgm_name (pg_name (i := 2) sc__law_in.nd rfl (Or.inl rfl))) (psm_one (psm_set (ps_set (i := 1) sc__law_in.nd rfl (Or.inl rfl) (pm_add (pm_var (pv 1)) (pm_def Fs.d__law_in hgd hr (pam_cons (pm_var (pv 2)) pam_nil) (len_cons len_nil)))))))
      (psm_one (psm_ret (pm_def Fs.d__law_different hgd hr (pam_cons (pm_var (pv 1)) pam_nil) (len_cons len_nil))))))
theorem ok_later (G : Gs K mg) (FD : AllD K fds) {T : Nat → Fn} (Fs : Fns P w K mg base fds k T) : FnG P w K mg base CX0 (2 * k + 1 + 1) (He.ga K "later") (fds 15) p_later (spM K p_later.length (runBody (m_later T (He.ga K "Fans") (He.ga K "Program")) N_later.length)) := by
  refine FunDG.ok (FD 15 d_later rfl) sc_later rfl fun cdv A outer s H E hgd hr1 => ?_
  have hr : Room (2 * k) (A.deeper (envOfC "later" (defScope s_later) s.heap.objs.size (He.ga K "later") cdv)) := hr1.mono (by omega)
  have hu := hr.units
  have hu5 : (A.deeper (envOfC "later" (defScope s_later) s.heap.objs.size (He.ga K "later") cdv)).units + 65 < cLine := by have := hr.un; omega
  have B := G.bl
  have NS := G.ns
  exact (psm_cons (psm_if (ptm_eq hu (pm_sub_ix (pm_var (pv 0)) pm_int) pm_str) (psm_one (psm_ret (pm_tup (pam_cons pm_str (pam_cons (pm_sub_ix (pm_var (pv 0)) pm_int) (pam_cons (pm_add (pm_sub_ix (pm_var (pv 0)) pm_int) (pm_dget2 hu (pm_var (pv 1)) (pm_sub_ix (pm_var (pv 0)) pm_int) pm_int)) pam_nil)))))) psm_nil)
      (psm_cons (psm_if (ptm_eq hu (pm_sub_ix (pm_var (pv 0)) pm_int) pm_str) (psm_one (psm_ret (pm_tup (pam_cons pm_str (pam_cons (pm_sub_ix (pm_var (pv 0)) pm_int) (pam_cons (pm_totuple B (pam_cons (pm_comp (own := [("part", 2)]) rfl sc_later.nd (pim_seq (pm_sub_ix (pm_var (pv 0)) pm_int)) (blkOk_by (N := N_later) (sc := defScope s_later) (own := [("part", 2)]) (by decide +kernel)) (by decide) (fun _ _ _ _ _ => (pgm_name (pg_name (i := 2) sc_later.nd rfl (Or.inl rfl)))) (fun _ _ _ _ _ => ptsm_nil) (fun _ _ _ _ _ => (pm_def Fs.d_later hgd hr (pam_cons (pm_var (pv 2)) (pam_cons (pm_var (pv 1)) pam_nil)) (len_cons (len_cons len_nil))))) pam_nil)) pam_nil)))))) psm_nil)
      (psm_one (psm_ret (pm_var (pv 0))))))
theorem ok_within (G : Gs K mg) (FD : AllD K fds) {T : Nat → Fn} (Fs : Fns P w K mg base fds k T) : FnG P w K mg base CX0 (2 * k + 1 + 1) (He.ga K "within") (fds 16) p_within (spM K p_within.length (runBody (m_within T (He.ga K "Fans") (He.ga K "Program")) N_within.length)) := by
  refine FunDG.ok (FD 16 d_within rfl) sc_within rfl fun cdv A outer s H E hgd hr1 => ?_
  have hr : Room (2 * k) (A.deeper (envOfC "within" (defScope s_within) s.heap.objs.size (He.ga K "within") cdv)) := hr1.mono (by omega)
  have hu := hr.units
  have hu5 : (A.deeper (envOfC "within" (defScope s_within) s.heap.objs.size (He.ga K "within") cdv)).units + 65 < cLine := by have := hr.un; omega
  have B := G.bl
  have NS := G.ns
  exact (psm_one (psm_ret (pm_def Fs.d_each_once hgd hr (pam_cons (pm_def Fs.d_all_within hgd hr (pam_cons (pm_var (pv 0)) pam_nil) (len_cons len_nil)) pam_nil) (len_cons len_nil))))
theorem ok_word_of (G : Gs K mg) (FD : AllD K fds) {T : Nat → Fn} (Fs : Fns P w K mg base fds k T) : FnG P w K mg base CX0 (2 * k + 1 + 1) (He.ga K "word_of") (fds 17) p_word_of (spM K p_word_of.length (runBody (m_word_of T (He.ga K "Fans") (He.ga K "Program")) N_word_of.length)) := by
  refine FunDG.ok (FD 17 d_word_of rfl) sc_word_of rfl fun cdv A outer s H E hgd hr1 => ?_
  have hr : Room (2 * k) (A.deeper (envOfC "word_of" (defScope s_word_of) s.heap.objs.size (He.ga K "word_of") cdv)) := hr1.mono (by omega)
  have hu := hr.units
  have hu5 : (A.deeper (envOfC "word_of" (defScope s_word_of) s.heap.objs.size (He.ga K "word_of") cdv)).units + 65 < cLine := by have := hr.un; omega
  have B := G.bl
  have NS := G.ns
  exact (psm_one (psm_ret (pm_if (ptm_eq hu (pm_sub_ix (pm_var (pv 0)) pm_int) pm_str) (pm_sub_ix (pm_var (pv 0)) pm_int) pm_non)))
theorem ok__law_odd (G : Gs K mg) (FD : AllD K fds) {T : Nat → Fn} (Fs : Fns P w K mg base fds k T) : FnG P w K mg base CX0 (2 * k + 1 + 1) (He.ga K "_law_odd") (fds 18) p__law_odd (spM K p__law_odd.length (runBody (m__law_odd T (He.ga K "Fans") (He.ga K "Program")) N__law_odd.length)) := by
  refine FunDG.ok (FD 18 d__law_odd rfl) sc__law_odd rfl fun cdv A outer s H E hgd hr1 => ?_
  have hr : Room (2 * k) (A.deeper (envOfC "_law_odd" (defScope s__law_odd) s.heap.objs.size (He.ga K "_law_odd") cdv)) := hr1.mono (by omega)
  have hu := hr.units
  have hu5 : (A.deeper (envOfC "_law_odd" (defScope s__law_odd) s.heap.objs.size (He.ga K "_law_odd") cdv)).units + 65 < cLine := by have := hr.un; omega
  have B := G.bl
  have NS := G.ns
  exact (psm_cons (psm_set (ps_set (i := 2) sc__law_odd.nd rfl (Or.inl rfl) (pm_lst (pam_cons pm_non (pam_cons pm_bl (pam_cons pm_bl (pam_cons pm_int (pam_cons pm_int (pam_cons (pm_neg pm_int) (pam_cons (pm_pow pm_int pm_int) (pam_cons pm_str (pam_cons (pm_var (pv 1)) (pam_cons (pm_upper (pm_var (pv 1))) (pam_cons (pm_add (pm_var (pv 1)) pm_str) (pam_cons pm_str (pam_cons pm_str (pam_cons pm_str pam_nil)))))))))))))))))
      (psm_cons (psm_set (ps_set (i := 2) sc__law_odd.nd rfl (Or.inl rfl) (pm_add (pm_var (pv 2)) (pm_lst (pam_cons (pm_tup pam_nil) (pam_cons (pm_lst pam_nil) (pam_cons pm_dict0 (pam_cons (pm_tup (pam_cons (pm_var (pv 1)) pam_nil)) (pam_cons (pm_lst (pam_cons (pm_var (pv 1)) pam_nil)) (pam_cons (pm_dict1 (pm_var (pv 1)) pm_int) (pam_cons (pm_tup (pam_cons pm_int pam_nil)) (pam_cons (pm_lst (pam_cons pm_int pam_nil)) (pam_cons (pm_tup (pam_cons pm_bl pam_nil)) (pam_cons (pm_tup (pam_cons (pm_neg pm_int) pam_nil)) (pam_cons (pm_tup (pam_cons pm_int (pam_cons pm_int pam_nil))) (pam_cons pm_str (pam_cons (pm_tup (pam_cons pm_str pam_nil)) pam_nil)))))))))))))))))
      (psm_one (psm_ret (pm_sub_ix (pm_var (pv 2)) (pm_def Fs.d__law_take hgd hr (pam_cons (pm_var (pv 0)) (pam_cons (pm_len B (pam_cons (pm_var (pv 2)) pam_nil)) pam_nil)) (len_cons (len_cons len_nil))))))))
theorem ok_are_inputs (G : Gs K mg) (FD : AllD K fds) {T : Nat → Fn} (Fs : Fns P w K mg base fds k T) : FnG P w K mg base CX0 (2 * k + 1 + 1) (He.ga K "are_inputs") (fds 19) p_are_inputs (spM K p_are_inputs.length (runBody (m_are_inputs T (He.ga K "Fans") (He.ga K "Program")) N_are_inputs.length)) := by
  refine FunDG.ok (FD 19 d_are_inputs rfl) sc_are_inputs rfl fun cdv A outer s H E hgd hr1 => ?_
  have hr : Room (2 * k) (A.deeper (envOfC "are_inputs" (defScope s_are_inputs) s.heap.objs.size (He.ga K "are_inputs") cdv)) := hr1.mono (by omega)
  have hu := hr.units
  have hu5 : (A.deeper (envOfC "are_inputs" (defScope s_are_inputs) s.heap.objs.size (He.ga K "are_inputs") cdv)).units + 65 < cLine := by have := hr.un; omega
  have B := G.bl
  have NS := G.ns
  exact (psm_one (psm_ret (pm_and (pm_def Fs.d_are_names hgd hr (pam_cons (pm_var (pv 0)) (pam_cons (pm_gint G.c_MOST_INPUTS) pam_nil)) (len_cons (len_cons len_nil))) (pm_one (pm_eq hu (pm_lenSet B rfl (pm_var (pv 0))) (pm_len B (pam_cons (pm_var (pv 0)) pam_nil)))))))
theorem ok_are_rows (G : Gs K mg) (FD : AllD K fds) {T : Nat → Fn} (Fs : Fns P w K mg base fds k T) : FnG P w K mg base CX0 (2 * k + 1 + 1) (He.ga K "are_rows") (fds 20) p_are_rows (spM K p_are_rows.length (runBody (m_are_rows T (He.ga K "Fans") (He.ga K "Program")) N_are_rows.length)) := by
  refine FunDG.ok (FD 20 d_are_rows rfl) sc_are_rows rfl fun cdv A outer s H E hgd hr1 => ?_
  have hr : Room (2 * k) (A.deeper (envOfC "are_rows" (defScope s_are_rows) s.heap.objs.size (He.ga K "are_rows") cdv)) := hr1.mono (by omega)
  have hu := hr.units
  have hu5 : (A.deeper (envOfC "are_rows" (defScope s_are_rows) s.heap.objs.size (He.ga K "are_rows") cdv)).units + 65 < cLine := by have := hr.un; omega
  have B := G.bl
  have NS := G.ns
  exact (psm_one (psm_ret (pm_and (pm_isT2 B "list" "tuple" (by decide) (by decide +kernel) PyProof.Rows.boot_list (by decide) (by decide +kernel) PyProof.Rows.boot_tuple (pm_var (pv 0))) (pm_one (pm_all B rfl (pam_cons (pm_comp (own := [("row", 1)]) rfl sc_are_rows.nd (pim_seq (pm_var (pv 0))) (blkOk_by (N := N_are_rows) (sc := defScope s_are_rows) (own := [("row", 1)]) (by decide +kernel)) (by decide) (fun _ _ _ _ _ => (pgm_name (pg_name (i := 1) sc_are_rows.nd rfl (Or.inl rfl)))) (fun _ _ _ _ _ => ptsm_nil) (fun _ _ _ _ _ => pm_no)) pam_nil))))))
theorem ok_count (G : Gs K mg) (FD : AllD K fds) {T : Nat → Fn} (Fs : Fns P w K mg base fds k T) : FnG P w K mg base CX0 (2 * k + 1 + 1) (He.ga K "count") (fds 21) p_count (spM K p_count.length (runBody (m_count T (He.ga K "Fans") (He.ga K "Program")) N_count.length)) := by
  refine FunDG.ok (FD 21 d_count rfl) sc_count rfl fun cdv A outer s H E hgd hr1 => ?_
  have hr : Room (2 * k) (A.deeper (envOfC "count" (defScope s_count) s.heap.objs.size (He.ga K "count") cdv)) := hr1.mono (by omega)
  have hu := hr.units
  have hu5 : (A.deeper (envOfC "count" (defScope s_count) s.heap.objs.size (He.ga K "count") cdv)).units + 65 < cLine := by have := hr.un; omega
  have B := G.bl
  have NS := G.ns
  exact (psm_one (psm_ret (pm_add (pm_len B (pam_cons (pm_var (pv 0)) pam_nil)) (pm_sum B rfl (pam_cons (pm_comp20 (own := [("row", 1), ("some", 2)]) rfl sc_count.nd (pim_seq (pm_var (pv 0))) (blkOk_by (N := N_count) (sc := defScope s_count) (own := [("row", 1), ("some", 2)]) (by decide +kernel))) pam_nil)))))
theorem ok_depth (G : Gs K mg) (FD : AllD K fds) {T : Nat → Fn} (Fs : Fns P w K mg base fds k T) : FnG P w K mg base CX0 (2 * k + 1 + 1) (He.ga K "depth") (fds 22) p_depth (spM K p_depth.length (runBody (m_depth T (He.ga K "Fans") (He.ga K "Program")) N_depth.length)) := by
  refine FunDG.ok (FD 22 d_depth rfl) sc_depth rfl fun cdv A outer s H E hgd hr1 => ?_
  have hr : Room (2 * k) (A.deeper (envOfC "depth" (defScope s_depth) s.heap.objs.size (He.ga K "depth") cdv)) := hr1.mono (by omega)
  have hu := hr.units
  have hu5 : (A.deeper (envOfC "depth" (defScope s_depth) s.heap.objs.size (He.ga K "depth") cdv)).units + 65 < cLine := by have := hr.un; omega
  have B := G.bl
  have NS := G.ns
  exact (psm_one (psm_ret (pm_add pm_int (pm_max0 B rfl (pm_comp20 (own := [("row", 1), ("some", 2)]) rfl sc_depth.nd (pim_seq (pm_var (pv 0))) (blkOk_by (N := N_depth) (sc := defScope s_depth) (own := [("row", 1), ("some", 2)]) (by decide +kernel))) pm_int))))
theorem ok_walked (G : Gs K mg) (FD : AllD K fds) {T : Nat → Fn} (Fs : Fns P w K mg base fds k T) : FnG P w K mg base CX0 (2 * k + 1 + 1) (He.ga K "walked") (fds 23) p_walked (spM K p_walked.length (runBody (m_walked T (He.ga K "Fans") (He.ga K "Program")) N_walked.length)) := by
  refine FunDG.ok (FD 23 d_walked rfl) sc_walked rfl fun cdv A outer s H E hgd hr1 => ?_
  have hr : Room (2 * k) (A.deeper (envOfC "walked" (defScope s_walked) s.heap.objs.size (He.ga K "walked") cdv)) := hr1.mono (by omega)
  have hu := hr.units
  have hu5 : (A.deeper (envOfC "walked" (defScope s_walked) s.heap.objs.size (He.ga K "walked") cdv)).units + 65 < cLine := by have := hr.un; omega
  have B := G.bl
  have NS := G.ns
  exact (psm_cons (psm_new (ps_set (i := 2) sc_walked.nd rfl (Or.inl rfl) (pm_lst pam_nil)))
      (psm_cons (psm_for PassesOwn.never rfl (pim_enm B (pam_cons (pm_var (pv 0)) pam_nil)) (pgm_tup rfl (pgm_cons (pgm_name (pg_name (i := 3) sc_walked.nd rfl (Or.inl rfl))) (pgm_cons (pgm_name (pg_name (i := 4) sc_walked.nd rfl (Or.inl rfl))) pgm_nil))) pssm_no)
      (psm_one (psm_ret (pm_var (pv 2))))))
theorem ok_Program_need_leaves (G : Gs K mg) (FD : AllD K fds) {T : Nat → Fn} (Fs : Fns P w K mg base fds k T) : FnG P w K mg base CX0 (2 * k + 1 + 1) (He.ma K (He.ga K "Program") "need_leaves") (fds 24) p_Program_need_leaves (spM K p_Program_need_leaves.length (runBody (m_Program_need_leaves T (He.ga K "Fans") (He.ga K "Program")) N_Program_need_leaves.length)) := by
  refine FunDG.ok (FD 24 d_Program_need_leaves rfl) sc_Program_need_leaves rfl fun cdv A outer s H E hgd hr1 => ?_
  have hr : Room (2 * k) (A.deeper (envOfC "Program.need_leaves" (defScope s_Program_need_leaves) s.heap.objs.size (He.ma K (He.ga K "Program") "need_leaves") cdv)) := hr1.mono (by omega)
  have hu := hr.units
  have hu5 : (A.deeper (envOfC "Program.need_leaves" (defScope s_Program_need_leaves) s.heap.objs.size (He.ma K (He.ga K "Program") "need_leaves") cdv)).units + 65 < cLine := by have := hr.un; omega
  have B := G.bl
  have NS := G.ns
  exact (psm_one (psm_forFld0 PassesOwn.never rfl G.cl_Program G.na_Program_kept_at (pv 0)))
theorem ok_Program_need_names (G : Gs K mg) (FD : AllD K fds) {T : Nat → Fn} (Fs : Fns P w K mg base fds k T) : FnG P w K mg base CX0 (2 * k + 1 + 1) (He.ma K (He.ga K "Program") "need_names") (fds 25) p_Program_need_names (spM K p_Program_need_names.length (runBody (m_Program_need_names T (He.ga K "Fans") (He.ga K "Program")) N_Program_need_names.length)) := by
  refine FunDG.ok (FD 25 d_Program_need_names rfl) sc_Program_need_names rfl fun cdv A outer s H E hgd hr1 => ?_
  have hr : Room (2 * k) (A.deeper (envOfC "Program.need_names" (defScope s_Program_need_names) s.heap.objs.size (He.ma K (He.ga K "Program") "need_names") cdv)) := hr1.mono (by omega)
  have hu := hr.units
  have hu5 : (A.deeper (envOfC "Program.need_names" (defScope s_Program_need_names) s.heap.objs.size (He.ma K (He.ga K "Program") "need_names") cdv)).units + 65 < cLine := by have := hr.un; omega
  have B := G.bl
  have NS := G.ns
  exact (psm_cons (psm_new (ps_set (i := 1) sc_Program_need_names.nd rfl (Or.inl rfl) (pm_lst pam_nil)))
      (psm_cons (psm_forFld0 PassesOwn.never rfl G.cl_Program G.na_Program_kept_at (pv 0))
      (psm_one (psm_if (ptm_ne hu (pm_var (pv 1)) (pm_lst pam_nil)) (psm_one psm_no) psm_nil))))
theorem ok_Program_need_sight (G : Gs K mg) (FD : AllD K fds) {T : Nat → Fn} (Fs : Fns P w K mg base fds k T) : FnG P w K mg base CX0 (2 * k + 1 + 1) (He.ma K (He.ga K "Program") "need_sight") (fds 26) p_Program_need_sight (spM K p_Program_need_sight.length (runBody (m_Program_need_sight T (He.ga K "Fans") (He.ga K "Program")) N_Program_need_sight.length)) := by
  refine FunDG.ok (FD 26 d_Program_need_sight rfl) sc_Program_need_sight rfl fun cdv A outer s H E hgd hr1 => ?_
  have hr : Room (2 * k) (A.deeper (envOfC "Program.need_sight" (defScope s_Program_need_sight) s.heap.objs.size (He.ma K (He.ga K "Program") "need_sight") cdv)) := hr1.mono (by omega)
  have hu := hr.units
  have hu5 : (A.deeper (envOfC "Program.need_sight" (defScope s_Program_need_sight) s.heap.objs.size (He.ma K (He.ga K "Program") "need_sight") cdv)).units + 65 < cLine := by have := hr.un; omega
  have B := G.bl
  have NS := G.ns
  exact (psm_one (psm_forFld0 PassesOwn.never rfl G.cl_Program G.na_Program_kept_at (pv 0)))
theorem ok_Program_need_trees (G : Gs K mg) (FD : AllD K fds) {T : Nat → Fn} (Fs : Fns P w K mg base fds k T) : FnG P w K mg base CX0 (2 * k + 1 + 1) (He.ma K (He.ga K "Program") "need_trees") (fds 27) p_Program_need_trees (spM K p_Program_need_trees.length (runBody (m_Program_need_trees T (He.ga K "Fans") (He.ga K "Program")) N_Program_need_trees.length)) := by
  refine FunDG.ok (FD 27 d_Program_need_trees rfl) sc_Program_need_trees rfl fun cdv A outer s H E hgd hr1 => ?_
  have hr : Room (2 * k) (A.deeper (envOfC "Program.need_trees" (defScope s_Program_need_trees) s.heap.objs.size (He.ma K (He.ga K "Program") "need_trees") cdv)) := hr1.mono (by omega)
  have hu := hr.units
  have hu5 : (A.deeper (envOfC "Program.need_trees" (defScope s_Program_need_trees) s.heap.objs.size (He.ma K (He.ga K "Program") "need_trees") cdv)).units + 65 < cLine := by have := hr.un; omega
  have B := G.bl
  have NS := G.ns
  exact (psm_cons (psm_set (ps_set (i := 1) sc_Program_need_trees.nd rfl (Or.inl rfl) (pm_make Fs.k_Fans hgd hr1 (pam_cons (pm_fld G.cl_Program G.na_Program_kept_inputs (pm_var (pv 0))) (pam_cons (pm_fld G.cl_Program G.na_Program_kept_rows (pm_var (pv 0))) pam_nil)) (fun ρ M ss M' h => congrArg (· + 1) ((len_cons (len_cons len_nil)) ρ M ss M' h)))))
      (psm_one (psm_for PassesOwn.never rfl (pim_seq (pm_meth0 Fs.m_Program_names rfl hgd hr (pm_var (pv 0)))) (pgm_name (pg_name (i := 2) sc_Program_need_trees.nd rfl (Or.inl rfl))) pssm_no)))
theorem ok__law_is_name (G : Gs K mg) (FD : AllD K fds) {T : Nat → Fn} (Fs : Fns P w K mg base fds k T) : FnG P w K mg base CX0 (2 * k + 1 + 1) (He.ga K "_law_is_name") (fds 28) p__law_is_name (spM K p__law_is_name.length (runBody (m__law_is_name T (He.ga K "Fans") (He.ga K "Program")) N__law_is_name.length)) := by
  refine FunDG.ok (FD 28 d__law_is_name rfl) sc__law_is_name rfl fun cdv A outer s H E hgd hr1 => ?_
  have hr : Room (2 * k) (A.deeper (envOfC "_law_is_name" (defScope s__law_is_name) s.heap.objs.size (He.ga K "_law_is_name") cdv)) := hr1.mono (by omega)
  have hu := hr.units
  have hu5 : (A.deeper (envOfC "_law_is_name" (defScope s__law_is_name) s.heap.objs.size (He.ga K "_law_is_name") cdv)).units + 65 < cLine := by have := hr.un; omega
  have B := G.bl
  have NS := G.ns
  exact (psm_cons (psm_if (PWm.t (pwm_or (ptm_not (ptm_val (pm_isT B "str" (by decide) (by decide +kernel) PyProof.Rows.boot_str (pm_var (pv 0))))) (pwm_or1 (ptm_not (ptm_chain op_le opd_le op_le opd_le pm_int (pm_len B (pam_cons (pm_var (pv 0)) pam_nil)) pm_int))))) (psm_one (psm_ret pm_bl)) psm_nil)
      (psm_one (psm_ret (pm_eq hu (pm_comp (own := [("_law_letter", 1)]) rfl sc__law_is_name.nd (pim_seq (pm_var (pv 0))) (blkOk_by (N := N__law_is_name) (sc := defScope s__law_is_name) (own := [("_law_letter", 1)]) (by decide +kernel)) (by decide) (fun _ _ _ _ _ => (pgm_name (pg_name (i := 1) sc__law_is_name.nd rfl (Or.inl rfl)))) (fun _ _ _ _ _ => (ptsm_one (ptm_notIn (pm_var (pv 1)) pm_str))) (fun _ _ _ _ _ => (pm_var (pv 1)))) (pm_lst pam_nil)))))
theorem ok__law_is_integer (G : Gs K mg) (FD : AllD K fds) {T : Nat → Fn} (Fs : Fns P w K mg base fds k T) : FnG P w K mg base CX0 (2 * k + 1 + 1) (He.ga K "_law_is_integer") (fds 29) p__law_is_integer (spM K p__law_is_integer.length (runBody (m__law_is_integer T (He.ga K "Fans") (He.ga K "Program")) N__law_is_integer.length)) := by
  refine FunDG.ok (FD 29 d__law_is_integer rfl) sc__law_is_integer rfl fun cdv A outer s H E hgd hr1 => ?_
  have hr : Room (2 * k) (A.deeper (envOfC "_law_is_integer" (defScope s__law_is_integer) s.heap.objs.size (He.ga K "_law_is_integer") cdv)) := hr1.mono (by omega)
  have hu := hr.units
  have hu5 : (A.deeper (envOfC "_law_is_integer" (defScope s__law_is_integer) s.heap.objs.size (He.ga K "_law_is_integer") cdv)).units + 65 < cLine := by have := hr.un; omega
  have B := G.bl
  have NS := G.ns
  exact (psm_one (psm_ret (pm_and (pm_isT B "int" (by decide) (by decide +kernel) PyProof.Rows.boot_int (pm_var (pv 0))) (pm_one (pm_not (pm_isT B "bool" (by decide) (by decide +kernel) PyProof.Rows.boot_bool (pm_var (pv 0))))))))
theorem ok_each_once (G : Gs K mg) (FD : AllD K fds) {T : Nat → Fn} (Fs : Fns P w K mg base fds k T) : FnG P w K mg base CX0 (2 * k + 1 + 1) (He.ga K "each_once") (fds 30) p_each_once (spM K p_each_once.length (runBody (m_each_once T (He.ga K "Fans") (He.ga K "Program")) N_each_once.length)) := by
  refine FunDG.ok (FD 30 d_each_once rfl) sc_each_once rfl fun cdv A outer s H E hgd hr1 => ?_
  have hr : Room (2 * k) (A.deeper (envOfC "each_once" (defScope s_each_once) s.heap.objs.size (He.ga K "each_once") cdv)) := hr1.mono (by omega)
  have hu := hr.units
  have hu5 : (A.deeper (envOfC "each_once" (defScope s_each_once) s.heap.objs.size (He.ga K "each_once") cdv)).units + 65 < cLine := by have := hr.un; omega
  have B := G.bl
  have NS := G.ns
  exact (psm_cons (psm_set (ps_set (i := 1) sc_each_once.nd rfl (Or.inr rfl) (pm_sortedD B hu (pam_cons (pm_var (pv 0)) pam_nil))))
      (psm_one (psm_ret (pm_comp (own := [("at", 2)]) rfl sc_each_once.nd (pim_rng1 B (pam_cons (pm_len B (pam_cons (pm_var (pv 1)) pam_nil)) pam_nil)) (blkOk_by (N := N_each_once) (sc := defScope s_each_once) (own := [("at", 2)]) (by decide +kernel)) (by decide) (fun _ _ _ _ _ => (pgm_name (pg_name (i := 2) sc_each_once.nd rfl (Or.inl rfl)))) (fun _ _ _ _ _ => (ptsm_one (PWm.t (pwm_or (ptm_eq hu (pm_var (pv 2)) pm_int) (pwm_or1 (ptm_ne hu (pm_sub_ix (pm_var (pv 1)) (pm_var (pv 2))) (pm_sub_ix (pm_var (pv 1)) (pm_sub (pm_var (pv 2)) pm_int)))))))) (fun _ _ _ _ _ => (pm_sub_ix (pm_var (pv 1)) (pm_var (pv 2))))))))
theorem ok_is_name (G : Gs K mg) (FD : AllD K fds) {T : Nat → Fn} (Fs : Fns P w K mg base fds k T) : FnG P w K mg base CX0 (2 * k + 1 + 1) (He.ga K "is_name") (fds 31) p_is_name (spM K p_is_name.length (runBody (m_is_name T (He.ga K "Fans") (He.ga K "Program")) N_is_name.length)) := by
  refine FunDG.ok (FD 31 d_is_name rfl) sc_is_name rfl fun cdv A outer s H E hgd hr1 => ?_
  have hr : Room (2 * k) (A.deeper (envOfC "is_name" (defScope s_is_name) s.heap.objs.size (He.ga K "is_name") cdv)) := hr1.mono (by omega)
  have hu := hr.units
  have hu5 : (A.deeper (envOfC "is_name" (defScope s_is_name) s.heap.objs.size (He.ga K "is_name") cdv)).units + 65 < cLine := by have := hr.un; omega
  have B := G.bl
  have NS := G.ns
  exact (psm_cons (psm_if (PWm.t (pwm_or (ptm_not (ptm_val (pm_isT B "str" (by decide) (by decide +kernel) PyProof.Rows.boot_str (pm_var (pv 0))))) (pwm_or1 (ptm_not (ptm_chain op_le opd_le op_le opd_le pm_int (pm_len B (pam_cons (pm_var (pv 0)) pam_nil)) (pm_gint G.c_MOST_LETTERS)))))) (psm_one (psm_ret pm_bl)) psm_nil)
      (psm_one (psm_ret (pm_all B rfl (pam_cons (pm_comp (own := [("letter", 1)]) rfl sc_is_name.nd (pim_seq (pm_var (pv 0))) (blkOk_by (N := N_is_name) (sc := defScope s_is_name) (own := [("letter", 1)]) (by decide +kernel)) (by decide) (fun _ _ _ _ _ => (pgm_name (pg_name (i := 1) sc_is_name.nd rfl (Or.inl rfl)))) (fun _ _ _ _ _ => ptsm_nil) (fun _ _ _ _ _ => (pm_in (pm_var (pv 1)) (pm_gstr G.c_LETTERS)))) pam_nil)))))
theorem ok_is_integer (G : Gs K mg) (FD : AllD K fds) {T : Nat → Fn} (Fs : Fns P w K mg base fds k T) : FnG P w K mg base CX0 (2 * k + 1 + 1) (He.ga K "is_integer") (fds 32) p_is_integer (spM K p_is_integer.length (runBody (m_is_integer T (He.ga K "Fans") (He.ga K "Program")) N_is_integer.length)) := by
  refine FunDG.ok (FD 32 d_is_integer rfl) sc_is_integer rfl fun cdv A outer s H E hgd hr1 => ?_
  have hr : Room (2 * k) (A.deeper (envOfC "is_integer" (defScope s_is_integer) s.heap.objs.size (He.ga K "is_integer") cdv)) := hr1.mono (by omega)
  have hu := hr.units
  have hu5 : (A.deeper (envOfC "is_integer" (defScope s_is_integer) s.heap.objs.size (He.ga K "is_integer") cdv)).units + 65 < cLine := by have := hr.un; omega
  have B := G.bl
  have NS := G.ns
  exact (psm_one (psm_ret (pm_and (pm_isT B "int" (by decide) (by decide +kernel) PyProof.Rows.boot_int (pm_var (pv 0))) (pm_one (pm_not (pm_isT B "bool" (by decide) (by decide +kernel) PyProof.Rows.boot_bool (pm_var (pv 0))))))))
theorem ok__law_different (G : Gs K mg) (FD : AllD K fds) {T : Nat → Fn} (Fs : Fns P w K mg base fds k T) : FnG P w K mg base CX0 (2 * k + 1 + 1) (He.ga K "_law_different") (fds 33) p__law_different (spM K p__law_different.length (runBody (m__law_different T (He.ga K "Fans") (He.ga K "Program")) N__law_different.length)) := by
  refine FunDG.ok (FD 33 d__law_different rfl) sc__law_different rfl fun cdv A outer s H E hgd hr1 => ?_
  have hr : Room (2 * k) (A.deeper (envOfC "_law_different" (defScope s__law_different) s.heap.objs.size (He.ga K "_law_different") cdv)) := hr1.mono (by omega)
  have hu := hr.units
  have hu5 : (A.deeper (envOfC "_law_different" (defScope s__law_different) s.heap.objs.size (He.ga K "_law_different") cdv)).units + 65 < cLine := by have := hr.un; omega
  have B := G.bl
  have NS := G.ns
  exact (psm_cons (psm_set (ps_set (i := 1) sc__law_different.nd rfl (Or.inr rfl) (pm_sortedD B hu (pam_cons (pm_var (pv 0)) pam_nil))))
      (psm_one (psm_ret (pm_comp (own := [("_law_k", 2)]) rfl sc__law_different.nd (pim_rng1 B (pam_cons (pm_len B (pam_cons (pm_var (pv 1)) pam_nil)) pam_nil)) (blkOk_by (N := N__law_different) (sc := defScope s__law_different) (own := [("_law_k", 2)]) (by decide +kernel)) (by decide) (fun _ _ _ _ _ => (pgm_name (pg_name (i := 2) sc__law_different.nd rfl (Or.inl rfl)))) (fun _ _ _ _ _ => (ptsm_one (PWm.t (pwm_or (ptm_eq hu (pm_var (pv 2)) pm_int) (pwm_or1 (ptm_ne hu (pm_sub_ix (pm_var (pv 1)) (pm_var (pv 2))) (pm_sub_ix (pm_var (pv 1)) (pm_sub (pm_var (pv 2)) pm_int)))))))) (fun _ _ _ _ _ => (pm_sub_ix (pm_var (pv 1)) (pm_var (pv 2))))))))
theorem ok_all_within (G : Gs K mg) (FD : AllD K fds) {T : Nat → Fn} (Fs : Fns P w K mg base fds k T) : FnG P w K mg base CX0 (2 * k + 1 + 1) (He.ga K "all_within") (fds 34) p_all_within (spM K p_all_within.length (runBody (m_all_within T (He.ga K "Fans") (He.ga K "Program")) N_all_within.length)) := by
  refine FunDG.ok (FD 34 d_all_within rfl) sc_all_within rfl fun cdv A outer s H E hgd hr1 => ?_
  have hr : Room (2 * k) (A.deeper (envOfC "all_within" (defScope s_all_within) s.heap.objs.size (He.ga K "all_within") cdv)) := hr1.mono (by omega)
  have hu := hr.units
  have hu5 : (A.deeper (envOfC "all_within" (defScope s_all_within) s.heap.objs.size (He.ga K "all_within") cdv)).units + 65 < cLine := by have := hr.un; omega
  have B := G.bl
  have NS := G.ns
  exact (psm_cons (psm_new (ps_set (i := 1) sc_all_within.nd rfl (Or.inl rfl) (pm_lst (pam_cons (pm_var (pv 0)) pam_nil))))
      (psm_cons (psm_if (ptm_eq hu (pm_sub_ix (pm_var (pv 0)) pm_int) pm_str) (psm_one (psm_for PassesOwn.never rfl (pim_seq (pm_sub_ix (pm_var (pv 0)) pm_int)) (pgm_name (pg_name (i := 2) sc_all_within.nd rfl (Or.inl rfl))) (psm_one (psm_expr (pm_extend (pm_var (pv 1)) (pam_cons (pm_def Fs.d_all_within hgd hr (pam_cons (pm_var (pv 2)) pam_nil) (len_cons len_nil)) pam_nil)))))) psm_nil)
      (psm_one (psm_ret (pm_var (pv 1))))))
theorem ok_are_names (G : Gs K mg) (FD : AllD K fds) {T : Nat → Fn} (Fs : Fns P w K mg base fds k T) : FnG P w K mg base CX0 (2 * k + 1 + 1) (He.ga K "are_names") (fds 35) p_are_names (spM K p_are_names.length (runBody (m_are_names T (He.ga K "Fans") (He.ga K "Program")) N_are_names.length)) := by
  refine FunDG.ok (FD 35 d_are_names rfl) sc_are_names rfl fun cdv A outer s H E hgd hr1 => ?_
  have hr : Room (2 * k) (A.deeper (envOfC "are_names" (defScope s_are_names) s.heap.objs.size (He.ga K "are_names") cdv)) := hr1.mono (by omega)
  have hu := hr.units
  have hu5 : (A.deeper (envOfC "are_names" (defScope s_are_names) s.heap.objs.size (He.ga K "are_names") cdv)).units + 65 < cLine := by have := hr.un; omega
  have B := G.bl
  have NS := G.ns
  exact (psm_cons (psm_if (PWm.t (pwm_or (ptm_not (ptm_val (pm_isT2 B "list" "tuple" (by decide) (by decide +kernel) PyProof.Rows.boot_list (by decide) (by decide +kernel) PyProof.Rows.boot_tuple (pm_var (pv 0))))) (pwm_or1 (ptm_gt (pm_len B (pam_cons (pm_var (pv 0)) pam_nil)) (pm_var (pv 1)))))) (psm_one (psm_ret pm_bl)) psm_nil)
      (psm_one (psm_ret (pm_all B rfl (pam_cons (pm_comp (own := [("name", 2)]) rfl sc_are_names.nd (pim_seq (pm_var (pv 0))) (blkOk_by (N := N_are_names) (sc := defScope s_are_names) (own := [("name", 2)]) (by decide +kernel)) (by decide) (fun _ _ _ _ _ => (pgm_name (pg_name (i := 2) sc_are_names.nd rfl (Or.inl rfl)))) (fun _ _ _ _ _ => ptsm_nil) (fun _ _ _ _ _ => (pm_def Fs.d_is_name hgd hr (pam_cons (pm_var (pv 2)) pam_nil) (len_cons len_nil)))) pam_nil)))))
theorem ok_Fans___init__ (G : Gs K mg) (FD : AllD K fds) {T : Nat → Fn} (Fs : Fns P w K mg base fds k T) : FnG P w K mg base CX0 (2 * k + 1 + 1) (He.ma K (He.ga K "Fans") "__init__") (fds 36) p_Fans___init__ (spM K p_Fans___init__.length (runBody (m_Fans___init__ T (He.ga K "Fans") (He.ga K "Program")) N_Fans___init__.length)) := by
  refine FunDG.ok (FD 36 d_Fans___init__ rfl) sc_Fans___init__ rfl fun cdv A outer s H E hgd hr1 => ?_
  have hr : Room (2 * k) (A.deeper (envOfC "Fans.__init__" (defScope s_Fans___init__) s.heap.objs.size (He.ma K (He.ga K "Fans") "__init__") cdv)) := hr1.mono (by omega)
  have hu := hr.units
  have hu5 : (A.deeper (envOfC "Fans.__init__" (defScope s_Fans___init__) s.heap.objs.size (He.ma K (He.ga K "Fans") "__init__") cdv)).units + 65 < cLine := by have := hr.un; omega
  have B := G.bl
  have NS := G.ns
  exact (psm_cons (psm_flds rfl (pm_tup (pam_cons (pm_lst pam_nil) (pam_cons pm_dict0 (pam_cons pm_dict0 (pam_cons pm_int pam_nil))))) (pfs_cons G.cl_Fans G.na_Fans_nodes (pm_var (pv 0)) (pfs_cons G.cl_Fans G.na_Fans_numbers (pm_var (pv 0)) (pfs_cons G.cl_Fans G.na_Fans_makings (pm_var (pv 0)) (pfs_cons G.cl_Fans G.na_Fans_rank (pm_var (pv 0)) pfs_nil)))))
      (psm_cons (psm_fldPut G.cl_Fans G.na_Fans_node_of (pm_var (pv 0)) (pm_dcE (own := [("name", 3)]) rfl sc_Fans___init__.nd (pim_seq (pm_var (pv 1))) (blkOk_by (N := N_Fans___init__) (sc := defScope s_Fans___init__) (own := [("name", 3)]) (by decide +kernel))))
      (psm_one (psm_expr (pm_meth Fs.m_Fans_add hgd hr (pm_var (pv 0)) (pam_cons (pm_var (pv 2)) pam_nil) (fun ρ M ss M' h => congrArg (· + 1) ((len_cons len_nil) ρ M ss M' h)))))))
theorem ok_Program_names (G : Gs K mg) (FD : AllD K fds) {T : Nat → Fn} (Fs : Fns P w K mg base fds k T) : FnG P w K mg base CX0 (2 * k + 1 + 1) (He.ma K (He.ga K "Program") "names") (fds 37) p_Program_names (spM K p_Program_names.length (runBody (m_Program_names T (He.ga K "Fans") (He.ga K "Program")) N_Program_names.length)) := by
  refine FunDG.ok (FD 37 d_Program_names rfl) sc_Program_names rfl fun cdv A outer s H E hgd hr1 => ?_
  have hr : Room (2 * k) (A.deeper (envOfC "Program.names" (defScope s_Program_names) s.heap.objs.size (He.ma K (He.ga K "Program") "names") cdv)) := hr1.mono (by omega)
  have hu := hr.units
  have hu5 : (A.deeper (envOfC "Program.names" (defScope s_Program_names) s.heap.objs.size (He.ma K (He.ga K "Program") "names") cdv)).units + 65 < cLine := by have := hr.un; omega
  have B := G.bl
  have NS := G.ns
  exact (psm_one (psm_ret (pm_sorted0 B rfl (pam_cons (pm_fld G.cl_Program G.na_Program_kept_makers (pm_var (pv 0))) pam_nil))))
theorem ok_Fans_add (G : Gs K mg) (FD : AllD K fds) {T : Nat → Fn} (Fs : Fns P w K mg base fds k T) : FnG P w K mg base CX0 (2 * k + 1 + 1) (He.ma K (He.ga K "Fans") "add") (fds 38) p_Fans_add (spM K p_Fans_add.length (runBody (m_Fans_add T (He.ga K "Fans") (He.ga K "Program")) N_Fans_add.length)) := by
  refine FunDG.ok (FD 38 d_Fans_add rfl) sc_Fans_add rfl fun cdv A outer s H E hgd hr1 => ?_
  have hr : Room (2 * k) (A.deeper (envOfC "Fans.add" (defScope s_Fans_add) s.heap.objs.size (He.ma K (He.ga K "Fans") "add") cdv)) := hr1.mono (by omega)
  have hu := hr.units
  have hu5 : (A.deeper (envOfC "Fans.add" (defScope s_Fans_add) s.heap.objs.size (He.ma K (He.ga K "Fans") "add") cdv)).units + 65 < cLine := by have := hr.un; omega
  have B := G.bl
  have NS := G.ns
  exact (psm_one (psm_for PassesOwn.never rfl (pim_seq (pm_var (pv 1))) (pgm_name (pg_name (i := 2) sc_Fans_add.nd rfl (Or.inl rfl))) pssm_no))
theorem fns0 (G : Gs K mg) (FD : AllD K fds) : Fns P w K mg base fds 0 (fun _ _ _ => none) := ⟨⟨G.gl_law, (FD 0 d_law rfl).kp, b_law FD, FnG.zero⟩, ⟨G.gl__law_bag, (FD 1 d__law_bag rfl).kp, b__law_bag FD, FnG.zero⟩, ⟨G.gl__law_result, (FD 2 d__law_result rfl).kp, b__law_result FD, FnG.zero⟩, ⟨G.gl__law_take, (FD 3 d__law_take rfl).kp, b__law_take FD, FnG.zero⟩, ⟨G.gl__law_right, (FD 4 d__law_right rfl).kp, b__law_right FD, FnG.zero⟩, ⟨G.gl__law_pick, (FD 5 d__law_pick rfl).kp, b__law_pick FD, FnG.zero⟩, ⟨G.gl__law_bent, (FD 6 d__law_bent rfl).kp, b__law_bent FD, FnG.zero⟩, ⟨G.gc_Program, G.ob_Program, G.mk_Program, b_Program___init__ FD, FnG.zero⟩, ⟨G.gl__law_are_bad, (FD 8 d__law_are_bad rfl).kp, b__law_are_bad FD, FnG.zero⟩, ⟨G.gl__law_is_result, (FD 9 d__law_is_result rfl).kp, b__law_is_result FD, FnG.zero⟩, ⟨G.gl_are_bad, (FD 10 d_are_bad rfl).kp, b_are_bad FD, FnG.zero⟩, ⟨G.gl_is_result, (FD 11 d_is_result rfl).kp, b_is_result FD, FnG.zero⟩, ⟨G.gl__law_alike, (FD 12 d__law_alike rfl).kp, b__law_alike FD, FnG.zero⟩, ⟨G.gl__law_later, (FD 13 d__law_later rfl).kp, b__law_later FD, FnG.zero⟩, ⟨G.gl__law_in, (FD 14 d__law_in rfl).kp, b__law_in FD, FnG.zero⟩, ⟨G.gl_later, (FD 15 d_later rfl).kp, b_later FD, FnG.zero⟩, ⟨G.gl_within, (FD 16 d_within rfl).kp, b_within FD, FnG.zero⟩, ⟨G.gl_word_of, (FD 17 d_word_of rfl).kp, b_word_of FD, FnG.zero⟩, ⟨G.gl__law_odd, (FD 18 d__law_odd rfl).kp, b__law_odd FD, FnG.zero⟩, ⟨G.gl_are_inputs, (FD 19 d_are_inputs rfl).kp, b_are_inputs FD, FnG.zero⟩, ⟨G.gl_are_rows, (FD 20 d_are_rows rfl).kp, b_are_rows FD, FnG.zero⟩, ⟨G.gl_count, (FD 21 d_count rfl).kp, b_count FD, FnG.zero⟩, ⟨G.gl_depth, (FD 22 d_depth rfl).kp, b_depth FD, FnG.zero⟩, ⟨G.gl_walked, (FD 23 d_walked rfl).kp, b_walked FD, FnG.zero⟩, ⟨G.cl_Program, G.mt_Program_need_leaves, b_Program_need_leaves FD, FnG.zero⟩, ⟨G.cl_Program, G.mt_Program_need_names, b_Program_need_names FD, FnG.zero⟩, ⟨G.cl_Program, G.mt_Program_need_sight, b_Program_need_sight FD, FnG.zero⟩, ⟨G.cl_Program, G.mt_Program_need_trees, b_Program_need_trees FD, FnG.zero⟩, ⟨G.gl__law_is_name, (FD 28 d__law_is_name rfl).kp, b__law_is_name FD, FnG.zero⟩, ⟨G.gl__law_is_integer, (FD 29 d__law_is_integer rfl).kp, b__law_is_integer FD, FnG.zero⟩, ⟨G.gl_each_once, (FD 30 d_each_once rfl).kp, b_each_once FD, FnG.zero⟩, ⟨G.gl_is_name, (FD 31 d_is_name rfl).kp, b_is_name FD, FnG.zero⟩, ⟨G.gl_is_integer, (FD 32 d_is_integer rfl).kp, b_is_integer FD, FnG.zero⟩, ⟨G.gl__law_different, (FD 33 d__law_different rfl).kp, b__law_different FD, FnG.zero⟩, ⟨G.gl_all_within, (FD 34 d_all_within rfl).kp, b_all_within FD, FnG.zero⟩, ⟨G.gl_are_names, (FD 35 d_are_names rfl).kp, b_are_names FD, FnG.zero⟩, ⟨G.gc_Fans, G.ob_Fans, G.mk_Fans, b_Fans___init__ FD, FnG.zero⟩, ⟨G.cl_Program, G.mt_Program_names, b_Program_names FD, FnG.zero⟩, ⟨G.cl_Fans, G.mt_Fans_add, b_Fans_add FD, FnG.zero⟩⟩
theorem fnsS (G : Gs K mg) (FD : AllD K fds) {T : Nat → Fn} (Fs : Fns P w K mg base fds k T) : Fns P w K mg base fds (k + 1) (step T (He.ga K "Fans") (He.ga K "Program")) := ⟨⟨G.gl_law, (FD 0 d_law rfl).kp, b_law FD, ok_law G FD Fs⟩, ⟨G.gl__law_bag, (FD 1 d__law_bag rfl).kp, b__law_bag FD, ok__law_bag G FD Fs⟩, ⟨G.gl__law_result, (FD 2 d__law_result rfl).kp, b__law_result FD, ok__law_result G FD Fs⟩, ⟨G.gl__law_take, (FD 3 d__law_take rfl).kp, b__law_take FD, ok__law_take G FD Fs⟩, ⟨G.gl__law_right, (FD 4 d__law_right rfl).kp, b__law_right FD, ok__law_right G FD Fs⟩, ⟨G.gl__law_pick, (FD 5 d__law_pick rfl).kp, b__law_pick FD, ok__law_pick G FD Fs⟩, ⟨G.gl__law_bent, (FD 6 d__law_bent rfl).kp, b__law_bent FD, ok__law_bent G FD Fs⟩, ⟨G.gc_Program, G.ob_Program, G.mk_Program, b_Program___init__ FD, ok_Program___init__ G FD Fs⟩, ⟨G.gl__law_are_bad, (FD 8 d__law_are_bad rfl).kp, b__law_are_bad FD, ok__law_are_bad G FD Fs⟩, ⟨G.gl__law_is_result, (FD 9 d__law_is_result rfl).kp, b__law_is_result FD, ok__law_is_result G FD Fs⟩, ⟨G.gl_are_bad, (FD 10 d_are_bad rfl).kp, b_are_bad FD, ok_are_bad G FD Fs⟩, ⟨G.gl_is_result, (FD 11 d_is_result rfl).kp, b_is_result FD, ok_is_result G FD Fs⟩, ⟨G.gl__law_alike, (FD 12 d__law_alike rfl).kp, b__law_alike FD, ok__law_alike G FD Fs⟩, ⟨G.gl__law_later, (FD 13 d__law_later rfl).kp, b__law_later FD, ok__law_later G FD Fs⟩, ⟨G.gl__law_in, (FD 14 d__law_in rfl).kp, b__law_in FD, ok__law_in G FD Fs⟩, ⟨G.gl_later, (FD 15 d_later rfl).kp, b_later FD, ok_later G FD Fs⟩, ⟨G.gl_within, (FD 16 d_within rfl).kp, b_within FD, ok_within G FD Fs⟩, ⟨G.gl_word_of, (FD 17 d_word_of rfl).kp, b_word_of FD, ok_word_of G FD Fs⟩, ⟨G.gl__law_odd, (FD 18 d__law_odd rfl).kp, b__law_odd FD, ok__law_odd G FD Fs⟩, ⟨G.gl_are_inputs, (FD 19 d_are_inputs rfl).kp, b_are_inputs FD, ok_are_inputs G FD Fs⟩, ⟨G.gl_are_rows, (FD 20 d_are_rows rfl).kp, b_are_rows FD, ok_are_rows G FD Fs⟩, ⟨G.gl_count, (FD 21 d_count rfl).kp, b_count FD, ok_count G FD Fs⟩, ⟨G.gl_depth, (FD 22 d_depth rfl).kp, b_depth FD, ok_depth G FD Fs⟩, ⟨G.gl_walked, (FD 23 d_walked rfl).kp, b_walked FD, ok_walked G FD Fs⟩, ⟨G.cl_Program, G.mt_Program_need_leaves, b_Program_need_leaves FD, ok_Program_need_leaves G FD Fs⟩, ⟨G.cl_Program, G.mt_Program_need_names, b_Program_need_names FD, ok_Program_need_names G FD Fs⟩, ⟨G.cl_Program, G.mt_Program_need_sight, b_Program_need_sight FD, ok_Program_need_sight G FD Fs⟩, ⟨G.cl_Program, G.mt_Program_need_trees, b_Program_need_trees FD, ok_Program_need_trees G FD Fs⟩, ⟨G.gl__law_is_name, (FD 28 d__law_is_name rfl).kp, b__law_is_name FD, ok__law_is_name G FD Fs⟩, ⟨G.gl__law_is_integer, (FD 29 d__law_is_integer rfl).kp, b__law_is_integer FD, ok__law_is_integer G FD Fs⟩, ⟨G.gl_each_once, (FD 30 d_each_once rfl).kp, b_each_once FD, ok_each_once G FD Fs⟩, ⟨G.gl_is_name, (FD 31 d_is_name rfl).kp, b_is_name FD, ok_is_name G FD Fs⟩, ⟨G.gl_is_integer, (FD 32 d_is_integer rfl).kp, b_is_integer FD, ok_is_integer G FD Fs⟩, ⟨G.gl__law_different, (FD 33 d__law_different rfl).kp, b__law_different FD, ok__law_different G FD Fs⟩, ⟨G.gl_all_within, (FD 34 d_all_within rfl).kp, b_all_within FD, ok_all_within G FD Fs⟩, ⟨G.gl_are_names, (FD 35 d_are_names rfl).kp, b_are_names FD, ok_are_names G FD Fs⟩, ⟨G.gc_Fans, G.ob_Fans, G.mk_Fans, b_Fans___init__ FD, ok_Fans___init__ G FD Fs⟩, ⟨G.cl_Program, G.mt_Program_names, b_Program_names FD, ok_Program_names G FD Fs⟩, ⟨G.cl_Fans, G.mt_Fans_add, b_Fans_add FD, ok_Fans_add G FD Fs⟩⟩
theorem fns (G : Gs K mg) (FD : AllD K fds) : ∀ k, Fns P w K mg base fds k (tab (He.ga K "Fans") (He.ga K "Program") k)
  | 0 => fns0 G FD
  | k + 1 => fnsS G FD (fns G FD k)
end
end K24

set_option Elab.async false
set_option linter.all false
set_option maxRecDepth 100000
set_option maxHeartbeats 0
namespace K24
open PySem PySem.Spec PyProof.Rows L2 Dy
abbrev RH : PySem.W.OpenRow := PySem.W.OpenLaw.row PySem.Challenge.rw_movedchecks_k24_results
def ads : List Addr := [1, 3, 6, 4, 21, 28, 33, 38, 43, 48, 53, 58, 65, 72, 79, 84, 94, 116, 137, 158, 179, 200, 221, 242, 263, 284, 293, 300, 305, 312, 319, 324, 329, 334, 341, 346, 351, 356, 361, 368, 375, 380, 385, 392, 452, 463, 622, 631, 638, 645, 652, 659, 666, 671, 676, 681, 686, 691, 698, 705, 710, 717, 722, 0, 20, 27, 32, 37, 42, 47, 52, 57, 64, 71, 78, 83, 93, 115, 136, 157, 178, 199, 220, 241, 262, 283, 292, 299, 304, 311, 318, 323, 328, 333, 340, 345, 350, 355, 360, 367, 374, 379, 384, 391, 451, 462, 621, 630, 637, 644, 651, 658, 665, 670, 675, 680, 685, 690, 697, 704, 709, 716, 721, 15, 16, 17, 18, 19, 22, 23, 24, 25, 26, 29, 30, 31, 34, 35, 36, 39, 40, 41, 44, 45, 46, 49, 50, 51, 54, 55, 56, 59, 60, 61, 62, 63, 66, 67, 68, 69, 70, 73, 74, 75, 76, 77, 80, 81, 82, 92, 95, 113, 114, 134, 135, 155, 156, 176, 177, 197, 198, 218, 219, 239, 240, 260, 261, 281, 282, 287, 288, 289, 290, 291, 294, 295, 296, 297, 298, 301, 302, 303, 306, 307, 308, 309, 310, 313, 314, 315, 316, 317, 320, 321, 322, 325, 326, 327, 330, 331, 332, 335, 336, 337, 338, 339, 342, 343, 344, 347, 348, 349, 352, 353, 354, 357, 358, 359, 362, 363, 364, 365, 366, 369, 370, 371, 372, 373, 376, 377, 378, 381, 382, 383, 386, 387, 388, 389, 390, 404, 411, 418, 425, 430, 435, 442, 449, 450, 453, 454, 457, 458, 459, 460, 461, 475, 482, 489, 494, 501, 509, 516, 523, 530, 537, 544, 551, 556, 563, 570, 577, 584, 591, 598, 605, 612, 619, 620, 623, 624, 627, 628, 629, 632, 633, 634, 635, 636, 639, 640, 641, 642, 643, 646, 647, 648, 649, 650, 653, 654, 655, 656, 657, 660, 661, 662, 663, 664, 667, 668, 669, 672, 673, 674, 677, 678, 679, 682, 683, 684, 687, 688, 689, 692, 693, 694, 695, 696, 699, 700, 701, 702, 703, 706, 707, 708, 711, 712, 713, 714, 715, 718, 719, 720, 112, 101, 133, 122, 154, 143, 175, 164, 196, 185, 217, 206, 238, 227, 259, 248, 280, 269, 403, 410, 417, 424, 429, 434, 441, 448, 474, 481, 488, 493, 500, 508, 515, 522, 529, 536, 543, 550, 555, 562, 569, 576, 583, 590, 597, 604, 611, 618, 107, 108, 109, 110, 111, 128, 129, 130, 131, 132, 149, 150, 151, 152, 153, 170, 171, 172, 173, 174, 191, 192, 193, 194, 195, 212, 213, 214, 215, 216, 233, 234, 235, 236, 237, 254, 255, 256, 257, 258, 275, 276, 277, 278, 279, 400, 401, 402, 405, 406, 407, 408, 409, 412, 413, 414, 415, 416, 419, 420, 421, 422, 423, 426, 427, 428, 431, 432, 433, 436, 437, 438, 439, 440, 443, 444, 445, 446, 447, 471, 472, 473, 476, 477, 478, 479, 480, 483, 484, 485, 486, 487, 490, 491, 492, 495, 496, 497, 498, 499, 507, 510, 511, 512, 513, 514, 517, 518, 519, 520, 521, 524, 525, 526, 527, 528, 531, 532, 533, 534, 535, 538, 539, 540, 541, 542, 545, 546, 547, 548, 549, 552, 553, 554, 557, 558, 559, 560, 561, 564, 565, 566, 567, 568, 571, 572, 573, 574, 575, 578, 579, 580, 581, 582, 585, 586, 587, 588, 589, 592, 593, 594, 595, 596, 599, 600, 601, 602, 603, 606, 607, 608, 609, 610, 613, 614, 615, 616, 617]
abbrev hk : PySem.W.Hook := hookY ads chk fn
def ob (s : PySem.W.SharedT) : He.AlD := obsY ads chk fn (HandSHeadRun.getT s)
theorem ob_eq (s : PySem.W.SharedT) : ob s = hk.obs s.abs := obsY_eq (HandSHeadRun.getT_eq s)
theorem run0 (w : PySem.World) (os : PySem.OsState) : EndA RH 8000 w os (fun s => HandSHeadRun.looksF RH.prog (PySem.W.boot_heap w.params) s.abs) = some true := by
  kernel_rfl
theorem run1 (w : PySem.World) (os : PySem.OsState) : EndA RH 8000 w os (fun s => HandSHeadRun.seenQ (PySem.W.view RH.prog [75]) loose (PySem.importedModules RH.prog.main.body) (fun s => PySem.W.xlAt (PySem.W.view RH.prog [75]) [] s && PySem.W.recOk RH.toRowW.records s) s.abs) = some (PySem.W.openGood (PySem.W.view RH.prog [75]) loose) := by
  kernel_rfl
theorem run2 (w : PySem.World) (os : PySem.OsState) : EndA RH 8000 w os (fun s => chk (fragT ads s)) = some true := by
  kernel_rfl
theorem run3 (w : PySem.World) (os : PySem.OsState) : EndA RH 8000 w os (fun s => (fn.all fun d => d.ok (fragT ads s), fn.map fun d => He.fnW (fragT ads s) d.at_)) = some (true, fn.map He.DefD.val) := by
  kernel_rfl
theorem run (w : PySem.World) : HandSHeadRun.RunEq RH (PySem.W.view RH.prog [75]) hk ob 8000 loose w := run_parts (r := RH) (q := (PySem.W.view RH.prog [75])) (M := 8000) (as := ads) (loose := loose) (chk := chk) (fn := fn) (w := w) (run0 w) (run1 w) (run2 w) (run3 w)
end K24

set_option Elab.async false
set_option linter.all false
set_option maxRecDepth 100000
set_option maxHeartbeats 4000000
namespace K24
open PySem L2 Dy
section
variable (aF aP : Addr)
def pl : D → Bool
  | .ins .. => false
  | .scr _ => false
  | _ => true
def intB : D → Bool
  | .int _ => true
  | _ => false
theorem is_integer_ok (k : Nat) (d : D) (M : MS) (h : pl d = true) : tab aF aP (k + 1) i_is_integer [.dt d] M = some (.sv (.dt (.bl (intB d))), M) := by
  show runBody (m_is_integer (tab aF aP k) aF aP) 1 [.dt d] M = _
  rw [runBody_eq]
  unfold m_is_integer
  cases d <;> first | (cases h; done) | (simp [eVar, isiS, tyS, isi1, intB])
theorem law_is_integer_ok (k : Nat) (d : D) (M : MS) (h : pl d = true) : tab aF aP (k + 1) i__law_is_integer [.dt d] M = some (.sv (.dt (.bl (intB d))), M) := is_integer_ok aF aP k d M h
def letters : List Nat := (Str.ofString "abcdefghijklmnopqrstuvwxyz").cps.toList
def inL : D → Bool
  | .str ⟨z⟩ => match z.toList with
    | [c] => decide (c ∈ letters)
    | _ => false
  | _ => false
def nameB : D → Bool
  | .str z => decide (1 ≤ z.length) && (decide (z.length ≤ 8) && (Dy.signs z).all inL)
  | _ => false
def strFit : D → Prop
  | .str z => okS z = true ∧ z.length ≤ 16777216
  | _ => True
theorem gIn_letters {M : MS} {z : Str} {d : D} (hd : d ∈ Dy.signs z) : gIn M (.dt d) (.dt (.str (Str.ofString "abcdefghijklmnopqrstuvwxyz"))) = some (.sv (.dt (.bl (inL d)))) := by
  unfold Dy.signs at hd
  rw [List.mem_map] at hd
  obtain ⟨c, _, rfl⟩ := hd
  rfl
theorem gNotIn_letters {M : MS} {z : Str} {d : D} (hd : d ∈ Dy.signs z) : gNotIn M (.dt d) (.dt (.str (Str.ofString "abcdefghijklmnopqrstuvwxyz"))) = some (.sv (.dt (.bl (!inL d)))) := by
  unfold Dy.signs at hd
  rw [List.mem_map] at hd
  obtain ⟨c, _, rfl⟩ := hd
  rfl
theorem signs_flat {z : Str} (h : okS z = true) : ∀ d ∈ Dy.signs z, Dy.flatB d = true ∧ dep d = 0 := fun d hd => by
  unfold Dy.signs at hd
  rw [List.mem_map] at hd
  obtain ⟨c, hc, rfl⟩ := hd
  unfold okS at h
  rw [← Array.all_toList] at h
  have := List.all_eq_true.mp h c hc
  exact ⟨by simp only [Dy.flatB, okS]; simpa using this, rfl⟩
theorem is_name_ok (k : Nat) (d : D) (M : MS) (h : pl d = true) (hs : strFit d) : tab aF aP (k + 1) i_is_name [.dt d] M = some (.sv (.dt (.bl (nameB d))), M) := by
  show runBody (m_is_name (tab aF aP k) aF aP) 2 [.dt d] M = _
  rw [runBody_eq]
  unfold m_is_name
  cases d with
  | str z =>
    obtain ⟨h1, h2⟩ := hs
    by_cases h3 : 1 ≤ z.length
    · by_cases h4 : z.length ≤ 8
      · have e3 : (1 : Int) ≤ (z.length : Int) := by omega
        have e4 : (z.length : Int) ≤ 8 := by omega
        have c := comp_str (m := eVar 0) (c := cYes) (el := eBin gIn (eVar 1) (eC (.str (Str.ofString "abcdefghijklmnopqrstuvwxyz")))) (j := 1) (ρ := [some (.dt (.str z)), none]) (M := M) (r := .sv (.dt (.str z))) (z := z) (fun _ => true) (fun d => .bl (inL d)) rfl rfl h2
          (fun d hd => ⟨rfl, fun _ => ⟨_, by simp [eVar, gIn_letters hd]; rfl, rfl⟩⟩)
        rw [List.filter_eq_self.mpr (fun _ _ => rfl)] at c
        simp [eVar, isiS, tyS, isi1, lenS, h2, e3, e4, c, all_ev, nameB, h3, h4]
      · have e3 : (1 : Int) ≤ (z.length : Int) := by omega
        have e4 : ¬ (z.length : Int) ≤ 8 := by omega
        simp [eVar, isiS, tyS, isi1, lenS, h2, e3, e4, nameB, h3, h4]
    · have e3 : ¬ (1 : Int) ≤ (z.length : Int) := by omega
      simp [eVar, isiS, tyS, isi1, lenS, h2, e3, nameB, h3]
  | ins C ns vs => cases h
  | scr ns => cases h
  | _ => simp [eVar, isiS, tyS, isi1, nameB]
theorem isEmpty_filter_not (p : D → Bool) (ds : List D) : (ds.filter fun d => !p d).isEmpty = ds.all p := by
  induction ds with
  | nil => rfl
  | cons d r ih =>
    by_cases h : p d = true
    · rw [List.filter_cons_of_neg (by simp [h]), ih, List.all_cons, h]
      rfl
    · rw [List.filter_cons_of_pos (by simp [h]), List.all_cons]
      simp [h]
theorem law_is_name_ok (k : Nat) (d : D) (M : MS) (h : pl d = true) (hs : strFit d) : tab aF aP (k + 1) i__law_is_name [.dt d] M = some (.sv (.dt (.bl (nameB d))), M) := by
  show runBody (m__law_is_name (tab aF aP k) aF aP) 2 [.dt d] M = _
  rw [runBody_eq]
  unfold m__law_is_name
  cases d with
  | str z =>
    obtain ⟨h1, h2⟩ := hs
    by_cases h3 : 1 ≤ z.length
    · by_cases h4 : z.length ≤ 8
      · have e3 : (1 : Int) ≤ (z.length : Int) := by omega
        have e4 : (z.length : Int) ≤ 8 := by omega
        have c := comp_str (m := eVar 0) (c := eBool (eBin gNotIn (eVar 1) (eC (.str (Str.ofString "abcdefghijklmnopqrstuvwxyz"))))) (el := eVar 1) (j := 1) (ρ := [some (.dt (.str z)), none]) (M := M) (r := .sv (.dt (.str z))) (z := z) (fun d => !inL d) (fun d => d) rfl rfl h2
          (fun d hd => ⟨by simp [eVar, gNotIn_letters hd], fun _ => ⟨_, rfl, rfl⟩⟩)
        have e := eq_nil (ds := ((Dy.signs z).filter fun d => !inL d).map fun d => d) M (flatL_of fun d hd => by simp at hd; exact (signs_flat h1 d hd.1).1) (depL_of fun d hd => by simp at hd; rw [(signs_flat h1 d hd.1).2]; omega)
        have e5 : (((Dy.signs z).filter fun d => !inL d).map fun d => d).isEmpty = (Dy.signs z).all inL := by rw [List.map_id', isEmpty_filter_not]
        rw [e5] at e
        simp [eVar, isiS, tyS, isi1, lenS, h2, e3, e4, c, nameB, h3, h4] at e ⊢
        simp [e]
      · have e3 : (1 : Int) ≤ (z.length : Int) := by omega
        have e4 : ¬ (z.length : Int) ≤ 8 := by omega
        simp [eVar, isiS, tyS, isi1, lenS, h2, e3, e4, nameB, h3, h4]
    · have e3 : ¬ (1 : Int) ≤ (z.length : Int) := by omega
      simp [eVar, isiS, tyS, isi1, lenS, h2, e3, nameB, h3]
  | ins C ns vs => cases h
  | scr ns => cases h
  | _ => simp [eVar, isiS, tyS, isi1, nameB]
structure El (x : D) : Prop where
  p : pl x = true
  s : strFit x
  f : Dy.flatB x = true
  d : dep x ≤ 60
def nnB : D → Bool
  | .int i => decide (0 ≤ i)
  | _ => false
theorem neg_dec (i : Int) : decide (i < 0) = !decide (0 ≤ i) := by
  by_cases h : 0 ≤ i
  · have : ¬ i < 0 := by omega
    simp [h, this]
  · have : i < 0 := by omega
    simp [h, this]
structure Sq (d : D) : Prop where
  p : pl d = true
  l : ∀ xs, d = .lst xs ∨ d = .tup xs → xs.length ≤ 16777216 ∧ ∀ x ∈ xs, El x
def namesB (most : Int) : D → Bool
  | .lst xs => !decide (most < xs.length) && xs.all nameB
  | .tup xs => !decide (most < xs.length) && xs.all nameB
  | _ => false
theorem are_names_ok (k : Nat) (d : D) (most : Int) (M : MS) (h : Sq d) : tab aF aP (k + 2) i_are_names [.dt d, .dt (.int most)] M = some (.sv (.dt (.bl (namesB most d))), M) := by
  show runBody (m_are_names (tab aF aP (k + 1)) aF aP) 3 [.dt d, .dt (.int most)] M = _
  rw [runBody_eq]
  unfold m_are_names
  have key : ∀ xs, (∀ x ∈ xs, El x) → xs.length ≤ 16777216 → ∀ s, s = D.lst xs ∨ s = D.tup xs → eComp (eSeq (eVar 0)) (bName 2) cYes (eFn (tab aF aP (k + 1) i_is_name) (eCons (eVar 2) eNil)) [2] [some (.dt s), some (.dt (.int most)), none] M = some (.fr (xs.map fun d => .bl (nameB d)), M) := fun xs hx hl s hs => by
    have c := comp_lst (m := eVar 0) (c := cYes) (el := eFn (tab aF aP (k + 1) i_is_name) (eCons (eVar 2) eNil)) (j := 2) (ρ := [some (.dt s), some (.dt (.int most)), none]) (M := M) (r := .sv (.dt s)) (ds := xs) (fun _ => true) (fun d => .bl (nameB d)) rfl (by rcases hs with rfl | rfl; exact .inl rfl; exact .inr rfl) hl
      (fun d hd => ⟨rfl, fun _ => by
        have e := is_name_ok aF aP k d M (hx d hd).p (hx d hd).s
        exact ⟨_, by simp [eVar, e]; rfl, rfl⟩⟩)
    rw [List.filter_eq_self.mpr (fun _ _ => rfl)] at c
    exact c
  cases d with
  | lst xs =>
    obtain ⟨hl, hx⟩ := h.l xs (.inl rfl)
    have c := key xs hx hl _ (.inl rfl)
    by_cases h2 : most < (xs.length : Int)
    · simp [eVar, isiS, tyS, isi1, lenS, h2, namesB]
    · simp [eVar, isiS, tyS, isi1, lenS, h2, namesB, c, all_ev]
  | tup xs =>
    obtain ⟨hl, hx⟩ := h.l xs (.inr rfl)
    have c := key xs hx hl _ (.inr rfl)
    by_cases h2 : most < (xs.length : Int)
    · simp [eVar, isiS, tyS, isi1, lenS, h2, namesB]
    · simp [eVar, isiS, tyS, isi1, lenS, h2, namesB, c, all_ev]
  | ins C ns vs => cases h.p
  | scr ns => cases h.p
  | _ => simp [eVar, isiS, tyS, isi1, namesB]
theorem take_tab (k : Nat) {B : MO} {R : MS} {n : Int} (hB : BagO B) (hn : 0 < n) (hn2 : n < 1073741824) :
    ∃ r B', tab aF aP (k + 1) i__law_take [.mu 0, .dt (.int n)] (B :: R) = some (.sv (.dt (.int r)), B' :: R) ∧ BagO B' ∧ 0 ≤ r ∧ r < n := take_ok hB hn hn2
def strFitB : D → Bool
  | .str z => okS z && decide (z.length ≤ 16777216)
  | _ => true
def elB (x : D) : Bool := pl x && (strFitB x && (Dy.flatB x && decide (dep x ≤ 60)))
def itemsB : D → List D
  | .lst xs => xs
  | .tup xs => xs
  | _ => []
def tupLen : D → Nat
  | .tup xs => xs.length
  | _ => 0
theorem strFit_of {d : D} (h : strFitB d = true) : strFit d := by
  cases d with
  | str z =>
    unfold strFitB at h
    rw [Bool.and_eq_true] at h
    exact ⟨h.1, of_decide_eq_true h.2⟩
  | _ => trivial
theorem El.of {x : D} (h : elB x = true) : El x := by
  unfold elB at h
  simp only [Bool.and_eq_true] at h
  exact ⟨h.1, strFit_of h.2.1, h.2.2.1, of_decide_eq_true h.2.2.2⟩
def odds : List D := [.non, .bl true, .bl false, .int 0, .int 1, .int (-1), .int (10 ^ 40), .str (Str.ofString ""), .str (Str.ofString "ab"), .str (Txt.upper (Str.ofString "ab")), .str (Str.ofString "ab" ++ Str.ofString "_"),
  .str (Str.ofString "abcdefghi"), .str (Str.ofString "a b"), .str (Str.ofString "a1")] ++ [.tup [], .lst [], .dct [] [], .tup [.str (Str.ofString "ab")], .lst [.str (Str.ofString "ab")], .dct [.inr (Str.ofString "ab")] [.int 0], .tup [.int 0], .lst [.int 0], .tup [.bl true], .tup [.int (-1)], .tup [.int 0, .int 1], .str (Str.ofString "yes"), .tup [.str (Str.ofString "yes")]]
theorem odd_ok (k : Nat) {B : MO} {R : MS} (hB : BagO B) : ∃ d B', tab aF aP (k + 2) i__law_odd [.mu 0, .dt (.str (Str.ofString "ab"))] (B :: R) = some (.sv (.dt d), B' :: R) ∧ d ∈ odds ∧ BagO B' := by
  show ∃ d B', runBody (m__law_odd (tab aF aP (k + 1)) aF aP) 3 [.mu 0, .dt (.str (Str.ofString "ab"))] (B :: R) = _ ∧ _
  obtain ⟨r, B1, e1, hB1, h0, h1⟩ := take_tab aF aP k (R := R) hB (n := 27) (by decide) (by decide)
  obtain ⟨d, hd, e2, _⟩ := gIx_lst (M := B1 :: R) (ds := odds) h0 (by simpa [odds] using h1)
  refine ⟨d, B1, ?_, hd, hB1⟩
  rw [runBody_eq]
  unfold m__law_odd
  have l1 : (Str.ofString "ab").length = 2 := by decide +kernel
  have l2 : (Str.ofString "_").length = 1 := by decide +kernel
  simp [odds] at e2
  simp [eVar, gPow, int2, isTyS, gUpper, gAdd, l1, l2, eDict0, eDict1, keyD, lenS, e1, e2]

theorem sq_nil : Sq (.lst []) := ⟨rfl, fun xs h => by
  rcases h with h | h
  · cases h; exact ⟨by simp, by simp⟩
  · cases h⟩
theorem are_inputs_nil (k : Nat) (M : MS) : tab aF aP (k + 3) i_are_inputs [.dt (.lst [])] M = some (.sv (.dt (.bl true)), M) := by
  show runBody (m_are_inputs (tab aF aP (k + 2)) aF aP) 1 [.dt (.lst [])] M = _
  rw [runBody_eq]
  unfold m_are_inputs
  have e := are_names_ok aF aP k (.lst []) 4 M sq_nil
  have e2 : lenSetS M (.dt (.lst [])) = some (.int 0) := rfl
  have e3 : namesB 4 (.lst []) = true := rfl
  simp [eVar, e, e3, eLenSet, e2, lenS]
theorem comp_nil {m : EM R} {b : Bnd} {c : EM Bool} {el : EM R} {vs : List Nat} {ρ : Dy.Env} {M : MS} {r : R} (hm : m ρ M = some (r, M)) (hr : r.toSV = .dt (.lst []) ∨ r.toSV = .dt (.tup [])) : eComp (eSeq m) b c el vs ρ M = some (.fr [], M) := by
  unfold eComp
  rw [eSeq_ev, hm]
  rcases hr with hr | hr <;> simp [hr, seqSrc, compGo]
theorem are_rows_nil (k : Nat) (M : MS) : tab aF aP (k + 1) i_are_rows [.dt (.lst [])] M = some (.sv (.dt (.bl true)), M) := by
  show runBody (m_are_rows (tab aF aP k) aF aP) 2 [.dt (.lst [])] M = _
  rw [runBody_eq]
  unfold m_are_rows
  have e := comp_nil (m := eVar 0) (b := bName 1) (c := cYes) (el := eNo) (vs := [1]) (ρ := [some (.dt (.lst [])), none]) (M := M) (r := .sv (.dt (.lst []))) rfl (.inl rfl)
  simp [eVar, isiS, tyS, isi1, e, allS, dBools, rB]
theorem count_nil (k : Nat) (M : MS) : tab aF aP (k + 1) i_count [.dt (.lst [])] M = some (.sv (.dt (.int 0)), M) := by
  show runBody (m_count (tab aF aP k) aF aP) 3 [.dt (.lst [])] M = _
  rw [runBody_eq]
  unfold m_count
  simp [eVar, lenS, eComp20, seqSrc, sumS, dInts]
theorem depth_nil (k : Nat) (M : MS) : tab aF aP (k + 1) i_depth [.dt (.lst [])] M = some (.sv (.dt (.int 1)), M) := by
  show runBody (m_depth (tab aF aP k) aF aP) 3 [.dt (.lst [])] M = _
  rw [runBody_eq]
  unfold m_depth
  simp [eVar, eComp20, seqSrc, eMax0]
theorem walked_nil (k : Nat) (M : MS) : tab aF aP (k + 1) i_walked [.dt (.tup []), .dt (.tup [])] M = some (.fr [], M) := by
  show runBody (m_walked (tab aF aP k) aF aP) 7 [.dt (.tup []), .dt (.tup [])] M = _
  rw [runBody_eq]
  unfold m_walked
  simp [eVar, sNew, sFor, eEnum, enumT, forGo, close]

theorem set_last {α : Type} (M : List α) (x y : α) : (M ++ [x]).set M.length y = M ++ [y] := by
  induction M with
  | nil => rfl
  | cons a M ih => simp [ih]
theorem take_last {α : Type} (M : List α) (x : α) : (M ++ [x]).take (M.length + 1) = M ++ [x] := List.take_of_length_le (by simp)
theorem set_last1 {α : Type} (M : List α) (x y z : α) : (M ++ [x, z]).set M.length y = M ++ [y, z] := by
  induction M with
  | nil => rfl
  | cons a M ih => simp [ih]
def fldNs : List Str := [Str.ofString "kept_inputs", Str.ofString "kept_rows", Str.ofString "kept_at", Str.ofString "kept_makers", Str.ofString "kept_ways", Str.ofString "kept_forks"]
def fldDs : List D := [.tup [], .tup [], .dct [] [], .dct [] [], .dct [] [], .lst []]
theorem look_at : lookF (Str.ofString "kept_at") fldNs fldDs = some (.dct [] []) := by rfl
theorem look_makers : lookF (Str.ofString "kept_makers") fldNs fldDs = some (.dct [] []) := by rfl
theorem look_inputs : lookF (Str.ofString "kept_inputs") fldNs fldDs = some (.tup []) := by rfl
theorem look_rows : lookF (Str.ofString "kept_rows") fldNs fldDs = some (.tup []) := by rfl
section
variable {ρ : Dy.Env} {M : MS}
theorem muI_of {j : Nat} {C : Addr} {ns : List Str} {ds : List D} (h : M[j]? = some (.i C ns ds)) : muI M (.mu j) = some (j, C, ns, ds) := by
  unfold muI
  simp only [h]
theorem fldS_of {j : Nat} {C : Addr} {f : Str} {ns : List Str} {ds : List D} {d : D} (h : M[j]? = some (.i C ns ds)) (hd : lookF f ns ds = some d) : fldS C f M (.mu j) = some d := by
  unfold fldS
  rw [muI_of h]
  simp [hd]
@[simp] theorem eFld_ev (C : Addr) (f : Str) (m : EM R) : eFld C f m ρ M = (m ρ M).bind fun p => (fldS C f p.2 p.1.toSV).bind fun d => some (.sv (.dt d), p.2) := by
  unfold eFld
  rw [seq_ev, fz_ev]
  cases m ρ M with
  | none => rfl
  | some p =>
    simp only [Option.bind_some]
    cases fldS C f p.2 p.1.toSV <;> rfl
@[simp] theorem eMeth_ev (C : Addr) (mn : Str) (g : Fn) (mo : EM R) (ms : EM (List SV)) : eMeth C mn g mo ms ρ M = (mo ρ M).bind fun p => (muI p.2 p.1.toSV).bind fun q => if q.2.1 = C ∧ q.2.2.1.contains mn = false then ((ms ρ p.2).bind fun z => g (p.1.toSV :: z.1) z.2) else none := by
  unfold eMeth
  rw [seq_ev, fz_ev]
  cases mo ρ M with
  | none => rfl
  | some p =>
    simp only [Option.bind_some]
    cases muI p.2 p.1.toSV with
    | none => rfl
    | some q =>
      obtain ⟨a, b, c, d⟩ := q
      simp only [Option.bind_some]
      split
      · rw [seq_ev]
      · rfl
@[simp] theorem sFldPut_ev (C : Addr) (f : Str) (mo me : EM R) : sFldPut C f mo me ρ M = (me ρ M).bind fun p => (dOf p.1.toSV).bind fun d => (mo ρ p.2).bind fun q => (putFld C f q.2 q.1.toSV d).bind fun M3 => some (.nx ρ M3) := by
  unfold sFldPut
  rw [fz_ev]
  cases me ρ M with
  | none => rfl
  | some p =>
    simp only [Option.bind_some]
    cases p.1.toSV with
    | mu k => rfl
    | dt d =>
      simp only [dOf, Option.bind_some, fz_ev]
      cases mo ρ p.2 with
      | none => rfl
      | some q =>
        simp only [Option.bind_some]
        cases putFld C f q.2 q.1.toSV d <;> rfl
end
theorem leaves_nil (k : Nat) (M : MS) (j : Nat) (h : M[j]? = some (.i aP fldNs fldDs)) : tab aF aP (k + 1) i_Program_need_leaves [.mu j] M = some (.sv (.dt .non), M) := by
  show runBody (m_Program_need_leaves (tab aF aP k) aF aP) 3 [.mu j] M = _
  rw [runBody_eq]
  unfold m_Program_need_leaves
  simp [eVar, sForFld0, fldS_of h look_at]
theorem sight_nil (k : Nat) (M : MS) (j : Nat) (h : M[j]? = some (.i aP fldNs fldDs)) : tab aF aP (k + 1) i_Program_need_sight [.mu j] M = some (.sv (.dt .non), M) := by
  show runBody (m_Program_need_sight (tab aF aP k) aF aP) 9 [.mu j] M = _
  rw [runBody_eq]
  unfold m_Program_need_sight
  simp [eVar, sForFld0, fldS_of h look_at]
theorem getM {M : MS} {j : Nat} {o : MO} (h : M[j]? = some o) (x : MO) : (M ++ [x])[j]? = some o := by
  have := (List.getElem?_eq_some_iff.mp h).1
  rw [List.getElem?_append_left this]
  exact h
theorem neednames_nil (k : Nat) (M : MS) (j : Nat) (h : M[j]? = some (.i aP fldNs fldDs)) : tab aF aP (k + 1) i_Program_need_names [.mu j] M = some (.sv (.dt .non), M) := by
  show runBody (m_Program_need_names (tab aF aP k) aF aP) 5 [.mu j] M = _
  rw [runBody_eq]
  unfold m_Program_need_names
  have e := ne_nil_mu (M := M ++ [.l []]) (k := M.length) (ds := []) (by simp) rfl (by decide)
  simp [eVar, sNew, sForFld0, fldS_of (getM h _) look_at] at e ⊢
  simp [e]
theorem names_nil (k : Nat) (M : MS) (j : Nat) (h : M[j]? = some (.i aP fldNs fldDs)) : tab aF aP (k + 1) i_Program_names [.mu j] M = some (.fr [], M) := by
  show runBody (m_Program_names (tab aF aP k) aF aP) 1 [.mu j] M = _
  rw [runBody_eq]
  unfold m_Program_names
  simp [eVar, fldS_of h look_makers, sorted0S, listD, Dy.listOf]

theorem add_nil (k : Nat) (M : MS) (s : SV) : tab aF aP (k + 1) i_Fans_add [s, .dt (.tup [])] M = some (.sv (.dt .non), M) := by
  show runBody (m_Fans_add (tab aF aP k) aF aP) 8 [s, .dt (.tup [])] M = _
  rw [runBody_eq]
  unfold m_Fans_add
  simp [eVar, sFor, seqSrc, forGo]
def fanNs : List Str := [Str.ofString "nodes", Str.ofString "numbers", Str.ofString "makings", Str.ofString "rank", Str.ofString "node_of"]
def fanDs : List D := [.lst [], .dct [] [], .dct [] [], .int 0, .dct [] []]
theorem fans_nil (k : Nat) (M : MS) : tab aF aP (k + 2) i_Fans___init__ [.mu M.length, .dt (.tup []), .dt (.tup [])] (M ++ [.i aF [] []]) = some (.sv (.dt .non), M ++ [.i aF fanNs fanDs]) := by
  show runBody (m_Fans___init__ (tab aF aP (k + 1)) aF aP) 4 [.mu M.length, .dt (.tup []), .dt (.tup [])] (M ++ [.i aF [] []]) = _
  rw [runBody_eq]
  unfold m_Fans___init__ fanNs fanDs
  have n1 : ¬ Str.ofString "nodes" = Str.ofString "numbers" := by decide +kernel
  have n2 : ¬ Str.ofString "nodes" = Str.ofString "makings" := by decide +kernel
  have n3 : ¬ Str.ofString "nodes" = Str.ofString "rank" := by decide +kernel
  have n4 : ¬ Str.ofString "nodes" = Str.ofString "node_of" := by decide +kernel
  have n5 : ¬ Str.ofString "numbers" = Str.ofString "makings" := by decide +kernel
  have n6 : ¬ Str.ofString "numbers" = Str.ofString "rank" := by decide +kernel
  have n7 : ¬ Str.ofString "numbers" = Str.ofString "node_of" := by decide +kernel
  have n8 : ¬ Str.ofString "makings" = Str.ofString "rank" := by decide +kernel
  have n9 : ¬ Str.ofString "makings" = Str.ofString "node_of" := by decide +kernel
  have n10 : ¬ Str.ofString "rank" = Str.ofString "node_of" := by decide +kernel
  have m1 : ¬ Str.ofString "add" = Str.ofString "nodes" := by decide +kernel
  have m2 : ¬ Str.ofString "add" = Str.ofString "numbers" := by decide +kernel
  have m3 : ¬ Str.ofString "add" = Str.ofString "makings" := by decide +kernel
  have m4 : ¬ Str.ofString "add" = Str.ofString "rank" := by decide +kernel
  have m5 : ¬ Str.ofString "add" = Str.ofString "node_of" := by decide +kernel
  simp [eVar, sFlds, fsCons, fsNil, eDict0, putFld, muI, set_last, putN, eDcE, seqSrc, dOf, add_nil, n1, n2, n3, n4, n5, n6, n7, n8, n9, n10, m1, m2, m3, m4, m5, take_last]
theorem trees_nil (k : Nat) (M : MS) (j : Nat) (h : M[j]? = some (.i aP fldNs fldDs)) : tab aF aP (k + 3) i_Program_need_trees [.mu j] M = some (.sv (.dt .non), M) := by
  show runBody (m_Program_need_trees (tab aF aP (k + 2)) aF aP) 3 [.mu j] M = _
  rw [runBody_eq]
  unfold m_Program_need_trees
  have e := fans_nil aF aP k M
  have en := names_nil aF aP (k + 1) M j h
  have hc : ¬ Str.ofString "names" ∈ fldNs := by decide +kernel
  simp [eVar, eMake, fldS_of h look_inputs, fldS_of h look_rows, e, sFor, muI_of h, en, hc, seqSrc, forGo]
theorem init_nil (k : Nat) (M : MS) : tab aF aP (k + 4) i_Program___init__ [.mu M.length, .dt (.lst []), .dt (.lst [])] (M ++ [.i aP [] []]) = some (.sv (.dt .non), M ++ [.i aP fldNs fldDs]) := by
  show runBody (m_Program___init__ (tab aF aP (k + 3)) aF aP) 4 [.mu M.length, .dt (.lst []), .dt (.lst [])] (M ++ [.i aP [] []]) = _
  rw [runBody_eq]
  unfold m_Program___init__
  have e1 := are_inputs_nil aF aP k
  have e2 := are_rows_nil aF aP (k + 2)
  have e3 := count_nil aF aP (k + 2)
  have e4 := depth_nil aF aP (k + 2)
  have e5 := walked_nil aF aP (k + 2)
  have e6 := comp_nil (m := eVar 2) (b := bName 3) (c := cYes) (el := eNo) (vs := [3]) (ρ := [some (.mu M.length), some (.dt (.lst [])), some (.dt (.lst [])), none]) (M := M ++ [.i aP [Str.ofString "kept_inputs"] [.tup []]]) (r := .sv (.dt (.lst []))) rfl (.inl rfl)
  have f1 := leaves_nil aF aP (k + 2) (M ++ [.i aP fldNs fldDs]) M.length (by simp)
  have f2 := neednames_nil aF aP (k + 2) (M ++ [.i aP fldNs fldDs]) M.length (by simp)
  have f3 := sight_nil aF aP (k + 2) (M ++ [.i aP fldNs fldDs]) M.length (by simp)
  have f4 := trees_nil aF aP k (M ++ [.i aP fldNs fldDs]) M.length (by simp)
  have c1 : ¬ Str.ofString "need_leaves" ∈ fldNs := by decide +kernel
  have c2 : ¬ Str.ofString "need_names" ∈ fldNs := by decide +kernel
  have c3 : ¬ Str.ofString "need_sight" ∈ fldNs := by decide +kernel
  have c4 : ¬ Str.ofString "need_trees" ∈ fldNs := by decide +kernel
  have n1 : ¬ Str.ofString "kept_inputs" = Str.ofString "kept_rows" := by decide +kernel
  have n2 : ¬ Str.ofString "kept_inputs" = Str.ofString "kept_at" := by decide +kernel
  have n3 : ¬ Str.ofString "kept_inputs" = Str.ofString "kept_makers" := by decide +kernel
  have n4 : ¬ Str.ofString "kept_inputs" = Str.ofString "kept_ways" := by decide +kernel
  have n5 : ¬ Str.ofString "kept_inputs" = Str.ofString "kept_forks" := by decide +kernel
  have n6 : ¬ Str.ofString "kept_rows" = Str.ofString "kept_at" := by decide +kernel
  have n7 : ¬ Str.ofString "kept_rows" = Str.ofString "kept_makers" := by decide +kernel
  have n8 : ¬ Str.ofString "kept_rows" = Str.ofString "kept_ways" := by decide +kernel
  have n9 : ¬ Str.ofString "kept_rows" = Str.ofString "kept_forks" := by decide +kernel
  have n10 : ¬ Str.ofString "kept_at" = Str.ofString "kept_makers" := by decide +kernel
  have n11 : ¬ Str.ofString "kept_at" = Str.ofString "kept_ways" := by decide +kernel
  have n12 : ¬ Str.ofString "kept_at" = Str.ofString "kept_forks" := by decide +kernel
  have n13 : ¬ Str.ofString "kept_makers" = Str.ofString "kept_ways" := by decide +kernel
  have n14 : ¬ Str.ofString "kept_makers" = Str.ofString "kept_forks" := by decide +kernel
  have n15 : ¬ Str.ofString "kept_ways" = Str.ofString "kept_forks" := by decide +kernel
  have n16 : ¬ Str.ofString "kept_rows" = Str.ofString "kept_inputs" := by decide +kernel
  unfold fldNs fldDs at f1 f2 f3 f4 ⊢
  unfold fldNs at c1 c2 c3 c4
  simp at c1 c2 c3 c4
  simp [eVar, e1, e2, e3, e4, e5, e6, sorted0S, putFld, muI, putN, set_last, dOf, fldS, lookF, dictPS, pairsD, mergeD, sFlds, fsCons, fsNil, eDict0, f1, f2, f3, f4, c1, c2, c3, c4, n1, n2, n3, n4, n5, n6, n7, n8, n9, n10, n11, n12, n13, n14, n15, n16, take_last]
theorem make_ok (k : Nat) (M : MS) (ρ : Dy.Env) : eMake aP (tab aF aP (k + 4) i_Program___init__) (eCons (eLst eNil) (eCons (eLst eNil) eNil)) ρ M = some (.sv (.dt (.obj aP)), M) := by
  unfold eMake
  have e := init_nil aF aP k M
  simp [e]
end
end K24

set_option Elab.async false
set_option linter.all false
set_option maxRecDepth 100000
set_option maxHeartbeats 4000000
namespace Rs24
open PySem L2 Dy K24
theorem Ok.tupI {xs : List D} (h : Ok (.tup xs)) : ∀ x ∈ xs, Ok x ∧ dep x + 1 ≤ dep (.tup xs) := fun x hx => by
  have g := h.g
  have w := h.w
  have e := h.e
  simp only [goodD, swt, dep] at g w e ⊢
  have h1 := swtL_mem x hx
  have h2 := depL_mem x hx
  exact ⟨⟨Ok_items g x hx, by omega, by omega⟩, by omega⟩
theorem Ok.lstI {xs : List D} (h : Ok (.lst xs)) : ∀ x ∈ xs, Ok x ∧ dep x + 1 ≤ dep (.lst xs) := fun x hx => by
  have g := h.g
  have w := h.w
  have e := h.e
  simp only [goodD, swt, dep] at g w e ⊢
  have h1 := swtL_mem x hx
  have h2 := depL_mem x hx
  exact ⟨⟨Ok_items g x hx, by omega, by omega⟩, by omega⟩
theorem Ok.lenT {xs : List D} (h : Ok (.tup xs)) : xs.length ≤ 16777216 := by
  have w := h.w
  have := swtL_len xs
  simp only [swt] at w
  omega
theorem Ok.lenL {xs : List D} (h : Ok (.lst xs)) : xs.length ≤ 16777216 := by
  have w := h.w
  have := swtL_len xs
  simp only [swt] at w
  omega
theorem Ok.pl {d : D} (h : Ok d) : K24.pl d = true := by
  have g := h.g
  cases d <;> first | rfl | (simp [goodD] at g)
theorem Ok.str {d : D} (h : Ok d) : strFit d := by
  cases d with
  | str z =>
    have g := h.g
    have w := h.w
    simp only [goodD, swt] at g w
    exact ⟨g, by omega⟩
  | _ => trivial
end Rs24
namespace K24
open PySem L2 Dy Rs24
section
variable (aF aP : Addr)
def resN : Nat → D → Bool
  | 0, _ => false
  | n + 1, .tup [.str a, x] => decide (a = sIn) && nameB x
  | n + 1, .tup [.str a, x, y] => nameB x && ((decide (a = sSeen) && nnB y) || (decide (a = sMade) && (match y with
    | .tup zs => decide (zs.length ≤ 3) && zs.all (resN n)
    | _ => false)))
  | _ + 1, _ => false
theorem nS1 : ¬ sSeen = sIn := by decide +kernel
theorem nS2 : ¬ sMade = sIn := by decide +kernel
theorem nS3 : ¬ sMade = sSeen := by decide +kernel
theorem nS4 : ¬ sSeen = sMade := by decide +kernel
theorem nS5 : ¬ sIn = sSeen := by decide +kernel
theorem nS6 : ¬ sIn = sMade := by decide +kernel
theorem lits : Str.ofString "in" = sIn ∧ Str.ofString "seen" = sSeen ∧ Str.ofString "made" = sMade := ⟨rfl, rfl, rfl⟩
theorem is_result_ok : ∀ (n k : Nat) (d : D) (M : MS), Ok d → dep d ≤ n → tab aF aP (k + n + 3) i_is_result [.dt d] M = some (.sv (.dt (.bl (resN (n + 1) d))), M)
  | n, k, d, M, hok, hd => by
    show runBody (m_is_result (tab aF aP (k + n + 2)) aF aP) 2 [.dt d] M = _
    rw [runBody_eq]
    unfold m_is_result
    rw [lits.1, lits.2.1, lits.2.2]
    have hpl := hok.pl
    cases d with
    | tup xs =>
      have hx := hok.tupI
      cases xs with
      | nil => simp [eVar, isiS, tyS, isi1, resN]
      | cons x xs =>
        cases xs with
        | nil => simp [eVar, isiS, tyS, isi1, resN]
        | cons y r =>
          have nl : ¬ ((r.length : Int) + 1 + 1 < 2) := by omega
          have hy := (hx y (by simp)).1
          have ny : tab aF aP (k + n + 2) i_is_name [.dt y] M = _ := is_name_ok aF aP (k + n + 1) y M hy.pl hy.str
          have px := (hx x (by simp)).1.pl
          cases x with
          | str a =>
            cases r with
            | nil =>
              by_cases ha : a = sIn
              · subst ha
                simp [eVar, isiS, tyS, isi1, resN, ny]
              · simp [eVar, isiS, tyS, isi1, resN, ha]
            | cons z r =>
              have hz := (hx z (by simp)).1
              cases r with
              | cons w r =>
                have nl2 : ¬ ((r.length : Int) + 1 + 1 + 1 + 1 < 2) := by omega
                have nl3 : ¬ ((r.length : Int) + 1 + 1 + 1 + 1 = 2) := by omega
                have nl4 : ¬ ((r.length : Int) + 1 + 1 + 1 + 1 = 3) := by omega
                by_cases ha : a = sIn
                · subst ha
                  simp [eVar, isiS, tyS, isi1, resN, nl2, nl3]
                · simp [eVar, isiS, tyS, isi1, resN, nl2, nl4, ha]
              | nil =>
                by_cases ha : a = sIn
                · subst ha
                  simp [eVar, isiS, tyS, isi1, resN, nS5, nS6]
                · by_cases hn : nameB y = true
                  · by_cases hs : a = sSeen
                    · subst hs
                      have zi : tab aF aP (k + n + 2) i_is_integer [.dt z] M = _ := is_integer_ok aF aP (k + n + 1) z M hz.pl
                      cases z <;> simp [eVar, isiS, tyS, isi1, resN, ha, ny, hn, zi, intB, nnB, nS4]
                    · by_cases hm : a = sMade
                      · subst hm
                        cases z with
                        | tup zs =>
                          by_cases hl : zs.length ≤ 3
                          · have hl2 : ¬ (3 : Int) < zs.length := by omega
                            cases n with
                            | zero => simp [dep, depL] at hd
                            | succ n =>
                              have c := comp_lst (m := eBin gIx (eVar 0) (eC (.int 2))) (c := cYes) (el := eFn (tab aF aP (k + (n + 1) + 2) i_is_result) (eCons (eVar 1) eNil)) (j := 1) (ρ := [some (.dt (.tup [.str sMade, y, .tup zs])), none]) (M := M) (r := .sv (.dt (.tup zs))) (ds := zs) (fun _ => true) (fun d => .bl (resN (n + 1) d)) (by simp [eVar]) (.inr rfl) (by omega)
                                (fun d hdm => ⟨rfl, fun _ => by
                                  have h1 := hz.tupI d hdm
                                  have h2 : dep d ≤ n := by
                                    have := (hx (.tup zs) (by simp)).2
                                    omega
                                  have e : tab aF aP (k + (n + 1) + 2) i_is_result [.dt d] M = _ := is_result_ok n k d M h1.1 h2
                                  exact ⟨_, by simp [eVar, e]; rfl, rfl⟩⟩)
                              rw [List.filter_eq_self.mpr (fun _ _ => rfl)] at c
                              simp [eVar, isiS, tyS, isi1, resN, ha, ny, hn, hs, hl, hl2, c, all_ev]
                          · have hl2 : (3 : Int) < zs.length := by omega
                            simp [eVar, isiS, tyS, isi1, resN, ha, ny, hn, hs, hl, hl2]
                        | ins C ns vs => have := hz.pl; cases this
                        | scr ns => have := hz.pl; cases this
                        | _ => simp [eVar, isiS, tyS, isi1, resN, ha, ny, hn, hs]
                      · simp [eVar, isiS, tyS, isi1, resN, ha, ny, hn, hs, hm]
                  · simp [eVar, isiS, tyS, isi1, resN, ha, ny, hn]
          | ins C ns vs => cases px
          | scr ns => cases px
          | _ => cases r with
            | nil => simp [eVar, isiS, tyS, isi1, resN]
            | cons z r => cases r <;> simp [eVar, isiS, tyS, isi1, resN] <;> omega
    | ins C ns vs => cases hpl
    | scr ns => cases hpl
    | _ => simp [eVar, isiS, tyS, isi1, resN]
end
end K24

set_option Elab.async false
set_option linter.all false
set_option maxRecDepth 100000
set_option maxHeartbeats 4000000
namespace K24
open PySem L2 Dy Rs24
section
variable (aF aP : Addr)
theorem notin23 (M : MS) (m : Nat) : gNotIn M (.dt (.int m)) (.dt (.tup [.int 2, .int 3])) = some (.sv (.dt (.bl (!(decide (m = 2) || decide (m = 3)))))) := by
  unfold gNotIn inS
  simp only [itemsD_tup]
  have e : inV (fV (.int m)) ([D.int 2, D.int 3].map fV) = (decide (m = 2) || decide (m = 3)) := by
    have ev : ∀ p q : Int, L2.eqV (.int p) (.int q) = decide (p = q) := fun p q => by unfold L2.eqV; rfl
    unfold inV
    simp only [List.map_cons, List.map_nil, fV, List.any_cons, List.any_nil, ev, Bool.or_false]
    have a : ((2 : Int) = m) ↔ m = 2 := by omega
    have b : ((3 : Int) = m) ↔ m = 3 := by omega
    simp [a, b]
  rw [if_pos (show (flatD (D.int (m : Int)) && [D.int 2, D.int 3].all flatD) = true from rfl), e]
  rfl
theorem law_is_result_ok : ∀ (n k : Nat) (d : D) (M : MS), Ok d → dep d ≤ n → tab aF aP (k + n + 3) i__law_is_result [.dt d] M = some (.sv (.dt (.bl (resN (n + 1) d))), M)
  | n, k, d, M, hok, hd => by
    show runBody (m__law_is_result (tab aF aP (k + n + 2)) aF aP) 2 [.dt d] M = _
    rw [runBody_eq]
    unfold m__law_is_result
    rw [lits.1, lits.2.1, lits.2.2]
    have hpl := hok.pl
    cases d with
    | tup xs =>
      have hx := hok.tupI
      have ni := notin23 M xs.length
      cases xs with
      | nil => simp at ni; simp [eVar, isiS, tyS, isi1, resN, ni]
      | cons x xs =>
        cases xs with
        | nil => simp at ni; simp [eVar, isiS, tyS, isi1, resN, ni]
        | cons y r =>
          have hy := (hx y (by simp)).1
          have ny : tab aF aP (k + n + 2) i__law_is_name [.dt y] M = _ := law_is_name_ok aF aP (k + n + 1) y M hy.pl hy.str
          have px := (hx x (by simp)).1.pl
          cases r with
          | nil =>
            simp at ni
            cases x with
            | str a => simp [eVar, isiS, tyS, isi1, resN, ny, ni]; by_cases ha : a = sIn <;> simp [ha]
            | ins C ns vs => cases px
            | scr ns => cases px
            | _ => simp [eVar, isiS, tyS, isi1, resN, ni]
          | cons z r =>
            cases r with
            | cons w r =>
              have nl : ¬ (r.length + 1 + 1 + 1 + 1 = 2) := by omega
              have nl2 : ¬ (r.length + 1 + 1 + 1 + 1 = 3) := by omega
              simp [nl, nl2] at ni
              cases x <;> simp [eVar, isiS, tyS, isi1, resN, ni]
            | nil =>
              simp at ni
              have hz := (hx z (by simp)).1
              cases x with
              | str a =>
                by_cases hn : nameB y = true
                · by_cases hs : a = sSeen
                  · subst hs
                    have zi : tab aF aP (k + n + 2) i__law_is_integer [.dt z] M = _ := law_is_integer_ok aF aP (k + n + 1) z M hz.pl
                    cases z <;> simp [eVar, isiS, tyS, isi1, resN, ny, hn, ni, zi, intB, nnB, nS4]
                  · by_cases hm : a = sMade
                    · subst hm
                      cases z with
                      | tup zs =>
                        by_cases hl : zs.length ≤ 3
                        · have hl2 : ¬ (3 : Int) < zs.length := by omega
                          cases n with
                          | zero => simp [dep, depL] at hd
                          | succ n =>
                            have c := comp_lst (m := eBin gIx (eVar 0) (eC (.int 2))) (c := tNotB (eTru (eFn (tab aF aP (k + (n + 1) + 2) i__law_is_result) (eCons (eVar 1) eNil)))) (el := eVar 1) (j := 1) (ρ := [some (.dt (.tup [.str sMade, y, .tup zs])), none]) (M := M) (r := .sv (.dt (.tup zs))) (ds := zs) (fun d => !resN (n + 1) d) (fun d => d) (by simp [eVar]) (.inr rfl) (by omega)
                              (fun d hdm => ⟨by
                                have h1 := hz.tupI d hdm
                                have h2 : dep d ≤ n := by
                                  have := (hx (.tup zs) (by simp)).2
                                  omega
                                have e : tab aF aP (k + (n + 1) + 2) i__law_is_result [.dt d] M = _ := law_is_result_ok n k d M h1.1 h2
                                simp [eVar, e], fun _ => ⟨_, rfl, rfl⟩⟩)
                            have e5 : ((zs.filter fun d => !resN (n + 1) d).map fun d => d).isEmpty = zs.all (resN (n + 1)) := by rw [List.map_id', isEmpty_filter_not]
                            have e6 := gEq_nil ((zs.filter fun d => !resN (n + 1) d).map fun d => d) M
                            rw [e5] at e6
                            simp [eVar, isiS, tyS, isi1, resN, ny, hn, ni, hs, hl, hl2, c] at e6 ⊢
                            simp [e6]
                        · have hl2 : (3 : Int) < zs.length := by omega
                          simp [eVar, isiS, tyS, isi1, resN, ny, hn, ni, hs, hl, hl2]
                      | ins C ns vs => have := hz.pl; cases this
                      | scr ns => have := hz.pl; cases this
                      | _ => simp [eVar, isiS, tyS, isi1, resN, ny, hn, ni, hs]
                    · simp [eVar, isiS, tyS, isi1, resN, ny, hn, ni, hs, hm]
                · simp [eVar, isiS, tyS, isi1, resN, ny, hn, ni]
              | ins C ns vs => cases px
              | scr ns => cases px
              | _ => simp [eVar, isiS, tyS, isi1, resN, ni]
    | ins C ns vs => cases hpl
    | scr ns => cases hpl
    | _ => simp [eVar, isiS, tyS, isi1, resN]
/-! ### a result is one -/
theorem resN_enc : ∀ (n : Nat) (d : D), resN n d = true → ∃ r, d = enc r
  | 0, d, h => by simp [resN] at h
  | n + 1, d, h => by
    have all : ∀ zs : List D, (∀ d ∈ zs, resN n d = true) → ∃ rs, zs = encL rs := by
      intro zs
      induction zs with
      | nil => intro _; exact ⟨[], rfl⟩
      | cons d ds ih =>
        intro h
        obtain ⟨r, e⟩ := resN_enc n d (h d (by simp))
        obtain ⟨rs, es⟩ := ih fun x hx => h x (by simp [hx])
        exact ⟨r :: rs, by rw [e, es]; rfl⟩
    cases d with
    | tup xs =>
      cases xs with
      | nil => simp [resN] at h
      | cons p xs =>
        cases p with
        | str a =>
          cases xs with
          | nil => simp [resN] at h
          | cons x xs =>
            cases xs with
            | nil =>
              simp only [resN, Bool.and_eq_true, decide_eq_true_eq] at h
              obtain ⟨rfl, h⟩ := h
              cases x with
              | str z => exact ⟨.inn z, rfl⟩
              | _ => simp [nameB] at h
            | cons y xs =>
              cases xs with
              | cons w ws => simp [resN] at h
              | nil =>
                simp only [resN, Bool.and_eq_true, Bool.or_eq_true, decide_eq_true_eq] at h
                obtain ⟨hx, h⟩ := h
                cases x with
                | str z =>
                  rcases h with ⟨rfl, hy⟩ | ⟨rfl, hy⟩
                  · cases y with
                    | int i => exact ⟨.seen z i, rfl⟩
                    | _ => simp [nnB] at hy
                  · cases y with
                    | tup zs =>
                      simp only [Bool.and_eq_true, List.all_eq_true] at hy
                      obtain ⟨rs, e⟩ := all zs hy.2
                      exact ⟨.made z rs, by rw [e]; rfl⟩
                    | _ => simp at hy
                | _ => simp [nameB] at hx
        | _ =>
          cases xs with
          | nil => simp [resN] at h
          | cons x xs =>
            cases xs with
            | nil => simp [resN] at h
            | cons y xs => cases xs <;> simp [resN] at h
    | _ => simp [resN] at h
end
end K24

set_option Elab.async false
set_option linter.all false
set_option maxRecDepth 100000
set_option maxHeartbeats 4000000
namespace Rs24
open PySem L2 Dy
theorem enc_inj {a b : Rs} (h : enc a = enc b) : a = b := by
  rw [← eqv_enc, ← pD_enc a, ← pD_enc b, h, pD_enc]
  exact (eqv_enc b b).mpr rfl
theorem nodup_enc (L : List Rs) : (L.map enc).Nodup ↔ L.Nodup := by
  constructor
  · intro h
    exact (List.pairwise_map.mp h).imp fun {a b} h e => h (by rw [e])
  · intro h
    exact List.pairwise_map.mpr (h.imp fun {a b} h e => h (enc_inj e))
/-! ### some one twice -/
def dupP (O : List Rs) (x : SV) : Bool := match O[ixP x]? with
  | some a => (O.take (ixP x)).any fun z => PyData.eqv (encP z) (encP a)
  | none => false
open Classical in
theorem dup_none (O : List Rs) : ((((List.range O.length).map gI).filter (dupP O)).map fun x => D.int (Dy.unI x)).isEmpty = decide O.Nodup := by
  rw [Bool.eq_iff_iff, List.isEmpty_iff, List.map_eq_nil_iff, List.filter_eq_nil_iff, decide_eq_true_eq]
  constructor
  · intro h
    unfold List.Nodup
    rw [List.pairwise_iff_getElem]
    intro i j hi hj hij e
    have q := h (gI j) (List.mem_map.mpr ⟨j, List.mem_range.mpr hj, rfl⟩)
    unfold dupP at q
    rw [ixP_gI, List.getElem?_eq_getElem hj] at q
    apply q
    simp only [List.any_eq_true]
    refine ⟨O[i], ?_, (eqv_enc _ _).mpr e⟩
    rw [List.mem_take_iff_getElem]
    exact ⟨i, by omega, rfl⟩
  · intro h x hx
    obtain ⟨j, hj, rfl⟩ := List.mem_map.mp hx
    rw [List.mem_range] at hj
    unfold dupP
    rw [ixP_gI, List.getElem?_eq_getElem hj]
    simp only [List.any_eq_true]
    rintro ⟨z, hz, e⟩
    rw [List.mem_take_iff_getElem] at hz
    obtain ⟨i, hi, rfl⟩ := hz
    unfold List.Nodup at h
    rw [List.pairwise_iff_getElem] at h
    exact h i j (by omega) hj (by omega) ((eqv_enc _ _).mp e)
theorem toPl_map (L : List Rs) : toPl (L.map enc) = some (L.map encP) := by
  rw [← encL_map, ← encPL_map]
  exact toPl_enc L
theorem shape_list {L : List Rs} (h : ∀ r ∈ L, Ok (enc r)) : SeqAt.shaped (.list (L.map encP)) = true ∧ SeqAt.shaped (.tuple (L.map encP)) = true := by
  have fl : flatL (L.map enc) = true := flatL_of fun d hd => by
    obtain ⟨r, hr, rfl⟩ := List.mem_map.mp hd
    exact good_flat r (h r hr).g
  have dl : depL (L.map enc) ≤ 60 := depL_of fun d hd => by
    obtain ⟨r, hr, rfl⟩ := List.mem_map.mp hd
    exact (h r hr).e
  exact ⟨flat_shaped (d := .lst (L.map enc)) (by simp only [Dy.flatB]; exact fl) (by simp only [dep]; omega) (by simp only [toP, toPl_map]),
    flat_shaped (d := .tup (L.map enc)) (by simp only [Dy.flatB]; exact fl) (by simp only [dep]; omega) (by simp only [toP, toPl_map])⟩
theorem gInD_enc {a : Rs} {L : List Rs} (ha : Ok (enc a)) (h : ∀ r ∈ L, Ok (enc r)) (M : MS) (s : D) (hs : s = .lst (L.map enc) ∨ s = .tup (L.map enc)) : gInD M (.dt (enc a)) (.dt s) = some (.sv (.dt (.bl (L.any fun z => PyData.eqv (encP z) (encP a))))) := by
  have e1 : inS M (.dt (enc a)) (.dt s) = none := by
    have q : itemsD M (.dt s) = some (L.map enc) := by
      rcases hs with rfl | rfl
      · exact itemsD_lst _
      · exact itemsD_tup _
    have f : flatD (enc a) = false := by cases a <;> rfl
    cases a <;> (unfold inS; simp only [enc] at *; simp [q, flatD])
  have e2 : inDS M (.dt (enc a)) (.dt s) = some (L.any fun z => PyData.eqv (encP z) (encP a)) := by
    obtain ⟨s1, s2⟩ := shape_list h
    have an : (L.map encP).any (fun z => PyData.eqv z (encP a)) = L.any fun z => PyData.eqv (encP z) (encP a) := by rw [List.any_map]; rfl
    rcases hs with rfl | rfl
    · unfold inDS
      simp only [peek_dt', toP_enc, toPl_map, ha.shape.1, s1, Bool.and_self, if_true, an]
    · unfold inDS
      simp only [peek_dt', toP_enc, toPl_map, ha.shape.1, s2, Bool.and_self, if_true, an]
  unfold gInD
  rw [e1]
  simp only [e2]
  rfl
end Rs24

set_option Elab.async false
set_option linter.all false
set_option maxRecDepth 100000
set_option maxHeartbeats 4000000
namespace K24
open PySem L2 Dy Rs24
section
variable (aF aP : Addr)
theorem each_once_ok (k : Nat) {L : List Rs} {s : D} {M : MS} (hs : s = .lst (L.map enc) ∨ s = .tup (L.map enc)) (ok : ∀ r ∈ L, Ok (enc r)) (hl : L.length ≤ 16777216) : tab aF aP (k + 1) i_each_once [.dt s] M = some (.fr ((once L).map enc), M) := onceM_ok hs ok hl
theorem law_different_ok (k : Nat) {L : List Rs} {s : D} {M : MS} (hs : s = .lst (L.map enc) ∨ s = .tup (L.map enc)) (ok : ∀ r ∈ L, Ok (enc r)) (hl : L.length ≤ 16777216) : tab aF aP (k + 1) i__law_different [.dt s] M = some (.fr ((once L).map enc), M) := onceM_ok hs ok hl
def madeD : D → Bool
  | .tup (.str a :: _) => decide (a = sMade)
  | _ => false
theorem first_enc (r : Rs) (M : MS) : ∃ a, gIx M (.dt (enc r)) (.dt (.int 0)) = some (.sv (.dt (.str a))) ∧ madeD (enc r) = decide (a = sMade) := by
  cases r <;> simp [enc, madeD]
def isSeqB : D → Bool
  | .lst _ => true
  | .tup _ => true
  | _ => false
def badI (n : Nat) (x : D) : Bool := resN (n + 1) x && madeD x
open Classical in
noncomputable def badB (n : Nat) (d : D) : Bool := isSeqB d && ((itemsB d).all (badI n) && decide (itemsB d).Nodup)
theorem all_results {n : Nat} : ∀ {xs : List D}, (∀ x ∈ xs, badI n x = true) → ∃ L : List Rs, xs = L.map enc
  | [], _ => ⟨[], rfl⟩
  | x :: xs, h => by
    have hx := h x (by simp)
    unfold badI at hx
    rw [Bool.and_eq_true] at hx
    obtain ⟨r, e⟩ := resN_enc _ x hx.1
    obtain ⟨L, es⟩ := all_results (n := n) (xs := xs) fun y hy => h y (by simp [hy])
    exact ⟨r :: L, by rw [e, es]; rfl⟩
open Classical in
theorem are_bad_ok (k n : Nat) (d : D) (M : MS) (hok : Ok d) (hd : dep d ≤ n + 1) : tab aF aP (k + n + 4) i_are_bad [.dt d] M = some (.sv (.dt (.bl (badB n d))), M) := by
  show runBody (m_are_bad (tab aF aP (k + n + 3)) aF aP) 2 [.dt d] M = _
  rw [runBody_eq]
  unfold m_are_bad
  rw [lits.2.2]
  have key : ∀ (xs : List D) (s : D), (s = .lst xs ∨ s = .tup xs) → (∀ x ∈ xs, Ok x ∧ dep x ≤ n) → xs.length ≤ 16777216 → d = s → ∃ b : Bool, b = badB n d ∧ fin (outB ((sIf (tNotB (eTru (eCall (g1 allS) (eCons (eComp (eSeq (eVar 0)) (bName 1) cYes (eAnd (eFn (tab aF aP (k + n + 3) i_is_result) (eCons (eVar 1) eNil)) (eBin gEq (eBin gIx (eVar 1) (eC (.int 0))) (eC (.str sMade)))) [1]) eNil)))) (sRet (eC (.bl false))) sNext) [some (.dt s), none] M)
      (sRet (eBin gEq (eCall (g1 lenS) (eCons (eFn (tab aF aP (k + n + 3) i_each_once) (eCons (eVar 0) eNil)) eNil)) (eCall (g1 lenS) (eCons (eVar 0) eNil))))) M.length = some (.sv (.dt (.bl b)), M) := by
    intro xs s hs hx hl eds
    have it : itemsB d = xs := by subst eds; rcases hs with rfl | rfl <;> rfl
    have sq : isSeqB d = true := by subst eds; rcases hs with rfl | rfl <;> rfl
    have c := comp_lst (m := eVar 0) (c := cYes) (el := eAnd (eFn (tab aF aP (k + n + 3) i_is_result) (eCons (eVar 1) eNil)) (eBin gEq (eBin gIx (eVar 1) (eC (.int 0))) (eC (.str sMade)))) (j := 1) (ρ := [some (.dt s), none]) (M := M) (r := .sv (.dt s)) (ds := xs) (fun _ => true) (fun d => .bl (badI n d)) rfl (by rcases hs with rfl | rfl; exact .inl rfl; exact .inr rfl) hl
      (fun x hxm => ⟨rfl, fun _ => by
        have e := is_result_ok aF aP n k x M (hx x hxm).1 (hx x hxm).2
        cases hr : resN (n + 1) x with
        | false => exact ⟨.sv (.dt (.bl false)), by simp [eVar, e, hr], by simp [badI, hr]⟩
        | true =>
          obtain ⟨r, rfl⟩ := resN_enc _ x hr
          obtain ⟨a, e1, e2⟩ := first_enc r M
          exact ⟨.sv (.dt (.bl (decide (a = sMade)))), by simp [eVar, e, hr, e1], by simp [badI, hr, e2]⟩⟩)
    rw [List.filter_eq_self.mpr (fun _ _ => rfl)] at c
    have ls : ∀ ds : List D, ds = xs → lenS M (.dt s) = some (.sv (.dt (.int ds.length))) := fun ds h => by
      subst h
      rcases hs with rfl | rfl
      · exact lenS_lst _
      · exact lenS_tup _
    refine ⟨_, rfl, ?_⟩
    unfold badB
    rw [it, sq]
    cases ha : xs.all (badI n) with
    | false => simp [eVar, c, all_ev, ha]
    | true =>
      obtain ⟨L, hL⟩ := all_results (List.all_eq_true.mp ha)
      have okL : ∀ r ∈ L, Ok (enc r) := fun r hr => (hx (enc r) (by rw [hL]; exact List.mem_map.mpr ⟨r, hr, rfl⟩)).1
      have lenL : L.length = xs.length := by rw [hL]; simp
      have e := each_once_ok aF aP (k + n + 2) (L := L) (s := s) (M := M) (by rw [← hL]; exact hs) okL (by omega)
      have l2 := ls xs rfl
      have o := once_len L
      have nd := nodup_enc L
      rw [← hL] at nd
      simp [eVar, c, all_ev, ha, e, l2]
      rw [nd, ← o, lenL]
      omega
  cases d with
  | lst xs =>
    obtain ⟨b, hb, e⟩ := key xs _ (.inl rfl) (fun x hx => ⟨(hok.lstI x hx).1, by have := (hok.lstI x hx).2; omega⟩) hok.lenL rfl
    rw [← hb]
    simp [eVar, isiS, tyS, isi1] at e ⊢
    exact e
  | tup xs =>
    obtain ⟨b, hb, e⟩ := key xs _ (.inr rfl) (fun x hx => ⟨(hok.tupI x hx).1, by have := (hok.tupI x hx).2; omega⟩) hok.lenT rfl
    rw [← hb]
    simp [eVar, isiS, tyS, isi1] at e ⊢
    exact e
  | ins C ns vs => have := hok.pl; cases this
  | scr ns => have := hok.pl; cases this
  | _ => simp [eVar, isiS, tyS, isi1, badB, isSeqB]
open Classical in
theorem law_are_bad_ok (k n : Nat) (d : D) (M : MS) (hok : Ok d) (hd : dep d ≤ n + 1) : tab aF aP (k + n + 4) i__law_are_bad [.dt d] M = some (.sv (.dt (.bl (badB n d))), M) := by
  show runBody (m__law_are_bad (tab aF aP (k + n + 3)) aF aP) 3 [.dt d] M = _
  rw [runBody_eq]
  unfold m__law_are_bad
  rw [lits.2.2]
  have key : ∀ (xs : List D) (s : D), (s = .lst xs ∨ s = .tup xs) → (∀ x ∈ xs, Ok x ∧ dep x ≤ n) → xs.length ≤ 16777216 → d = s → ∃ b : Bool, b = badB n d ∧ fin (outB ((sIf (eBool (eBin gNe (eComp (eSeq (eVar 0)) (bName 1) (tOrB (tNotB (eTru (eFn (tab aF aP (k + n + 3) i__law_is_result) (eCons (eVar 1) eNil)))) (eBool (eBin gNe (eBin gIx (eVar 1) (eC (.int 0))) (eC (.str sMade))))) (eVar 1) [1]) (eLst eNil))) (sRet (eC (.bl false))) sNext) [some (.dt s), none, none] M)
      (sRet (eBin gEq (eComp (eRng1 (eCons (eCall (g1 lenS) (eCons (eVar 0) eNil)) eNil)) (bName 2) (eBool (eBin gInD (eBin gIx (eVar 0) (eVar 2)) (eSlice (eVar 0) eNoPart (ePart (eVar 2))))) (eVar 2) [2]) (eLst eNil)))) M.length = some (.sv (.dt (.bl b)), M) := by
    intro xs s hs hx hl eds
    have it : itemsB d = xs := by subst eds; rcases hs with rfl | rfl <;> rfl
    have sq : isSeqB d = true := by subst eds; rcases hs with rfl | rfl <;> rfl
    have c := comp_lst (m := eVar 0) (c := tOrB (tNotB (eTru (eFn (tab aF aP (k + n + 3) i__law_is_result) (eCons (eVar 1) eNil)))) (eBool (eBin gNe (eBin gIx (eVar 1) (eC (.int 0))) (eC (.str sMade))))) (el := eVar 1) (j := 1) (ρ := [some (.dt s), none, none]) (M := M) (r := .sv (.dt s)) (ds := xs) (fun d => !badI n d) (fun d => d) rfl (by rcases hs with rfl | rfl; exact .inl rfl; exact .inr rfl) hl
      (fun x hxm => ⟨by
        have e := law_is_result_ok aF aP n k x M (hx x hxm).1 (hx x hxm).2
        cases hr : resN (n + 1) x with
        | false => simp [eVar, e, hr, badI]
        | true =>
          obtain ⟨r, rfl⟩ := resN_enc _ x hr
          obtain ⟨a, e1, e2⟩ := first_enc r M
          simp [eVar, e, hr, e1, badI, e2], fun _ => ⟨_, rfl, rfl⟩⟩)
    have e5 : ((xs.filter fun d => !badI n d).map fun d => d).isEmpty = xs.all (badI n) := by rw [List.map_id', isEmpty_filter_not]
    have e6 := gNe_nil ((xs.filter fun d => !badI n d).map fun d => d) M
    rw [e5] at e6
    refine ⟨_, rfl, ?_⟩
    unfold badB
    rw [it, sq]
    cases ha : xs.all (badI n) with
    | false =>
      rw [ha] at e6
      simp [eVar, c] at e6 ⊢
      simp [e6]
    | true =>
      rw [ha] at e6
      obtain ⟨L, hL⟩ := all_results (List.all_eq_true.mp ha)
      have okL : ∀ r ∈ L, Ok (enc r) := fun r hr => (hx (enc r) (by rw [hL]; exact List.mem_map.mpr ⟨r, hr, rfl⟩)).1
      have lenL : L.length = xs.length := by rw [hL]; simp
      have nd := nodup_enc L
      rw [← hL] at nd
      have hm : eRng1 (eCons (eCall (g1 lenS) (eCons (eVar 0) eNil)) eNil) [some (.dt s), none, none] M = some (rngSrc 0 L.length, M) := by
        have q := rng_len (m := eVar 0) (ρ := [some (.dt s), none, none]) (M := M) (r := .sv (.dt s)) (ds := xs) rfl (by rcases hs with rfl | rfl; exact .inl rfl; exact .inr rfl) hl
        rw [← lenL] at q
        exact q
      have c2 := comp_pure (ms := eRng1 (eCons (eCall (g1 lenS) (eCons (eVar 0) eNil)) eNil)) (vs := [2]) (ρ := [some (.dt s), none, none]) (M := M) (M0 := M) (b := bName 2)
        (c := eBool (eBin gInD (eBin gIx (eVar 0) (eVar 2)) (eSlice (eVar 0) eNoPart (ePart (eVar 2))))) (el := eVar 2) (dupP L) (fun x => D.int (Dy.unI x)) hm (isSrc_rng 0 L.length) (by rw [sizeLine_eq]; simp; omega) (fun x hxm => by
          simp only [List.mem_map, List.mem_range] at hxm
          obtain ⟨i, hi, rfl⟩ := hxm
          refine ⟨_, rfl, ?_, fun _ => ⟨.sv (.dt (.int (0 + (i : Int)))), by simp [eVar, wipeE], rfl⟩⟩
          have dp : dupP L (.dt (.int (0 + (i : Int)))) = (L.take i).any fun z => PyData.eqv (encP z) (encP L[i]) := by
            show dupP L (gI i) = _
            unfold dupP
            rw [ixP_gI, List.getElem?_eq_getElem hi]
          rw [dp]
          have okT : ∀ r ∈ L.take i, Ok (enc r) := fun r hr => okL r (List.mem_of_mem_take hr)
          rcases hs with rfl | rfl
          · have e1 := gIx_map L i hi M
            have e2 : gSl M (.dt (.lst (L.map enc))) none (some (i : Int)) = some (.fr ((L.take i).map enc)) := by
              unfold gSl
              simp only [listD_lst, cut_take (ds := L.map enc) (i := i) (by simp; omega), List.map_take]
            have e3 := gInD_enc (okL _ (List.getElem_mem hi)) okT M _ (.inl rfl)
            rw [hL]
            simp [eVar, wipeE, e1, e2] at e3 ⊢
            simp [e3]
          · have e1 := gIx_mapT L i hi M
            have e2 : gSl M (.dt (.tup (L.map enc))) none (some (i : Int)) = some (.sv (.dt (.tup ((L.take i).map enc)))) := by
              unfold gSl
              simp only [cut_take (ds := L.map enc) (i := i) (by simp; omega), List.map_take]
            have e3 := gInD_enc (okL _ (List.getElem_mem hi)) okT M _ (.inr rfl)
            rw [hL]
            simp [eVar, wipeE, e1, e2] at e3 ⊢
            simp [e3])
      have d2 := dup_none L
      have e7 := gEq_nil ((((List.range L.length).map gI).filter (dupP L)).map fun x => D.int (Dy.unI x)) M
      rw [d2] at e7
      have dn : decide L.Nodup = decide xs.Nodup := by rw [decide_eq_decide]; exact nd.symm
      rw [dn] at e7
      have c2' : eComp (eRng1 (eCons (eCall (g1 lenS) (eCons (eVar 0) eNil)) eNil)) (bName 2) (eBool (eBin gInD (eBin gIx (eVar 0) (eVar 2)) (eSlice (eVar 0) eNoPart (ePart (eVar 2))))) (eVar 2) [2] [some (.dt s), none, none] M = some (.fr ((((List.range L.length).map gI).filter (dupP L)).map fun x => D.int (Dy.unI x)), M) := c2
      generalize (((List.range L.length).map gI).filter (dupP L)).map (fun x => D.int (Dy.unI x)) = Z at c2' e7
      have s1 : (sIf (eBool (eBin gNe (eComp (eSeq (eVar 0)) (bName 1) (tOrB (tNotB (eTru (eFn (tab aF aP (k + n + 3) i__law_is_result) (eCons (eVar 1) eNil)))) (eBool (eBin gNe (eBin gIx (eVar 1) (eC (.int 0))) (eC (.str sMade))))) (eVar 1) [1]) (eLst eNil))) (sRet (eC (.bl false))) sNext) [some (.dt s), none, none] M = some (.nx [some (.dt s), none, none] M) := by
        have e8 : (xs.filter fun d => !badI n d) = [] := by
          rw [List.filter_eq_nil_iff]
          intro x hx
          simp [List.all_eq_true.mp ha x hx]
        rw [e8] at c
        simp [c]
      rw [s1, outB_nx, sRet_ev, eBin_ev, c2', Option.bind_some]
      simp [e7]
  cases d with
  | lst xs =>
    obtain ⟨b, hb, e⟩ := key xs _ (.inl rfl) (fun x hx => ⟨(hok.lstI x hx).1, by have := (hok.lstI x hx).2; omega⟩) hok.lenL rfl
    rw [← hb, sSeq_ev]
    have s0 : (sIf (tNotB (eTru (eIsi2 "list" "tuple" (eVar 0)))) (sRet (eC (.bl false))) sNext) ([SV.dt (D.lst xs)].map some ++ List.replicate (3 - [SV.dt (D.lst xs)].length) none) M = some (.nx [some (.dt (.lst xs)), none, none] M) := by simp [eVar, isiS, tyS, isi1]
    rw [s0, outB_nx, sSeq_ev]
    exact e
  | tup xs =>
    obtain ⟨b, hb, e⟩ := key xs _ (.inr rfl) (fun x hx => ⟨(hok.tupI x hx).1, by have := (hok.tupI x hx).2; omega⟩) hok.lenT rfl
    rw [← hb, sSeq_ev]
    have s0 : (sIf (tNotB (eTru (eIsi2 "list" "tuple" (eVar 0)))) (sRet (eC (.bl false))) sNext) ([SV.dt (D.tup xs)].map some ++ List.replicate (3 - [SV.dt (D.tup xs)].length) none) M = some (.nx [some (.dt (.tup xs)), none, none] M) := by simp [eVar, isiS, tyS, isi1]
    rw [s0, outB_nx, sSeq_ev]
    exact e
  | ins C ns vs => have := hok.pl; cases this
  | scr ns => have := hok.pl; cases this
  | _ => simp [eVar, isiS, tyS, isi1, badB, isSeqB]
end
end K24

set_option Elab.async false
set_option linter.all false
set_option maxRecDepth 100000
set_option maxHeartbeats 4000000
namespace Rs24
open PySem L2 Dy
mutual
def allW : Rs → List Rs
  | .inn a => [.inn a]
  | .seen c n => [.seen c n]
  | .made w xs => .made w xs :: allWL xs
def allWL : List Rs → List Rs
  | [] => []
  | x :: xs => allW x ++ allWL xs
end
mutual
def laterR (f : Str → Int) : Rs → Rs
  | .inn a => .inn a
  | .seen c n => .seen c (n + f c)
  | .made w xs => .made w (laterL f xs)
def laterL (f : Str → Int) : List Rs → List Rs
  | [] => []
  | x :: xs => laterR f x :: laterL f xs
end
theorem laterL_map (f : Str → Int) (xs : List Rs) : laterL f xs = xs.map (laterR f) := by
  induction xs with
  | nil => rfl
  | cons x xs ih => simp [laterL, ih]
theorem allWL_flat (xs : List Rs) : allWL xs = (xs.map allW).flatten := by
  induction xs with
  | nil => rfl
  | cons x xs ih => simp [allWL, ih]
mutual
theorem allW_len : ∀ r : Rs, (allW r).length ≤ swt (enc r)
  | .inn a => by simp [allW, enc, swt, swtL]
  | .seen c n => by simp [allW, enc, swt, swtL]
  | .made w xs => by
    have := allWL_len xs
    simp only [allW, enc, swt, swtL, List.length_cons]
    omega
theorem allWL_len : ∀ xs : List Rs, (allWL xs).length ≤ swtL (encL xs)
  | [] => by simp [allWL]
  | x :: xs => by
    have h1 := allW_len x
    have h2 := allWL_len xs
    simp only [allWL, encL, swtL, List.length_append]
    omega
end
mutual
theorem allW_ok : ∀ r : Rs, Ok (enc r) → ∀ t ∈ allW r, Ok (enc t)
  | .inn a, h => by simpa [allW] using h
  | .seen c n, h => by simpa [allW] using h
  | .made w xs, h => by
    intro t ht
    simp only [allW, List.mem_cons] at ht
    rcases ht with rfl | ht
    · exact h
    · refine allWL_ok xs (fun x hx => ?_) t ht
      have h1 := h.tupI (.tup (encL xs)) (by simp [enc])
      exact (h1.1.tupI (enc x) (by rw [encL_map]; exact List.mem_map.mpr ⟨x, hx, rfl⟩)).1
theorem allWL_ok : ∀ xs : List Rs, (∀ x ∈ xs, Ok (enc x)) → ∀ t ∈ allWL xs, Ok (enc t)
  | [], _ => by simp [allWL]
  | x :: xs, h => by
    intro t ht
    simp only [allWL, List.mem_append] at ht
    rcases ht with ht | ht
    · exact allW_ok x (h x (by simp)) t ht
    · exact allWL_ok xs (fun y hy => h y (by simp [hy])) t ht
end
theorem once_len_le (L : List Rs) : (once L).length ≤ L.length := by
  have := (dd_sub none (sortR L)).length_le
  rw [(sortR_perm L).length_eq] at this
  exact this
theorem made_parts {w : Str} {xs : List Rs} (h : Ok (enc (.made w xs))) : ∀ x ∈ xs, Ok (enc x) ∧ dep (enc x) + 2 ≤ dep (enc (.made w xs)) := fun x hx => by
  have h1 := h.tupI (.tup (encL xs)) (by simp [enc])
  have h2 := h1.1.tupI (enc x) (by rw [encL_map]; exact List.mem_map.mpr ⟨x, hx, rfl⟩)
  refine ⟨h2.1, ?_⟩
  have h3 := h1.2
  have h4 := h2.2
  simp only [enc] at h3 ⊢
  omega
theorem made_len {w : Str} {xs : List Rs} (h : Ok (enc (.made w xs))) : xs.length ≤ 16777216 := by
  have h1 := h.tupI (.tup (encL xs)) (by simp [enc])
  have := h1.1.lenT
  rw [encL_map, List.length_map] at this
  exact this
end Rs24
namespace K24
open PySem L2 Dy Rs24
section
variable (aF aP : Addr)
def wordR : Rs → D
  | .made w _ => .str w
  | _ => .non
theorem word_of_ok (k : Nat) (r : Rs) (M : MS) : tab aF aP (k + 1) i_word_of [.dt (enc r)] M = some (.sv (.dt (wordR r)), M) := by
  show runBody (m_word_of (tab aF aP k) aF aP) 1 [.dt (enc r)] M = _
  rw [runBody_eq]
  unfold m_word_of
  rw [lits.2.2]
  cases r <;> simp [eVar, enc, wordR, nS4, nS6]
theorem later_ok (f : Str → Int) : ∀ (n k : Nat) (r : Rs) (s : SV) (M : MS), NumD M s f → Ok (enc r) → dep (enc r) ≤ n → tab aF aP (k + n + 1) i_later [.dt (enc r), s] M = some (.sv (.dt (enc (laterR f r))), M)
  | n, k, r, s, M, hN, hok, hd => by
    show runBody (m_later (tab aF aP (k + n)) aF aP) 3 [.dt (enc r), s] M = _
    rw [runBody_eq]
    unfold m_later
    rw [lits.2.1, lits.2.2]
    cases r with
    | inn a => simp [eVar, enc, laterR, nS5, nS6]
    | seen c i =>
      have g := dget2_ok (mo := eVar 1) (mi := eBin gIx (eVar 0) (eC (.int 1))) (ρ := [some (.dt (.tup [.str sSeen, .str c, .int i])), some s, none]) (M := M) (r := .sv s) (f := f) (c := c) rfl hN (by simp [eVar])
      simp [eVar, enc, laterR, g]
    | made w xs =>
      cases n with
      | zero => simp [enc, dep] at hd
      | succ n =>
        have mp := made_parts hok
        have c := comp_map (e := enc) (xs := xs) (m := eBin gIx (eVar 0) (eC (.int 2))) (el := eFn (tab aF aP (k + (n + 1)) i_later) (eCons (eVar 2) (eCons (eVar 1) eNil))) (j := 2) (ρ := [some (.dt (.tup [.str sMade, .str w, .tup (xs.map enc)])), some s, none]) (M := M) (r := .sv (.dt (.tup (xs.map enc)))) (fun t => enc (laterR f t)) (by simp [eVar]) (.inr rfl) (made_len hok)
          (fun x hx => by
            have q : tab aF aP (k + (n + 1)) i_later [.dt (enc x), s] M = _ := later_ok f n k x s M hN (mp x hx).1 (by have := (mp x hx).2; omega)
            exact ⟨_, by simp [eVar, q]; rfl, rfl⟩)
        have lm : xs.map (fun t => enc (laterR f t)) = (xs.map (laterR f)).map enc := by rw [List.map_map]; rfl
        rw [lm] at c
        simp only [enc, laterR, encL_map, laterL_map]
        simp [eVar, c, nS3]
theorem law_later_ok (f : Str → Int) : ∀ (n k : Nat) (r : Rs) (s : SV) (M : MS), NumD M s f → Ok (enc r) → dep (enc r) ≤ n → tab aF aP (k + n + 1) i__law_later [.dt (enc r), s] M = some (.sv (.dt (enc (laterR f r))), M)
  | n, k, r, s, M, hN, hok, hd => by
    show runBody (m__law_later (tab aF aP (k + n)) aF aP) 3 [.dt (enc r), s] M = _
    rw [runBody_eq]
    unfold m__law_later
    rw [lits.1, lits.2.1]
    cases r with
    | inn a => simp [eVar, enc, laterR, nS5]
    | seen c i =>
      have g := dget2_ok (mo := eVar 1) (mi := eBin gIx (eVar 0) (eC (.int 1))) (ρ := [some (.dt (.tup [.str sSeen, .str c, .int i])), some s, none]) (M := M) (r := .sv s) (f := f) (c := c) rfl hN (by simp [eVar])
      simp [eVar, enc, laterR, g]
    | made w xs =>
      cases n with
      | zero => simp [enc, dep] at hd
      | succ n =>
        have mp := made_parts hok
        have c := comp_map (e := enc) (xs := xs) (m := eBin gIx (eVar 0) (eC (.int 2))) (el := eFn (tab aF aP (k + (n + 1)) i__law_later) (eCons (eVar 2) (eCons (eVar 1) eNil))) (j := 2) (ρ := [some (.dt (.tup [.str sMade, .str w, .tup (xs.map enc)])), some s, none]) (M := M) (r := .sv (.dt (.tup (xs.map enc)))) (fun t => enc (laterR f t)) (by simp [eVar]) (.inr rfl) (made_len hok)
          (fun x hx => by
            have q : tab aF aP (k + (n + 1)) i__law_later [.dt (enc x), s] M = _ := law_later_ok f n k x s M hN (mp x hx).1 (by have := (mp x hx).2; omega)
            exact ⟨_, by simp [eVar, q]; rfl, rfl⟩)
        have lm : xs.map (fun t => enc (laterR f t)) = (xs.map (laterR f)).map enc := by rw [List.map_map]; rfl
        rw [lm] at c
        simp only [enc, laterR, encL_map, laterL_map]
        simp [eVar, c, nS3, nS2]
end
end K24

set_option Elab.async false
set_option linter.all false
set_option maxRecDepth 100000
set_option maxHeartbeats 4000000
namespace Rs24
open PySem L2 Dy
theorem allWL_append (a b : List Rs) : allWL (a ++ b) = allWL a ++ allWL b := by
  induction a with
  | nil => rfl
  | cons x a ih => simp [allWL, ih]
theorem allWL_take (xs : List Rs) (i : Nat) (h : i < xs.length) : allWL (xs.take (i + 1)) = allWL (xs.take i) ++ allW xs[i] := by
  rw [List.take_succ_eq_append_getElem h, allWL_append]
  simp [allWL]
theorem allWL_take_len (xs : List Rs) (i : Nat) : (allWL (xs.take i)).length ≤ (allWL xs).length := by
  have e := allWL_append (xs.take i) (xs.drop i)
  rw [List.take_append_drop] at e
  rw [e, List.length_append]
  omega
noncomputable def inAll : List Rs → List Rs
  | [] => []
  | x :: xs => once (allW x) ++ inAll xs
theorem inAll_append (a b : List Rs) : inAll (a ++ b) = inAll a ++ inAll b := by
  induction a with
  | nil => rfl
  | cons x a ih => simp [inAll, ih]
theorem inAll_take (xs : List Rs) (i : Nat) (h : i < xs.length) : inAll (xs.take (i + 1)) = inAll (xs.take i) ++ once (allW xs[i]) := by
  rw [List.take_succ_eq_append_getElem h, inAll_append]
  simp [inAll]
theorem inAll_len (xs : List Rs) : (inAll xs).length ≤ (allWL xs).length := by
  induction xs with
  | nil => simp [inAll]
  | cons x xs ih =>
    have := once_len_le (allW x)
    simp only [inAll, allWL, List.length_append]
    omega
theorem inAll_mem (xs : List Rs) (t : Rs) : t ∈ inAll xs ↔ t ∈ allWL xs := by
  induction xs with
  | nil => simp [inAll, allWL]
  | cons x xs ih => simp [inAll, allWL, ih, once_mem]
end Rs24
namespace K24
open PySem L2 Dy Rs24
section
variable (aF aP : Addr)
theorem all_within_ok : ∀ (n k : Nat) (r : Rs) (M : MS), Ok (enc r) → dep (enc r) ≤ n → tab aF aP (k + n + 1) i_all_within [.dt (enc r)] M = some (.fr ((allW r).map enc), M)
  | n, k, r, M, hok, hd => by
    show runBody (m_all_within (tab aF aP (k + n)) aF aP) 3 [.dt (enc r)] M = _
    rw [runBody_eq]
    unfold m_all_within
    rw [lits.2.2]
    have s0 : sNew 1 (eLst (eCons (eVar 0) eNil)) ([SV.dt (enc r)].map some ++ List.replicate (3 - [SV.dt (enc r)].length) none) M = some (.nx [some (.dt (enc r)), some (.mu M.length), none] (M ++ [.l [.dt (enc r)]])) := by
      rw [sNew_fr (ds := [enc r]) (M' := M) (by simp [eVar])]
      rfl
    have fin1 : ∀ (L : List Rs) (y : Option SV), fin (sRet (eVar 1) [some (.dt (enc r)), some (.mu M.length), y] (M ++ [.l ((L.map enc).map .dt)])) M.length = some (.fr (L.map enc), M) := fun L y => by
      have c := close_mu (M := M ++ [.l ((L.map enc).map .dt)]) (k := M.length) (n := M.length) (ds := L.map enc) (by simp) (Nat.le_refl _)
      simp [eVar] at c ⊢
      simp [c]
    rw [sSeq_nx s0, sSeq_ev]
    cases r with
    | inn a =>
      have := fin1 [.inn a] none
      simp [eVar, enc, nS6] at this ⊢
      simpa [allW, enc] using this
    | seen c i =>
      have := fin1 [.seen c i] none
      simp [eVar, enc, nS4] at this ⊢
      simpa [allW, enc] using this
    | made w xs =>
      cases n with
      | zero => simp [enc, dep] at hd
      | succ n =>
        have mp := made_parts hok
        have tl := allW_len (.made w xs)
        have hw := hok.w
        simp only [allW, List.length_cons] at tl
        obtain ⟨src, e1, hs⟩ := isSrc_tup (M := M ++ [.l [.dt (enc (.made w xs))]]) (ds := xs.map enc)
        obtain ⟨ρ', M', ef, y, rfl, rfl⟩ := for_ix (ms := eSeq (eBin gIx (eVar 0) (eC (.int 2)))) (b := bName 2) (body := sExpr (eMt "list" gExtend (eVar 1) (eCons (eFn (tab aF aP (k + (n + 1)) i_all_within) (eCons (eVar 2) eNil)) eNil))) (ρ := [some (.dt (enc (.made w xs))), some (.mu M.length), none]) (M := M ++ [.l [.dt (enc (.made w xs))]]) (M0 := M ++ [.l [.dt (enc (.made w xs))]])
          (fun i ρ M' => ∃ y, ρ = [some (.dt (enc (.made w xs))), some (.mu M.length), y] ∧ M' = M ++ [.l (((Rs.made w xs :: allWL (xs.take i)).map enc).map .dt)])
          (eSeq_of (r := .sv (.dt (.tup (xs.map enc)))) (by simp [eVar, enc, encL_map]) e1) hs ⟨none, rfl, by simp [allWL]⟩ (by
            rintro i x hx ρ M' ⟨y, rfl, rfl⟩
            simp at hx
            obtain ⟨t, ht, rfl⟩ := hx
            have hi : i < xs.length := (List.getElem?_eq_some_iff.mp ht).1
            have et : xs[i] = t := (List.getElem?_eq_some_iff.mp ht).2
            have tm : t ∈ xs := List.mem_of_getElem? ht
            refine ⟨_, rfl, [some (.dt (enc (.made w xs))), some (.mu M.length), some (.dt (enc t))], _, ?_, some (.dt (enc t)), rfl, rfl⟩
            have q : tab aF aP (k + (n + 1)) i_all_within [.dt (enc t)] (M ++ [.l (((Rs.made w xs :: allWL (xs.take i)).map enc).map .dt)]) = _ := all_within_ok n k t _ (mp t tm).1 (by have := (mp t tm).2; omega)
            have le := allWL_take_len xs (i + 1)
            have tk := allWL_take xs i hi
            rw [et] at tk
            rw [tk, List.length_append] at le
            have g := gExtend_mu (M := M ++ [.l (((Rs.made w xs :: allWL (xs.take i)).map enc).map .dt)]) (k := M.length) (ds := (Rs.made w xs :: allWL (xs.take i)).map enc) (es := (allW t).map enc) (by simp) (by simp; omega)
            have ty : isTyS "list" (M ++ [.l (((Rs.made w xs :: allWL (xs.take i)).map enc).map .dt)]) (.mu M.length) = true := by simp [isTyS]
            have sl := set_last M (.l (((Rs.made w xs :: allWL (xs.take i)).map enc).map .dt)) (.l (((Rs.made w xs :: allWL (xs.take i)).map enc ++ (allW t).map enc).map .dt))
            rw [tk]
            generalize hZ : (M ++ [MO.l (((Rs.made w xs :: allWL (xs.take i)).map enc).map SV.dt)]) = Z at *
            simp [eVar, q, ty, g]
            simpa using sl)
        have c0 : eBool (eBin gEq (eBin gIx (eVar 0) (eC (.int 0))) (eC (.str sMade))) [some (.dt (enc (.made w xs))), some (.mu M.length), none] (M ++ [.l [.dt (enc (.made w xs))]]) = some (true, M ++ [.l [.dt (enc (.made w xs))]]) := by simp [eVar, enc]
        rw [sIf_ev, c0, Option.bind_some]
        simp only [if_true]
        have ef2 : sFor (eSeq (eBin gIx (eVar 0) (eC (.int 2)))) (bName 2) (sExpr (eMt "list" gExtend (eVar 1) (eCons (eFn (tab aF aP (k + (n + 1)) i_all_within) (eCons (eVar 2) eNil)) eNil))) [some (.dt (enc (.made w xs))), some (.mu M.length), none] (M ++ [.l [.dt (enc (.made w xs))]]) = _ := ef
        rw [ef2, outB_nx]
        have len : ((xs.map enc).map SV.dt).length = xs.length := by simp
        rw [len, List.take_length]
        exact fin1 (.made w xs :: allWL xs) y
theorem within_ok (n k : Nat) (r : Rs) (M : MS) (hok : Ok (enc r)) (hd : dep (enc r) ≤ n) : tab aF aP (k + n + 2) i_within [.dt (enc r)] M = some (.fr ((once (allW r)).map enc), M) := by
  show runBody (m_within (tab aF aP (k + n + 1)) aF aP) 1 [.dt (enc r)] M = _
  rw [runBody_eq]
  unfold m_within
  have e1 := all_within_ok aF aP n k r M hok hd
  have e2 := each_once_ok aF aP (k + n) (L := allW r) (s := .lst ((allW r).map enc)) (M := M) (.inl rfl) (allW_ok r hok) (by have := allW_len r; have := hok.w; omega)
  simp [eVar, e1, e2]
theorem law_in_ok : ∀ (n k : Nat) (r : Rs) (M : MS), Ok (enc r) → dep (enc r) ≤ n → tab aF aP (k + n + 2) i__law_in [.dt (enc r)] M = some (.fr ((once (allW r)).map enc), M)
  | n, k, r, M, hok, hd => by
    show runBody (m__law_in (tab aF aP (k + n + 1)) aF aP) 3 [.dt (enc r)] M = _
    rw [runBody_eq]
    unfold m__law_in
    rw [lits.2.2]
    have tl := allW_len r
    have hw := hok.w
    have s0 : sSet 1 (eLst (eCons (eVar 0) eNil)) ([SV.dt (enc r)].map some ++ List.replicate (3 - [SV.dt (enc r)].length) none) M = some (.nx [some (.dt (enc r)), some (.dt (.lst [enc r])), none] M) := by
      simp [eVar]
    rw [sSeq_nx s0]
    have fin1 : ∀ (L : List Rs) (y : Option SV), (∀ t, t ∈ L ↔ t ∈ allW r) → L.length ≤ 16777216 → fin (sRet (eFn (tab aF aP (k + n + 1) i__law_different) (eCons (eVar 1) eNil)) [some (.dt (enc r)), some (.dt (.lst (L.map enc))), y] M) M.length = some (.fr ((once (allW r)).map enc), M) := fun L y hm hl => by
      have e2 := law_different_ok aF aP (k + n) (L := L) (s := .lst (L.map enc)) (M := M) (.inl rfl) (fun t ht => allW_ok r hok t ((hm t).mp ht)) hl
      rw [once_congr hm] at e2
      simp [eVar, e2]
    cases r with
    | inn a =>
      have f := fin1 [.inn a] none (by simp [allW]) (by simp)
      have s1 : sFor (eSeq (eIf (eBool (eBin gEq (eBin gIx (eVar 0) (eC (.int 0))) (eC (.str sMade)))) (eBin gIx (eVar 0) (eC (.int 2))) (eTup eNil))) (bName 2) (sSet 1 (eBin gAdd (eVar 1) (eFn (tab aF aP (k + n + 1) i__law_in) (eCons (eVar 2) eNil)))) [some (.dt (enc (.inn a))), some (.dt (.lst [enc (.inn a)])), none] M = some (.nx [some (.dt (enc (.inn a))), some (.dt (.lst [enc (.inn a)])), none] M) := by
        simp [sFor, eVar, enc, nS6, seqSrc, forGo]
      rw [sSeq_nx s1]
      exact f
    | seen c i =>
      have f := fin1 [.seen c i] none (by simp [allW]) (by simp)
      have s1 : sFor (eSeq (eIf (eBool (eBin gEq (eBin gIx (eVar 0) (eC (.int 0))) (eC (.str sMade)))) (eBin gIx (eVar 0) (eC (.int 2))) (eTup eNil))) (bName 2) (sSet 1 (eBin gAdd (eVar 1) (eFn (tab aF aP (k + n + 1) i__law_in) (eCons (eVar 2) eNil)))) [some (.dt (enc (.seen c i))), some (.dt (.lst [enc (.seen c i)])), none] M = some (.nx [some (.dt (enc (.seen c i))), some (.dt (.lst [enc (.seen c i)])), none] M) := by
        simp [sFor, eVar, enc, nS4, seqSrc, forGo]
      rw [sSeq_nx s1]
      exact f
    | made w xs =>
      cases n with
      | zero => simp [enc, dep] at hd
      | succ n =>
        have mp := made_parts hok
        simp only [allW, List.length_cons] at tl
        obtain ⟨src, e1, hs⟩ := isSrc_tup (M := M) (ds := xs.map enc)
        obtain ⟨ρ', M', ef, hM, y, rfl⟩ := for_ix (ms := eSeq (eIf (eBool (eBin gEq (eBin gIx (eVar 0) (eC (.int 0))) (eC (.str sMade)))) (eBin gIx (eVar 0) (eC (.int 2))) (eTup eNil))) (b := bName 2) (body := sSet 1 (eBin gAdd (eVar 1) (eFn (tab aF aP (k + (n + 1) + 1) i__law_in) (eCons (eVar 2) eNil)))) (ρ := [some (.dt (enc (.made w xs))), some (.dt (.lst [enc (.made w xs)])), none]) (M := M) (M0 := M)
          (fun i ρ M' => M' = M ∧ ∃ y, ρ = [some (.dt (enc (.made w xs))), some (.dt (.lst ((Rs.made w xs :: inAll (xs.take i)).map enc))), y])
          (eSeq_of (r := .sv (.dt (.tup (xs.map enc)))) (by simp [eVar, enc, encL_map]) e1) hs ⟨rfl, none, by simp [inAll]⟩ (by
            rintro i x hx ρ M' ⟨rfl, y, rfl⟩
            simp at hx
            obtain ⟨t, ht, rfl⟩ := hx
            have hi : i < xs.length := (List.getElem?_eq_some_iff.mp ht).1
            have et : xs[i] = t := (List.getElem?_eq_some_iff.mp ht).2
            have tm : t ∈ xs := List.mem_of_getElem? ht
            have q : tab aF aP (k + (n + 1) + 1) i__law_in [.dt (enc t)] M' = _ := law_in_ok n k t M' (mp t tm).1 (by have := (mp t tm).2; omega)
            have tk := inAll_take xs i hi
            rw [et] at tk
            have le := inAll_len (xs.take (i + 1))
            have le2 := allWL_take_len xs (i + 1)
            rw [tk, List.length_append] at le
            refine ⟨_, rfl, [some (.dt (enc (.made w xs))), some (.dt (.lst ((Rs.made w xs :: inAll (xs.take (i + 1))).map enc))), some (.dt (enc t))], M', ?_, rfl, some (.dt (enc t)), rfl⟩
            have hz : (inAll (xs.take i)).length + 1 + (once (allW t)).length ≤ 16777216 := by omega
            rw [tk]
            simp [eVar, q, gAdd, hz])
        rw [hM] at ef
        have ef2 : sFor (eSeq (eIf (eBool (eBin gEq (eBin gIx (eVar 0) (eC (.int 0))) (eC (.str sMade)))) (eBin gIx (eVar 0) (eC (.int 2))) (eTup eNil))) (bName 2) (sSet 1 (eBin gAdd (eVar 1) (eFn (tab aF aP (k + (n + 1) + 1) i__law_in) (eCons (eVar 2) eNil)))) [some (.dt (enc (.made w xs))), some (.dt (.lst [enc (.made w xs)])), none] M = _ := ef
        rw [sSeq_nx ef2]
        have len : ((xs.map enc).map SV.dt).length = xs.length := by simp
        rw [len, List.take_length]
        refine fin1 (.made w xs :: inAll xs) y (fun t => ?_) ?_
        · simp [allW, inAll_mem]
        · have := inAll_len xs
          simp only [List.length_cons]
          omega
end
end K24

set_option Elab.async false
set_option linter.all false
set_option maxRecDepth 100000
set_option maxHeartbeats 4000000
namespace Rs24
open PySem L2 Dy
mutual
/-- numbers that stay small -/
def smallR : Rs → Bool
  | .inn _ => true
  | .seen _ n => decide (n.natAbs ≤ 10 ^ 39)
  | .made _ xs => smallL xs
def smallL : List Rs → Bool
  | [] => true
  | x :: xs => smallR x && smallL xs
end
theorem smallL_of {xs : List Rs} (h : ∀ x ∈ xs, smallR x = true) : smallL xs = true := by
  induction xs with
  | nil => rfl
  | cons x xs ih => simp [smallL, h x (by simp), ih fun y hy => h y (by simp [hy])]
end Rs24
namespace K24
open PySem L2 Dy Rs24
section
variable (aF aP : Addr)
structure Fit (W E : Nat) (d : D) : Prop where
  g : goodD d = true
  w : swt d ≤ W
  e : dep d ≤ E
theorem Fit.ok {W E : Nat} {d : D} (h : Fit W E d) (h1 : W ≤ 16777216) (h2 : E ≤ 60) : Ok d := ⟨h.g, Nat.le_trans h.w h1, Nat.le_trans h.e h2⟩
theorem Fit.le {W E W' E' : Nat} {d : D} (h : Fit W E d) (h1 : W ≤ W') (h2 : E ≤ E') : Fit W' E' d := ⟨h.g, Nat.le_trans h.w h1, Nat.le_trans h.e h2⟩
def fitB (W E : Nat) (d : D) : Bool := goodD d && (decide (swt d ≤ W) && decide (dep d ≤ E))
theorem Fit.of {W E : Nat} {d : D} (h : fitB W E d = true) : Fit W E d := by
  unfold fitB at h
  simp only [Bool.and_eq_true, decide_eq_true_eq] at h
  exact ⟨h.1, h.2.1, h.2.2⟩
def Wr : Nat → Nat
  | 0 => 2200
  | m + 1 => 3 * (Wr m + 2) + 200
theorem Wr_ge (m : Nat) : 2200 ≤ Wr m := by
  induction m with
  | zero => exact Nat.le_refl _
  | succ m ih => simp only [Wr]; omega
/-! ### drawn results -/
def names1 : List D := [.str (Str.ofString "a"), .str (Str.ofString "b"), .str (Str.ofString "in"), .str (Str.ofString "made")]
def names2 : List D := [.str (Str.ofString "c"), .str (Str.ofString "d"), .str (Str.ofString "seen")]
def names3 : List D := [.str (Str.ofString "f"), .str (Str.ofString "g"), .str (Str.ofString "made")]
def nums1 : List D := [.int 0, .int 1, .int 2, .int (10 ^ 39)]
def shortB : D → Bool
  | .str z => okS z && decide (z.length ≤ 4)
  | _ => false
def numB : D → Bool
  | .int i => decide (i.natAbs.log2 < 1920) && decide (i.natAbs ≤ 10 ^ 39)
  | _ => false
theorem short1 : ∀ d ∈ names1, shortB d = true := List.all_eq_true.mp (by decide +kernel : names1.all shortB = true)
theorem short2 : ∀ d ∈ names2, shortB d = true := List.all_eq_true.mp (by decide +kernel : names2.all shortB = true)
theorem short3 : ∀ d ∈ names3, shortB d = true := List.all_eq_true.mp (by decide +kernel : names3.all shortB = true)
theorem num1 : ∀ d ∈ nums1, numB d = true := List.all_eq_true.mp (by decide +kernel : nums1.all numB = true)
theorem short_str {d : D} (h : shortB d = true) : ∃ z, d = .str z ∧ okS z = true ∧ z.length ≤ 4 := by
  cases d with
  | str z =>
    simp only [shortB, Bool.and_eq_true, decide_eq_true_eq] at h
    exact ⟨z, rfl, h.1, h.2⟩
  | _ => cases h
theorem num_int {d : D} (h : numB d = true) : ∃ i, d = .int i ∧ i.natAbs.log2 < 1920 ∧ i.natAbs ≤ 10 ^ 39 := by
  cases d with
  | int i => exact ⟨i, rfl, of_decide_eq_true (Bool.and_eq_true_iff.mp h).1, of_decide_eq_true (Bool.and_eq_true_iff.mp h).2⟩
  | _ => cases h
theorem okIn : okS sIn = true ∧ sIn.length ≤ 4 := by constructor <;> decide +kernel
theorem okSeen : okS sSeen = true ∧ sSeen.length ≤ 4 := by constructor <;> decide +kernel
theorem okMade : okS sMade = true ∧ sMade.length ≤ 4 := by constructor <;> decide +kernel
theorem fit_inn {a : Str} (h : okS a = true) (hl : a.length ≤ 4) : Fit 2200 1 (enc (.inn a)) := by
  have h1 := okIn
  refine ⟨by simp [enc, goodD, goodL, h, h1.1], ?_, by simp [enc, dep, depL]⟩
  simp only [enc, swt, swtL]
  omega
theorem fit_seen {c : Str} {i : Int} (h : okS c = true) (hl : c.length ≤ 4) (hi : i.natAbs.log2 < 1920) : Fit 2200 1 (enc (.seen c i)) := by
  have h1 := okSeen
  refine ⟨by simp [enc, goodD, goodL, h, h1.1, hi], ?_, by simp [enc, dep, depL]⟩
  simp only [enc, swt, swtL]
  omega
theorem fit_made {w : Str} {xs : List Rs} {m E : Nat} (h : okS w = true) (hl : w.length ≤ 4) (hx : ∀ x ∈ xs, Fit m E (enc x)) (hn : xs.length ≤ 3) : Fit (3 * (m + 2) + 200) (E + 2) (enc (.made w xs)) := by
  have h1 := okMade
  have g : goodL (encL xs) = true := goodL_of fun d hd => by
    rw [encL_map] at hd
    obtain ⟨x, hx', rfl⟩ := List.mem_map.mp hd
    exact (hx x hx').g
  have w1 : swtL (encL xs) ≤ (encL xs).length * (m + 2) := swtL_of fun d hd => by
    rw [encL_map] at hd
    obtain ⟨x, hx', rfl⟩ := List.mem_map.mp hd
    exact (hx x hx').w
  have w2 : (encL xs).length * (m + 2) ≤ 3 * (m + 2) := by
    rw [encL_map, List.length_map]
    exact Nat.mul_le_mul_right _ hn
  have e : depL (encL xs) ≤ E := depL_of fun d hd => by
    rw [encL_map] at hd
    obtain ⟨x, hx', rfl⟩ := List.mem_map.mp hd
    exact (hx x hx').e
  refine ⟨by simp [enc, goodD, goodL, h, h1.1, g], ?_, ?_⟩
  · simp only [enc, swt, swtL]
    omega
  · simp only [enc, dep, depL]
    omega
theorem law_result_ok : ∀ (m k : Nat) {B : MO} {R : MS}, BagO B → ∃ r B', tab aF aP (k + m + 2) i__law_result [.mu 0, .dt (.int (m : Int))] (B :: R) = some (.sv (.dt (enc r)), B' :: R) ∧ Fit (Wr m) (2 * m + 1) (enc r) ∧ smallR r = true ∧ BagO B'
  | m, k, B, R, hB => by
    show ∃ r B', runBody (m__law_result (tab aF aP (k + m + 1)) aF aP) 5 [.mu 0, .dt (.int (m : Int))] (B :: R) = _ ∧ _
    rw [runBody_eq]
    unfold m__law_result
    -- the kind
    have kd : ∃ q B1, BagO B1 ∧ 0 ≤ q ∧ q < 4 ∧ (m = 0 → q < 2) ∧ sSet 2 (eIf (eBool (eBin gGt (eVar 1) (eC (.int 0)))) (eFn (tab aF aP (k + m + 1) i__law_take) (eCons (eVar 0) (eCons (eC (.int 4)) eNil))) (eFn (tab aF aP (k + m + 1) i__law_take) (eCons (eVar 0) (eCons (eC (.int 2)) eNil)))) [some (.mu 0), some (.dt (.int (m : Int))), none, none, none] (B :: R) = some (.nx [some (.mu 0), some (.dt (.int (m : Int))), some (.dt (.int q)), none, none] (B1 :: R)) := by
      by_cases z : m = 0
      · obtain ⟨q, B1, e, hB1, h0, h1⟩ := take_tab aF aP (k + m) (R := R) hB (n := 2) (by decide) (by decide)
        exact ⟨q, B1, hB1, h0, by omega, fun _ => h1, by simp [eVar, e, z] at e ⊢; simp [e]⟩
      · obtain ⟨q, B1, e, hB1, h0, h1⟩ := take_tab aF aP (k + m) (R := R) hB (n := 4) (by decide) (by decide)
        have zp : 0 < m := by omega
        exact ⟨q, B1, hB1, h0, h1, fun y => absurd y z, by simp [eVar, e, zp]⟩
    obtain ⟨q, B1, hB1, q0, q1, q2, s0⟩ := kd
    have s0' : sSet 2 (eIf (eBool (eBin gGt (eVar 1) (eC (.int 0)))) (eFn (tab aF aP (k + m + 1) i__law_take) (eCons (eVar 0) (eCons (eC (.int 4)) eNil))) (eFn (tab aF aP (k + m + 1) i__law_take) (eCons (eVar 0) (eCons (eC (.int 2)) eNil)))) ([SV.mu 0, SV.dt (D.int (m : Int))].map some ++ List.replicate (5 - [SV.mu 0, SV.dt (D.int (m : Int))].length) none) (B :: R) = _ := s0
    rw [sSeq_nx s0']
    by_cases c0 : q = 0
    · subst c0
      obtain ⟨i, B2, e, hB2, i0, i1⟩ := take_tab aF aP (k + m) (R := R) hB1 (n := 4) (by decide) (by decide)
      obtain ⟨d, hd, ed, _⟩ := gIx_lst (M := B2 :: R) (ds := names1) i0 (by simpa [names1] using i1)
      obtain ⟨z, rfl, hz, hl⟩ := short_str (short1 d hd)
      refine ⟨.inn z, B2, ?_, (fit_inn hz hl).le (Wr_ge m) (by omega), rfl, hB2⟩
      unfold names1 at ed
      simp [eVar, e, ed, enc, sIn]
    by_cases c1 : q = 1
    · subst c1
      obtain ⟨i, B2, e, hB2, i0, i1⟩ := take_tab aF aP (k + m) (R := R) hB1 (n := 3) (by decide) (by decide)
      obtain ⟨d, hd, ed, _⟩ := gIx_lst (M := B2 :: R) (ds := names2) i0 (by simpa [names2] using i1)
      obtain ⟨z, rfl, hz, hl⟩ := short_str (short2 d hd)
      obtain ⟨i', B3, e', hB3, i0', i1'⟩ := take_tab aF aP (k + m) (R := R) hB2 (n := 4) (by decide) (by decide)
      obtain ⟨d', hd', ed', _⟩ := gIx_lst (M := B3 :: R) (ds := nums1) i0' (by simpa [nums1] using i1')
      obtain ⟨j, rfl, hj, hjs⟩ := num_int (num1 d' hd')
      refine ⟨.seen z j, B3, ?_, (fit_seen hz hl hj).le (Wr_ge m) (by omega), by simp only [smallR]; exact decide_eq_true hjs, hB3⟩
      unfold names2 at ed
      simp [nums1] at ed'
      simp [eVar, e, ed, e', ed', enc, sSeen, gPow, int2]
    cases m with
    | zero => have := q2 rfl; omega
    | succ m =>
      obtain ⟨i, B2, e, hB2, i0, i1⟩ := take_tab aF aP (k + (m + 1)) (R := R) hB1 (n := 4) (by decide) (by decide)
      have hr := isRange_of (i := i) (by omega) (by omega)
      obtain ⟨ds, B3, e3, hB3, hd, hlen⟩ := comp_draw (ms := eRng1 (eCons (eFn (tab aF aP (k + (m + 1) + 1) i__law_take) (eCons (eVar 0) (eCons (eC (.int 4)) eNil))) eNil)) (j := 4)
        (el := eFn (tab aF aP (k + (m + 1) + 1) i__law_result) (eCons (eVar 0) (eCons (eBin Dy.gSub (eVar 1) (eC (.int 1))) eNil))) (ρ := [some (.mu 0), some (.dt (.int ((m + 1 : Nat) : Int))), some (.dt (.int q)), none, none]) (M := B1 :: R) (lo := 0) (n := i.toNat) (B := B2) (R := R)
        (fun d => ∃ r, d = enc r ∧ Fit (Wr m) (2 * m + 1) (enc r) ∧ smallR r = true) (by simp [eVar, e, hr]) hB2 (by omega) (fun j hj B hB => by
          obtain ⟨r, B', er, hf, hsm, hB'⟩ := law_result_ok m k (R := R) hB
          have er : tab aF aP (k + (m + 1) + 1) i__law_result [.mu 0, .dt (.int (m : Int))] (B :: R) = _ := er
          have em : (((m + 1 : Nat) : Int) - 1) = (m : Int) := by omega
          exact ⟨.sv (.dt (enc r)), enc r, B', by simp [eVar, Dy.gSub, int2, er], rfl, ⟨r, rfl, hf, hsm⟩, hB'⟩)
      have ex : ∃ xs : List Rs, ds = xs.map enc ∧ ∀ x ∈ xs, Fit (Wr m) (2 * m + 1) (enc x) ∧ smallR x = true := by
        clear hlen e3
        induction ds with
        | nil => exact ⟨[], rfl, by simp⟩
        | cons d ds ih =>
          obtain ⟨r, e1, e2⟩ := hd d (by simp)
          obtain ⟨xs, e3, e4⟩ := ih fun y hy => hd y (by simp [hy])
          exact ⟨r :: xs, by rw [e1, e3]; rfl, fun x hx => by
            rcases List.mem_cons.mp hx with rfl | hx
            · exact e2
            · exact e4 x hx⟩
      obtain ⟨xs, rfl, hxs⟩ := ex
      obtain ⟨i', B4, e4, hB4, i0', i1'⟩ := take_tab aF aP (k + (m + 1)) (R := R) hB3 (n := 3) (by decide) (by decide)
      obtain ⟨d, hd', ed, _⟩ := gIx_lst (M := B4 :: R) (ds := names3) i0' (by simpa [names3] using i1')
      obtain ⟨z, rfl, hz, hl⟩ := short_str (short3 d hd')
      rw [List.length_map] at hlen
      refine ⟨.made z xs, B4, ?_, (fit_made hz hl (fun x hx => (hxs x hx).1) (by omega)).le (Nat.le_refl _) (by omega), smallL_of fun x hx => (hxs x hx).2, hB4⟩
      unfold names3 at ed
      have cst : (((m + 1 : Nat)) : Int) = (m : Int) + 1 := by omega
      rw [cst] at e3
      simp [eVar, c0, c1, e3, e4, ed, enc, sMade, encL_map]
end
end K24

set_option Elab.async false
set_option linter.all false
set_option maxRecDepth 100000
set_option maxHeartbeats 4000000
namespace K24
open PySem L2 Dy Rs24
section
variable (aF aP : Addr)
theorem pick_ok (k : Nat) {B : MO} {R : MS} {xs : List D} (hB : BagO B) (hne : 0 < xs.length) (hl : xs.length < 1073741824) : ∃ d B', d ∈ xs ∧ tab aF aP (k + 2) i__law_pick [.mu 0, .dt (.lst xs)] (B :: R) = some (.sv (.dt d), B' :: R) ∧ BagO B' := by
  show ∃ d B', d ∈ xs ∧ runBody (m__law_pick (tab aF aP (k + 1)) aF aP) 2 [.mu 0, .dt (.lst xs)] (B :: R) = _ ∧ _
  rw [runBody_eq]
  unfold m__law_pick
  obtain ⟨q, B1, e, hB1, h0, h1⟩ := take_tab aF aP k (R := R) hB (n := (xs.length : Int)) (by omega) (by omega)
  obtain ⟨d, hd, ed, _⟩ := gIx_lst (M := B1 :: R) (ds := xs) h0 h1
  exact ⟨d, B1, hd, by simp [eVar, e, ed], hB1⟩
theorem odds_fit : ∀ d ∈ odds, fitB 4000 1 d = true := List.all_eq_true.mp (by decide +kernel : odds.all (fitB 4000 1) = true)
def menu (o : D) : List D := [o, .str sSeen, .str sIn, .str sMade, .tup [.str sIn, .str (Str.ofString "a")], .int (-1), .tup [.str sMade, .str (Str.ofString "f"), .lst []]]
theorem menu_fit {o : D} (h : fitB 4000 1 o = true) : ∀ d ∈ menu o, Fit 4000 2 d := by
  have rest : ([D.str sSeen, .str sIn, .str sMade, .tup [.str sIn, .str (Str.ofString "a")], .int (-1), .tup [.str sMade, .str (Str.ofString "f"), .lst []]]).all (fitB 4000 2) = true := by decide +kernel
  intro d hd
  unfold menu at hd
  rcases List.mem_cons.mp hd with rfl | hd
  · exact (Fit.of h).le (Nat.le_refl _) (by omega)
  · exact Fit.of (List.all_eq_true.mp rest d hd)
/-- what bending may do -/
structure Bent (d d' : D) : Prop where
  g : goodD d' = true
  w : swt d' ≤ swt d + 5000
  e : dep d' ≤ dep d + 2
def sqD (t : Bool) (xs : List D) : D := if t = true then .tup xs else .lst xs
theorem swt_sq (t : Bool) (xs : List D) : swt (sqD t xs) = swtL xs + 3 := by cases t <;> simp [sqD, swt]
theorem dep_sq (t : Bool) (xs : List D) : dep (sqD t xs) = depL xs + 1 := by cases t <;> simp [sqD, dep]
theorem good_sq (t : Bool) (xs : List D) : goodD (sqD t xs) = goodL xs := by cases t <;> simp [sqD, goodD]
theorem bent_menu (k : Nat) (d : D) {B : MO} {R : MS} (hB : BagO B) : ∃ d' B', Bent d d' ∧ BagO B' ∧ (sSeq (sSet 2 (eLst (eCons (eFn (tab aF aP (k + 2) i__law_odd) (eCons (eVar 0) (eCons (eC (.str (Str.ofString "ab"))) eNil))) (eCons (eC (.str sSeen)) (eCons (eC (.str sIn)) (eCons (eC (.str sMade)) (eCons (eTup (eCons (eC (.str sIn)) (eCons (eC (.str (Str.ofString "a"))) eNil))) (eCons (eNeg (eC (.int 1))) (eCons (eTup (eCons (eC (.str sMade)) (eCons (eC (.str (Str.ofString "f"))) (eCons (eLst eNil) eNil)))) eNil)))))))))
    (sRet (eBin gIx (eVar 2) (eFn (tab aF aP (k + 2) i__law_take) (eCons (eVar 0) (eCons (eC (.int 7)) eNil)))))) [some (.mu 0), some (.dt d), none, none, none, none] (B :: R) = some (.rt (.sv (.dt d')) (B' :: R)) := by
  obtain ⟨o, B1, e1, ho, hB1⟩ := odd_ok aF aP k (R := R) hB
  obtain ⟨q, B2, e2, hB2, h0, h1⟩ := take_tab aF aP (k + 1) (R := R) hB1 (n := 7) (by decide) (by decide)
  obtain ⟨d', hd', ed, _⟩ := gIx_lst (M := B2 :: R) (ds := menu o) h0 (by simpa [menu] using h1)
  have f := menu_fit (odds_fit o ho) d' hd'
  refine ⟨d', B2, ⟨f.g, by have := f.w; omega, by have := f.e; omega⟩, hB2, ?_⟩
  unfold menu at ed
  simp [eVar, e1, e2, ed]

def bTest (T : Nat → Fn) : EM Bool := (tOrB (tNotB (eTru (eIsi2 "list" "tuple" (eVar 1)))) (tOrB (eBool (eBin gEq (eCall (g1 lenS) (eCons (eVar 1) eNil)) (eC (.int 0)))) (eBool (eBin gEq (eFn (T i__law_take) (eCons (eVar 0) (eCons (eC (.int 4)) eNil))) (eC (.int 0))))))
def bMenu (T : Nat → Fn) : SM := (sSeq (sSet 2 (eLst (eCons (eFn (T i__law_odd) (eCons (eVar 0) (eCons (eC (.str (Str.ofString "ab"))) eNil))) (eCons (eC (.str sSeen)) (eCons (eC (.str sIn)) (eCons (eC (.str sMade)) (eCons (eTup (eCons (eC (.str sIn)) (eCons (eC (.str (Str.ofString "a"))) eNil))) (eCons (eNeg (eC (.int 1))) (eCons (eTup (eCons (eC (.str sMade)) (eCons (eC (.str (Str.ofString "f"))) (eCons (eLst eNil) eNil)))) eNil)))))))))
    (sRet (eBin gIx (eVar 2) (eFn (T i__law_take) (eCons (eVar 0) (eCons (eC (.int 7)) eNil))))))
def bPar (T : Nat → Fn) : SM := (sPar3N 3 4 5 (rConsN (eCall (g1 listS) (eCons (eVar 1) eNil)) (rConsD (eFn (T i__law_take) (eCons (eVar 0) (eCons (eCall (g1 lenS) (eCons (eVar 1) eNil)) eNil))) (rConsD (eFn (T i__law_take) (eCons (eVar 0) (eCons (eC (.int 7)) eNil))) rNil))))
def bIns (T : Nat → Fn) : SM := (sExpr (eMt "list" gInsert (eVar 3) (eCons (eVar 4) (eCons (eFn (T i__law_odd) (eCons (eVar 0) (eCons (eC (.str (Str.ofString "ab"))) eNil))) eNil))))
def bPop : SM := (sExpr (eMt "list" gPopAt (eVar 3) (eCons (eVar 4) eNil)))
def bTurn : SM := (sRet (eIf (eTru (eIsi "tuple" (eVar 1))) (eVar 3) (eCall (g1 tupleS) (eCons (eVar 3) eNil))))
def bPut (T : Nat → Fn) : SM := (sPut (eVar 3) (eVar 4) (eFn (T i__law_bent) (eCons (eVar 0) (eCons (eBin gIx (eVar 3) (eVar 4)) eNil))))
def bTail : SM := (sRet (eIf (eTru (eIsi "tuple" (eVar 1))) (eCall (g1 tupleS) (eCons (eVar 3) eNil)) (eVar 3)))
def bMid (T : Nat → Fn) : SM := (sIf (eBool (eBin gEq (eVar 5) (eC (.int 0)))) (bIns T) (sIf (eBool (eBin gEq (eVar 5) (eC (.int 1)))) bPop (sIf (eBool (eBin gEq (eVar 5) (eC (.int 2)))) bTurn (bPut T))))
theorem bent_eq (T : Nat → Fn) : m__law_bent T aF aP = sSeq (sIf (bTest T) (bMenu T) sNext) (sSeq (bPar T) (sSeq (bMid T) bTail)) := by
  unfold m__law_bent
  rw [lits.1, lits.2.1, lits.2.2]
  rfl
theorem last_get (B x : MO) (R : MS) : (B :: (R ++ [x]))[R.length + 1]? = some x := by simp
theorem last_set (B x y : MO) (R : MS) : (B :: (R ++ [x])).set (R.length + 1) y = B :: (R ++ [y]) := by simp
theorem last_take (B x : MO) (R : MS) : (B :: (R ++ [x])).take (R.length + 1) = B :: R := by simp
theorem isi_sq (t : Bool) (xs : List D) (M : MS) : isiS "tuple" M (.dt (sqD t xs)) = some t ∧ isiS "list" M (.dt (sqD t xs)) = some (!t) := by cases t <;> simp [sqD, isiS, tyS, isi1]
theorem len_sq (t : Bool) (xs : List D) (M : MS) : lenS M (.dt (sqD t xs)) = some (.sv (.dt (.int xs.length))) := by cases t <;> simp [sqD]
theorem list_sq (t : Bool) (xs : List D) (M : MS) : listS M (.dt (sqD t xs)) = some (.fr xs) := by cases t <;> simp [sqD]
def bEnv (d : D) (n : Nat) (j s : Int) : Dy.Env := [some (.mu 0), some (.dt d), none, some (.mu n), some (.dt (.int j)), some (.dt (.int s))]
theorem tail_ok (t : Bool) (xs ys : List D) (B : MO) (R : MS) (j s : Int) : ∃ r, fin (bTail (bEnv (sqD t xs) (R.length + 1) j s) (B :: (R ++ [.l (ys.map .dt)]))) (R.length + 1) = some (r, B :: R) ∧ r.toSV = .dt (sqD t ys) := by
  have i := (isi_sq t xs (B :: (R ++ [.l (ys.map .dt)]))).1
  have g := last_get B (.l (ys.map .dt)) R
  unfold bTail bEnv
  cases t with
  | true =>
    refine ⟨.sv (.dt (.tup ys)), ?_, rfl⟩
    have e := tupleS_mu g
    simp [eVar, i, e]
  | false =>
    refine ⟨.fr ys, ?_, rfl⟩
    have e := close_mu g (Nat.le_refl _)
    rw [last_take] at e
    simp [eVar, i, e]
theorem turn_ok (t : Bool) (xs ys : List D) (B : MO) (R : MS) (j s : Int) (f : SM) : ∃ r, fin (sSeq bTurn f (bEnv (sqD t xs) (R.length + 1) j s) (B :: (R ++ [.l (ys.map .dt)]))) (R.length + 1) = some (r, B :: R) ∧ r.toSV = .dt (sqD (!t) ys) := by
  have i := (isi_sq t xs (B :: (R ++ [.l (ys.map .dt)]))).1
  have g := last_get B (.l (ys.map .dt)) R
  unfold bTurn bEnv
  cases t with
  | false =>
    refine ⟨.sv (.dt (.tup ys)), ?_, rfl⟩
    have e := tupleS_mu g
    simp [eVar, i, e]
  | true =>
    refine ⟨.fr ys, ?_, rfl⟩
    have e := close_mu g (Nat.le_refl _)
    rw [last_take] at e
    simp [eVar, i, e]
theorem gIx_mu {M : MS} {k : Nat} {ds : List D} {i : Int} (h : M[k]? = some (.l (ds.map .dt))) (h0 : 0 ≤ i) (h1 : i < ds.length) : ∃ d ∈ ds, gIx M (.mu k) (.dt (.int i)) = some (.sv (.dt d)) ∧ ds[i.toNat]? = some d := by
  have hl : i.toNat < ds.length := by omega
  refine ⟨ds[i.toNat], List.getElem_mem _, ?_, List.getElem?_eq_getElem hl⟩
  unfold gIx
  simp only [itemsOf, Dy.listOf, h]
  unfold atI ixN
  rw [if_pos h0, if_pos (by simpa using h1)]
  simp [List.getElem?_eq_getElem hl]
theorem par_ok (k : Nat) (t : Bool) (xs : List D) {B : MO} {R : MS} (hB : BagO B) (hne : 0 < xs.length) (hl : xs.length < 1073741824) : ∃ j s B', bPar (tab aF aP (k + 1)) [some (.mu 0), some (.dt (sqD t xs)), none, none, none, none] (B :: R) = some (.nx (bEnv (sqD t xs) (R.length + 1) j s) (B' :: (R ++ [.l (xs.map .dt)]))) ∧ BagO B' ∧ 0 ≤ j ∧ j < xs.length := by
  obtain ⟨j, B1, e1, hB1, h0, h1⟩ := take_tab aF aP k (R := R) hB (n := (xs.length : Int)) (by omega) (by omega)
  obtain ⟨s, B2, e2, hB2, _, _⟩ := take_tab aF aP k (R := R) hB1 (n := 7) (by decide) (by decide)
  refine ⟨j, s, B2, ?_, hB2, h0, h1⟩
  unfold bPar sPar3N
  simp [eVar, list_sq, len_sq, e1, e2, allocL, bEnv]
theorem good_mem {xs : List D} (h : goodL xs = true) : ∀ x ∈ xs, goodD x = true := by
  induction xs with
  | nil => intro x hx; simp at hx
  | cons d r ih =>
    intro x hx
    simp only [goodL, Bool.and_eq_true] at h
    rcases List.mem_cons.mp hx with rfl | hx
    · exact h.1
    · exact ih h.2 x hx
theorem bent_sq {t : Bool} {xs ys : List D} (t' : Bool) (hg : ∀ y ∈ ys, goodD y = true) (hw : swtL ys ≤ swtL xs + 5000) (he : ∀ y ∈ ys, dep y ≤ depL xs + 2) : Bent (sqD t xs) (sqD t' ys) :=
  ⟨by rw [good_sq]; exact goodL_of hg, by rw [swt_sq, swt_sq]; omega, by rw [dep_sq, dep_sq]; have := depL_of he; omega⟩
theorem way1 (k : Nat) (d : D) {B B1 : MO} {R : MS} (hB1 : BagO B1) (hc : bTest (tab aF aP (k + 2)) [some (.mu 0), some (.dt d), none, none, none, none] (B :: R) = some (true, B1 :: R)) : ∃ r d' B', fin (m__law_bent (tab aF aP (k + 2)) aF aP [some (.mu 0), some (.dt d), none, none, none, none] (B :: R)) (R.length + 1) = some (r, B' :: R) ∧ r.toSV = .dt d' ∧ Bent d d' ∧ BagO B' := by
  obtain ⟨d', B2, hb, hB2, e⟩ := bent_menu aF aP k d (R := R) hB1
  refine ⟨.sv (.dt d'), d', B2, ?_, rfl, hb, hB2⟩
  rw [bent_eq, sSeq_ev, sIf_ev, hc, Option.bind_some]
  simp only [if_true]
  have e' : bMenu (tab aF aP (k + 2)) [some (.mu 0), some (.dt d), none, none, none, none] (B1 :: R) = some (.rt (.sv (.dt d')) (B2 :: R)) := e
  rw [e', outB_rt, fin_rt]
  simp
theorem mid_ok (k n : Nat) (t : Bool) (xs : List D) {B : MO} {R : MS} {j s : Int} (hB : BagO B) (hg : goodL xs = true) (hw : swtL xs ≤ 16000000) (h0 : 0 ≤ j) (h1 : j < xs.length)
    (rec : ∀ x ∈ xs, ∀ {B : MO} {R : MS}, BagO B → ∃ r d' B', tab aF aP (k + 2) i__law_bent [.mu 0, .dt x] (B :: R) = some (r, B' :: R) ∧ r.toSV = .dt d' ∧ Bent x d' ∧ BagO B') :
    ∃ r d' B', fin (sSeq (bMid (tab aF aP (k + 2))) bTail (bEnv (sqD t xs) (R.length + 1) j s) (B :: (R ++ [.l (xs.map .dt)]))) (R.length + 1) = some (r, B' :: R) ∧ r.toSV = .dt d' ∧ Bent (sqD t xs) d' ∧ BagO B' := by
  have hl := swtL_len xs
  have gm := good_mem hg
  have dm := depL_mem (xs := xs)
  have pick : ∀ (q : Int), eBool (eBin gEq (eVar 5) (eC (.int q))) (bEnv (sqD t xs) (R.length + 1) j s) (B :: (R ++ [.l (xs.map .dt)])) = some (decide (s = q), B :: (R ++ [.l (xs.map .dt)])) := by
    intro q
    simp [eVar, bEnv]
  by_cases s0 : s = 0
  · obtain ⟨o, B1, e1, ho, hB1⟩ := odd_ok aF aP k (R := R ++ [.l (xs.map .dt)]) hB
    have fo := Fit.of (odds_fit o ho)
    have gi := gInsert_mu (d := o) (last_get B1 (.l (xs.map .dt)) R) h0 (by omega) (by omega)
    rw [last_set] at gi
    obtain ⟨r, er, eq⟩ := tail_ok t xs (xs.take j.toNat ++ [o] ++ xs.drop j.toNat) B1 R j s
    refine ⟨r, _, B1, ?_, eq, bent_sq t ?_ ?_ ?_, hB1⟩
    · rw [sSeq_nx (ρ1 := bEnv (sqD t xs) (R.length + 1) j s) (M1 := B1 :: (R ++ [.l ((xs.take j.toNat ++ [o] ++ xs.drop j.toNat).map .dt)])), er]
      unfold bMid
      rw [sIf_ev, pick, Option.bind_some, if_pos (by simp [s0])]
      unfold bIns
      have ty : isTyS "list" (B :: (R ++ [.l (xs.map .dt)])) (.mu (R.length + 1)) = true := by simp [isTyS, tyS]
      simp only [bEnv, sExpr_ev, eMt_ev, eVar, eCons_ev, eFn_ev, eC_ev, eNil_ev, Option.bind_some, List.getElem?_cons_zero, List.getElem?_cons_succ, toSV_sv, ty, if_true, e1]
      simp [eVar, ty, e1, gi]
    · intro y hy
      simp only [List.mem_append, List.mem_singleton] at hy
      rcases hy with (hy | rfl) | hy
      · exact gm y (List.mem_of_mem_take hy)
      · exact fo.g
      · exact gm y (List.mem_of_mem_drop hy)
    · rw [swtL_ins]; have := fo.w; omega
    · intro y hy
      simp only [List.mem_append, List.mem_singleton] at hy
      rcases hy with (hy | rfl) | hy
      · have := dm y (List.mem_of_mem_take hy); omega
      · have := fo.e; omega
      · have := dm y (List.mem_of_mem_drop hy); omega
  by_cases s1 : s = 1
  · obtain ⟨o, gi⟩ := gPopAt_mu (last_get B (.l (xs.map .dt)) R) h0 h1 (by omega)
    rw [last_set] at gi
    obtain ⟨r, er, eq⟩ := tail_ok t xs (xs.eraseIdx j.toNat) B R j s
    refine ⟨r, _, B, ?_, eq, bent_sq t ?_ ?_ ?_, hB⟩
    · rw [sSeq_nx (ρ1 := bEnv (sqD t xs) (R.length + 1) j s) (M1 := B :: (R ++ [.l ((xs.eraseIdx j.toNat).map .dt)])), er]
      unfold bMid
      rw [sIf_ev, pick, Option.bind_some, if_neg (by simp [s0]), sIf_ev, pick, Option.bind_some, if_pos (by simp [s1])]
      unfold bPop
      have ty : isTyS "list" (B :: (R ++ [.l (xs.map .dt)])) (.mu (R.length + 1)) = true := by simp [isTyS, tyS]
      simp [bEnv, eVar, ty, gi]
    · intro y hy; exact gm y (List.mem_of_mem_eraseIdx hy)
    · have := swtL_erase xs j.toNat; omega
    · intro y hy; have := dm y (List.mem_of_mem_eraseIdx hy); omega
  by_cases s2 : s = 2
  · obtain ⟨r, er, eq⟩ := turn_ok t xs xs B R j s bTail
    refine ⟨r, _, B, ?_, eq, bent_sq (!t) gm (by omega) (fun y hy => by have := dm y hy; omega), hB⟩
    rw [← er]
    rw [sSeq_ev, sSeq_ev]
    unfold bMid
    rw [sIf_ev, pick, Option.bind_some, if_neg (by simp [s0]), sIf_ev, pick, Option.bind_some, if_neg (by simp [s1]), sIf_ev, pick, Option.bind_some, if_pos (by simp [s2])]
  · obtain ⟨x, hx, ex, gx⟩ := gIx_mu (last_get B (.l (xs.map .dt)) R) h0 h1
    obtain ⟨r1, d1, B1, e1, q1, b1, hB1⟩ := rec x hx (R := R ++ [.l (xs.map .dt)]) hB
    have st := setAt_mu (d := d1) (last_get B1 (.l (xs.map .dt)) R) h0 h1
    rw [last_set] at st
    have hj : j.toNat < xs.length := by omega
    have hxe : xs[j.toNat] = x := by rw [List.getElem?_eq_getElem hj] at gx; exact Option.some.inj gx
    obtain ⟨r, er, eq⟩ := tail_ok t xs (xs.set j.toNat d1) B1 R j s
    have mem : ∀ y ∈ xs.set j.toNat d1, y ∈ xs ∨ y = d1 := fun y hy => List.mem_or_eq_of_mem_set hy
    refine ⟨r, _, B1, ?_, eq, bent_sq t ?_ ?_ ?_, hB1⟩
    · rw [sSeq_nx (ρ1 := bEnv (sqD t xs) (R.length + 1) j s) (M1 := B1 :: (R ++ [.l ((xs.set j.toNat d1).map .dt)])), er]
      unfold bMid
      rw [sIf_ev, pick, Option.bind_some, if_neg (by simp [s0]), sIf_ev, pick, Option.bind_some, if_neg (by simp [s1]), sIf_ev, pick, Option.bind_some, if_neg (by simp [s2])]
      unfold bPut
      simp [bEnv, eVar, ex, e1, q1, st]
    · intro y hy
      rcases mem y hy with h | rfl
      · exact gm y h
      · exact b1.g
    · have := swtL_set xs j.toNat d1 hj
      rw [hxe] at this
      have := b1.w
      omega
    · intro y hy
      rcases mem y hy with h | rfl
      · have := dm y h; omega
      · have := b1.e; have := dm x hx; omega
theorem bent_ok : ∀ (n k : Nat) (d : D) {B : MO} {R : MS}, BagO B → goodD d = true → swt d ≤ 16000000 → dep d ≤ n → ∃ r d' B', tab aF aP (k + n + 3) i__law_bent [.mu 0, .dt d] (B :: R) = some (r, B' :: R) ∧ r.toSV = .dt d' ∧ Bent d d' ∧ BagO B'
  | n, k, d, B, R, hB, hg, hw, hd => by
    show ∃ r d' B', fin (m__law_bent (tab aF aP (k + n + 2)) aF aP [some (.mu 0), some (.dt d), none, none, none, none] (B :: R)) (R.length + 1) = _ ∧ _
    by_cases hs : ∃ t xs, d = sqD t xs
    · obtain ⟨t, xs, rfl⟩ := hs
      have i1 := (isi_sq t xs (B :: R)).1
      have i2 := (isi_sq t xs (B :: R)).2
      rw [swt_sq] at hw
      have hl := swtL_len xs
      by_cases h0 : xs.length = 0
      · refine way1 aF aP (k + n) _ hB ?_
        unfold bTest
        simp [eVar, i1, i2, len_sq, h0]
      · obtain ⟨q, B1, e1, hB1, _, _⟩ := take_tab aF aP (k + n + 1) (R := R) hB (n := 4) (by decide) (by decide)
        have ev : bTest (tab aF aP (k + n + 2)) [some (.mu 0), some (.dt (sqD t xs)), none, none, none, none] (B :: R) = some (decide (q = 0), B1 :: R) := by
          have hz : xs ≠ [] := fun h => h0 (by rw [h]; rfl)
          unfold bTest
          simp [eVar, i1, i2, len_sq, hz, e1]
        by_cases hq : q = 0
        · exact way1 aF aP (k + n) _ hB1 (by rw [ev]; simp [hq])
        · rw [bent_eq, sSeq_ev, sIf_ev, ev, Option.bind_some, if_neg (by simp [hq])]
          obtain ⟨j, s, B2, e2, hB2, j0, j1⟩ := par_ok aF aP (k + n + 1) t xs (R := R) hB1 (by omega) (by omega)
          rw [show sNext [some (.mu 0), some (.dt (sqD t xs)), none, none, none, none] (B1 :: R) = some (.nx [some (.mu 0), some (.dt (sqD t xs)), none, none, none, none] (B1 :: R)) from rfl, outB_nx, sSeq_nx e2]
          rw [dep_sq] at hd
          rw [good_sq] at hg
          obtain ⟨m, rfl⟩ : ∃ m, n = m + 1 := ⟨n - 1, by omega⟩
          refine mid_ok aF aP (k + (m + 1)) 0 t xs hB2 hg (by omega) j0 j1 ?_
          intro x hx B R hB
          have hx1 := swtL_mem x hx
          have hx2 := depL_mem x hx
          have := bent_ok m k x (R := R) hB (good_mem hg x hx) (by omega) (by omega)
          rwa [show k + m + 3 = k + (m + 1) + 2 from by omega] at this
    · refine way1 aF aP (k + n) _ hB ?_
      have no : isiS "list" (B :: R) (.dt d) = some false ∧ isiS "tuple" (B :: R) (.dt d) = some false := by
        cases d with
        | lst xs => exact absurd ⟨false, xs, rfl⟩ hs
        | tup xs => exact absurd ⟨true, xs, rfl⟩ hs
        | ins C ns vs => simp [goodD] at hg
        | scr ns => simp [goodD] at hg
        | _ => simp [isiS, tyS, isi1]
      unfold bTest
      simp [eVar, no.1, no.2]
  termination_by n => n
end
end K24

set_option Elab.async false
set_option linter.all false
set_option maxRecDepth 100000
set_option maxHeartbeats 4000000
namespace Rs24
open PySem L2 Dy
mutual
theorem allW_swt : ∀ r : Rs, swtL ((allW r).map enc) ≤ dep (enc r) * (swt (enc r) + 2)
  | .inn a => by
    have e : dep (enc (.inn a)) = 1 := rfl
    rw [e]
    simp only [allW, List.map, swtL]
    omega
  | .seen c n => by
    have e : dep (enc (.seen c n)) = 1 := rfl
    rw [e]
    simp only [allW, List.map, swtL]
    omega
  | .made w xs => by
    have h := allWL_swt xs (depL (encL xs)) (Nat.le_refl _)
    have e : dep (enc (.made w xs)) = depL (encL xs) + 2 := by
      simp only [enc, dep, depL]
      omega
    have u : swtL (encL xs) ≤ swt (enc (.made w xs)) := by
      simp only [enc, swt, swtL]
      omega
    rw [e]
    have h2 : depL (encL xs) * swtL (encL xs) ≤ depL (encL xs) * (swt (enc (.made w xs)) + 2) := Nat.mul_le_mul_left _ (by omega)
    have h3 : (depL (encL xs) + 2) * (swt (enc (.made w xs)) + 2) = depL (encL xs) * (swt (enc (.made w xs)) + 2) + 2 * (swt (enc (.made w xs)) + 2) := Nat.add_mul _ _ _
    rw [h3]
    simp only [allW, List.map_cons, swtL]
    omega
theorem allWL_swt : ∀ (xs : List Rs) (n : Nat), depL (encL xs) ≤ n → swtL ((allWL xs).map enc) ≤ n * swtL (encL xs)
  | [], n, _ => by simp [allWL, swtL]
  | x :: xs, n, h => by
    have hd : dep (enc x) ≤ n ∧ depL (encL xs) ≤ n := by
      simp only [encL, depL] at h
      omega
    have h1 := allW_swt x
    have h2 := allWL_swt xs n hd.2
    have h3 : dep (enc x) * (swt (enc x) + 2) ≤ n * (swt (enc x) + 2) := Nat.mul_le_mul_right _ hd.1
    have h4 : n * swtL (encL (x :: xs)) = n * (swt (enc x) + 2) + n * swtL (encL xs) := by
      rw [← Nat.mul_add]
      simp only [encL, swtL]
    rw [h4]
    simp only [allWL, List.map_append, swtL_append]
    omega
end
theorem swtL_perm {a b : List D} (h : a.Perm b) : swtL a = swtL b := by
  induction h with
  | nil => rfl
  | cons x _ ih => simp only [swtL, ih]
  | swap x y l => simp only [swtL]; omega
  | trans _ _ h1 h2 => rw [h1, h2]
theorem swtL_sub {a b : List D} (h : a.Sublist b) : swtL a ≤ swtL b := by
  induction h with
  | slnil => exact Nat.le_refl _
  | cons x _ ih => simp only [swtL]; omega
  | cons_cons x _ ih => simp only [swtL]; omega
theorem once_swt (L : List Rs) : swtL ((once L).map enc) ≤ swtL (L.map enc) := by
  have h1 := swtL_sub ((dd_sub none (sortR L)).map enc)
  rw [swtL_perm ((sortR_perm L).map enc)] at h1
  exact h1
mutual
theorem allW_dep : ∀ r : Rs, ∀ t ∈ allW r, dep (enc t) ≤ dep (enc r)
  | .inn a => by simp [allW]
  | .seen c n => by simp [allW]
  | .made w xs => by
    intro t ht
    simp only [allW, List.mem_cons] at ht
    rcases ht with rfl | ht
    · exact Nat.le_refl _
    · have := allWL_dep xs t ht
      simp only [enc, dep, depL] at this ⊢
      omega
theorem allWL_dep : ∀ xs : List Rs, ∀ t ∈ allWL xs, dep (enc t) ≤ depL (encL xs)
  | [] => by simp [allWL]
  | x :: xs => by
    intro t ht
    simp only [allWL, List.mem_append] at ht
    simp only [encL, depL]
    rcases ht with ht | ht
    · have := allW_dep x t ht; omega
    · have := allWL_dep xs t ht; omega
end
theorem log_small {i : Int} (h : i.natAbs ≤ 2 * 10 ^ 39) : i.natAbs.log2 < 1920 := by
  by_cases z : i.natAbs = 0
  · rw [z]; decide
  · rw [Nat.log2_lt z]
    exact Nat.lt_of_le_of_lt h (by decide +kernel)
mutual
theorem later_fit (f : Str → Int) (hf : ∀ c, (f c).natAbs ≤ 10 ^ 39) : ∀ r : Rs, smallR r = true → goodD (enc r) = true → goodD (enc (laterR f r)) = true ∧ swt (enc (laterR f r)) = swt (enc r) ∧ dep (enc (laterR f r)) = dep (enc r)
  | .inn a, _, h => ⟨h, rfl, rfl⟩
  | .seen c n, hs, h => by
    have hn : n.natAbs ≤ 10 ^ 39 := by simpa only [smallR, decide_eq_true_eq] using hs
    have hc := hf c
    have hl : (n + f c).natAbs.log2 < 1920 := log_small (by omega)
    simp only [enc, goodD, goodL, Bool.and_eq_true, decide_eq_true_eq] at h
    refine ⟨?_, by simp only [laterR, enc, swt, swtL], by simp only [laterR, enc, dep, depL]⟩
    simp only [laterR, enc, goodD, goodL, Bool.and_eq_true, decide_eq_true_eq]
    exact ⟨h.1, h.2.1, hl, trivial⟩
  | .made w xs, hs, h => by
    simp only [enc, goodD, goodL, Bool.and_eq_true] at h
    obtain ⟨a, b, c⟩ := later_fitL f hf xs (by simpa only [smallR] using hs) h.2.2.1
    refine ⟨?_, ?_, ?_⟩
    · simp only [laterR, enc, goodD, goodL, Bool.and_eq_true]
      exact ⟨h.1, h.2.1, a, h.2.2.2⟩
    · simp only [laterR, enc, swt, swtL, b]
    · simp only [laterR, enc, dep, depL, c]
theorem later_fitL (f : Str → Int) (hf : ∀ c, (f c).natAbs ≤ 10 ^ 39) : ∀ xs : List Rs, smallL xs = true → goodL (encL xs) = true → goodL (encL (laterL f xs)) = true ∧ swtL (encL (laterL f xs)) = swtL (encL xs) ∧ depL (encL (laterL f xs)) = depL (encL xs)
  | [], _, _ => ⟨rfl, rfl, rfl⟩
  | x :: xs, hs, h => by
    simp only [smallL, Bool.and_eq_true] at hs
    simp only [encL, goodL, Bool.and_eq_true] at h
    obtain ⟨a, b, c⟩ := later_fit f hf x hs.1 h.1
    obtain ⟨a', b', c'⟩ := later_fitL f hf xs hs.2 h.2
    refine ⟨?_, ?_, ?_⟩
    · simp only [laterL, encL, goodL, a, a', Bool.and_self]
    · simp only [laterL, encL, swtL, b, b']
    · simp only [laterL, encL, depL, c, c']
end
end Rs24
namespace K24
open PySem L2 Dy Rs24
/-- == of one thing with itself -/
theorem gEq_same {M : MS} {s t : SV} {d : D} (h1 : peek M s = some d) (h2 : peek M t = some d) (hf : flatB d = true) (hd : dep d ≤ 60) (hs : eqT M s t = eqL M s t) : gEq M s t = some (.sv (.dt (.bl true))) := by
  obtain ⟨p, e1, e2, e3⟩ := flat_toP hf
  have sh := flat_shaped hf (by omega) e1
  have e := gEq_data h1 h2 e1 e1 sh sh
  rw [SeqAt.eqv_refl_plain p (PyData.plain_of_canLay0 p e2)] at e
  unfold gEq
  rw [hs]
  unfold eqL
  rw [e]
  rfl
theorem repr_peek {M M' : MS} {s : SV} {d : D} (h : peek M s = some d) : reprS M s = reprS M' (.dt d) := by
  unfold reprS
  rw [h, peek_dt']
section
variable (aF aP : Addr)
theorem alike_ok (k : Nat) {M : MS} {s t : SV} {d : D} (h1 : peek M s = some d) (h2 : peek M t = some d) (hf : flatB d = true) (hg : goodD d = true) (hw : swt d ≤ 16777216) (hd : dep d ≤ 60) (hs : eqT M s t = eqL M s t) : tab aF aP (k + 1) i__law_alike [s, t] M = some (.sv (.dt (.bl true)), M) := by
  show runBody (m__law_alike (tab aF aP k) aF aP) 2 [s, t] M = _
  rw [runBody_eq]
  unfold m__law_alike
  obtain ⟨x, hx⟩ := repr_ok M hg hw (by omega)
  have e1 := repr_peek (M' := M) h1
  have e2 := repr_peek (M' := M) h2
  have e3 := gEq_same h1 h2 hf hd hs
  rw [hx] at e1 e2
  simp [eVar, e1, e2, e3]
end
end K24

set_option Elab.async false
set_option linter.all false
set_option maxRecDepth 100000
set_option maxHeartbeats 4000000
namespace K24
open PySem L2 Dy Rs24
section
variable (aF aP : Addr)
/-! ### _law_right -/
def rLoop (T : Nat → Fn) : SM := (sFor (eSeq (eTup (eCons (eC (.str (Str.ofString "c"))) (eCons (eC (.str (Str.ofString "d"))) eNil)))) (bName 3) (sIf (eBool (eBin gGt (eFn (T i__law_take) (eCons (eVar 0) (eCons (eC (.int 3)) eNil))) (eC (.int 0)))) (sPutD (eVar 2) (eVar 3) (eBin gIx (eLst (eCons (eC (.int 0)) (eCons (eC (.int 1)) (eCons (eC (.int 5)) (eCons (eBin gPow (eC (.int 10)) (eC (.int 39))) eNil))))) (eFn (T i__law_take) (eCons (eVar 0) (eCons (eC (.int 4)) eNil))))) sNext))
def rDue (T : Nat → Fn) : SM := (sSet 4 (eLst (eCons (eIf (eBool (eBin gEq (eBin gIx (eVar 1) (eC (.int 0))) (eC (.str sMade)))) (eBin gIx (eVar 1) (eC (.int 1))) (eC .non)) (eCons (eFn (T i__law_in) (eCons (eVar 1) eNil)) (eCons (eFn (T i__law_later) (eCons (eVar 1) (eCons (eVar 2) eNil))) eNil)))))
def rRep : SM := (sSet 5 (eCall (g1 reprS) (eCons (eVar 2) eNil)))
def rNew (T : Nat → Fn) : SM := (sNewL 7 (rConsD (eFn (T i_word_of) (eCons (eVar 1) eNil)) (rConsN (eFn (T i_within) (eCons (eVar 1) eNil)) (rConsD (eFn (T i_later) (eCons (eVar 1) (eCons (eVar 2) eNil))) rNil))))
def rIf (T : Nat → Fn) : SM := (sIf (tNotB (eTru (eFn (T i__law_alike) (eCons (eVar 7) (eCons (eVar 4) eNil))))) (sRet (eC (.bl false))) sNext)
def rApp : SM := (sExpr (eMt "list" gAppend (eBin gIx (eVar 7) (eC (.int 1))) (eCons (eC .non) eNil)))
def rFor (T : Nat → Fn) : SM := (sFor (eRng1 (eCons (eC (.int 2)) eNil)) (bName 6) (sSeq (rNew T) (sSeq (rIf T) rApp)))
def rEnd : SM := (sRet (eBin gEq (eCall (g1 reprS) (eCons (eVar 2) eNil)) (eVar 5)))
theorem right_eq (T : Nat → Fn) : m__law_right T aF aP = sSeq (sNew 2 eDict0) (sSeq (rLoop T) (sSeq (rDue T) (sSeq rRep (sSeq (rFor T) rEnd)))) := by
  unfold m__law_right
  rw [lits.2.2]
  rfl
/-- the numbers by their names -/
def nK (L : List (Str × Int)) : List Key := L.map fun p => .inr p.1
def nD (L : List (Str × Int)) : List D := L.map fun p => .int p.2
theorem lookK_map {α β : Type} (g : α → β) (k : Key) : ∀ (ks : List Key) (xs : List α), lookK k ks (xs.map g) = (lookK k ks xs).map g
  | [], _ => rfl
  | _ :: _, [] => rfl
  | j :: ks, x :: xs => by
    simp only [List.map_cons, lookK]
    by_cases h : j = k
    · simp [h]
    · simp [h, lookK_map g k ks xs]
theorem lookK_mem {α : Type} {k : Key} {x : α} : ∀ {ks : List Key} {xs : List α}, lookK k ks xs = some x → x ∈ xs
  | [], _, h => by cases h
  | _ :: _, [], h => by cases h
  | j :: ks, y :: xs, h => by
    simp only [lookK] at h
    by_cases e : j = k
    · rw [if_pos e] at h; cases h; simp
    · rw [if_neg e] at h; exact List.mem_cons_of_mem _ (lookK_mem h)
def nF (L : List (Str × Int)) (c : Str) : Int := (lookK (.inr c) (nK L) (L.map (·.2))).getD 0
theorem nF_le {L : List (Str × Int)} (h : ∀ p ∈ L, p.2.natAbs ≤ 10 ^ 39) (c : Str) : (nF L c).natAbs ≤ 10 ^ 39 := by
  unfold nF
  cases e : lookK (.inr c) (nK L) (L.map (·.2)) with
  | none => simp
  | some x =>
    obtain ⟨p, hp, rfl⟩ := List.mem_map.mp (lookK_mem e)
    exact h p hp
theorem nF_look (L : List (Str × Int)) (c : Str) : (lookK (.inr c) (nK L) ((nD L).map SV.dt)).getD (.dt (.int 0)) = .dt (.int (nF L c)) := by
  have e : (nD L).map SV.dt = (L.map (·.2)).map (fun i => SV.dt (.int i)) := by simp [nD]
  rw [e, lookK_map]
  unfold nF
  cases lookK (.inr c) (nK L) (L.map (·.2)) <;> rfl
theorem nD_fit {L : List (Str × Int)} (hn : L.length ≤ 2) (hk : ∀ p ∈ L, okS p.1 = true ∧ p.1.length ≤ 4) (h : ∀ p ∈ L, p.2.natAbs ≤ 10 ^ 39) : goodD (.dct (nK L) (nD L)) = true ∧ swt (.dct (nK L) (nD L)) ≤ 10000 ∧ dep (.dct (nK L) (nD L)) ≤ 1 := by
  match L, hn with
  | [], _ => exact ⟨rfl, by decide, by decide⟩
  | [p], _ =>
    have k := hk p (by simp)
    have l := log_small (i := p.2) (by have := h p (by simp); omega)
    refine ⟨?_, ?_, ?_⟩
    · simp [nK, nD, goodD, goodL, okK, k.1, l]
    · simp [nK, nD, swt, swtL, kwt]
      omega
    · simp [nK, nD, dep, depL]
  | [p, q], _ =>
    have k := hk p (by simp)
    have l := log_small (i := p.2) (by have := h p (by simp); omega)
    have k' := hk q (by simp)
    have l' := log_small (i := q.2) (by have := h q (by simp); omega)
    refine ⟨?_, ?_, ?_⟩
    · simp [nK, nD, goodD, goodL, okK, k.1, l, k'.1, l']
    · simp [nK, nD, swt, swtL, kwt]
      omega
    · simp [nK, nD, dep, depL]
def nums2 : List D := [.int 0, .int 1, .int 5, .int (10 ^ 39)]
theorem num2 : ∀ d ∈ nums2, numB d = true := List.all_eq_true.mp (by decide +kernel : nums2.all numB = true)
def cdS : List D := [.str (Str.ofString "c"), .str (Str.ofString "d")]
theorem cd_short : ∀ d ∈ cdS, shortB d = true := List.all_eq_true.mp (by decide +kernel : cdS.all shortB = true)
theorem cd_ne : Str.ofString "c" ≠ Str.ofString "d" := by decide +kernel
/-- the first loop's state -/
structure NumsI (i : Nat) (L : List (Str × Int)) : Prop where
  sub : (nK L).Sublist ([(.inr (Str.ofString "c") : Key), .inr (Str.ofString "d")].take i)
  sm : ∀ p ∈ L, p.2.natAbs ≤ 10 ^ 39
theorem rLoop_ok (k : Nat) (d0 : D) {B : MO} (hB : BagO B) (x4 x5 x6 x7 : Option SV) : ∃ y L B', rLoop (tab aF aP (k + 1)) [some (.mu 0), some (.dt d0), some (.mu 1), none, x4, x5, x6, x7] [B, .d [] []] = some (.nx [some (.mu 0), some (.dt d0), some (.mu 1), y, x4, x5, x6, x7] [B', .d (nK L) ((nD L).map .dt)]) ∧ BagO B' ∧ NumsI 2 L := by
  obtain ⟨src, hs, his⟩ := seq_src (M := [B, .d [] []]) (ds := cdS) (.inr rfl)
  have em : eSeq (eTup (eCons (eC (.str (Str.ofString "c"))) (eCons (eC (.str (Str.ofString "d"))) eNil))) [some (.mu 0), some (.dt d0), some (.mu 1), none, x4, x5, x6, x7] [B, .d [] []] = some (src, [B, .d [] []]) := eSeq_of (r := .sv (.dt (.tup cdS))) (by simp [cdS]) hs
  obtain ⟨ρ', M', ef, y, L, B', rfl, rfl, hB', hL⟩ := for_ix (b := bName 3) (body := (sIf (eBool (eBin gGt (eFn (tab aF aP (k + 1) i__law_take) (eCons (eVar 0) (eCons (eC (.int 3)) eNil))) (eC (.int 0)))) (sPutD (eVar 2) (eVar 3) (eBin gIx (eLst (eCons (eC (.int 0)) (eCons (eC (.int 1)) (eCons (eC (.int 5)) (eCons (eBin gPow (eC (.int 10)) (eC (.int 39))) eNil))))) (eFn (tab aF aP (k + 1) i__law_take) (eCons (eVar 0) (eCons (eC (.int 4)) eNil))))) sNext))
    (fun i ρ M => ∃ y L B', ρ = [some (.mu 0), some (.dt d0), some (.mu 1), y, x4, x5, x6, x7] ∧ M = [B', .d (nK L) ((nD L).map .dt)] ∧ BagO B' ∧ NumsI i L) em his ⟨none, [], B, rfl, rfl, hB, ⟨by simp [nK], by simp⟩⟩ (by
      rintro i x hx ρ M ⟨y, L, B1, rfl, rfl, hB1, hL⟩
      refine ⟨_, rfl, ?_⟩
      obtain ⟨q, B2, e2, hB2, q0, q1⟩ := take_tab aF aP k (R := [.d (nK L) ((nD L).map .dt)]) hB1 (n := 3) (by decide) (by decide)
      by_cases hq : 0 < q
      · obtain ⟨j, B3, e3, hB3, j0, j1⟩ := take_tab aF aP k (R := [.d (nK L) ((nD L).map .dt)]) hB2 (n := 4) (by decide) (by decide)
        obtain ⟨d, hd, ed, _⟩ := gIx_lst (M := B3 :: [.d (nK L) ((nD L).map .dt)]) (ds := nums2) j0 (by simpa [nums2] using j1)
        obtain ⟨v, rfl, _, hv⟩ := num_int (num2 d hd)
        have key : ∃ c : Str, x = .dt (.str c) ∧ putKD (.inr c) (.int v) (nK L) (nD L) = (nK (L ++ [(c, v)]), nD (L ++ [(c, v)])) ∧ NumsI (i + 1) (L ++ [(c, v)]) := by
          have sm : ∀ c : Str, ∀ p ∈ L ++ [(c, v)], p.2.natAbs ≤ 10 ^ 39 := by
            intro c p hp
            rcases List.mem_append.mp hp with hp | hp
            · exact hL.sm p hp
            · rw [List.mem_singleton.mp hp]; exact hv
          match i, hx, hL with
          | 0, hx, hL =>
            obtain rfl : SV.dt (.str (Str.ofString "c")) = x := by simpa [cdS] using hx
            have hk : nK L = [] := by simpa using hL.sub
            obtain rfl : L = [] := by simpa [nK] using hk
            exact ⟨_, rfl, rfl, ⟨by simp [nK], sm _⟩⟩
          | 1, hx, hL =>
            obtain rfl : SV.dt (.str (Str.ofString "d")) = x := by simpa [cdS] using hx
            have hsub : (nK L).Sublist [.inr (Str.ofString "c")] := hL.sub
            refine ⟨_, rfl, ?_, ⟨?_, sm _⟩⟩
            · have no : ((nK L).any fun j => decide (j = .inr (Str.ofString "d"))) = false := by
                rw [List.any_eq_false]
                intro j hj
                have := hsub.subset hj
                simp only [List.mem_singleton] at this
                subst this
                simp [cd_ne]
              unfold putKD
              rw [no]
              simp [nK, nD]
            · have : nK (L ++ [(Str.ofString "d", v)]) = nK L ++ [.inr (Str.ofString "d")] := by simp [nK]
              rw [this]
              exact hsub.append (List.Sublist.refl _)
          | i + 2, hx, hL => simp [cdS] at hx
        obtain ⟨c, rfl, hp, hI⟩ := key
        have hlen : (nK L).length < sizeLine := by
          have := hL.sub.length_le
          rw [sizeLine_eq]
          simp at this
          omega
        have pa : Dy.putAt [B3, .d (nK L) ((nD L).map .dt)] (.mu 1) (.dt (.str c)) (.dt (.int v)) = some [B3, .d (nK (L ++ [(c, v)])) ((nD (L ++ [(c, v)])).map .dt)] := by
          unfold Dy.putAt
          simp only [muD, List.getElem?_cons_succ, List.getElem?_cons_zero, keyD, allD_map, if_pos hlen, hp]
          rfl
        refine ⟨[some (.mu 0), some (.dt d0), some (.mu 1), some (.dt (.str c)), x4, x5, x6, x7], [B3, .d (nK (L ++ [(c, v)])) ((nD (L ++ [(c, v)])).map .dt)], ?_, _, _, _, rfl, rfl, hB3, hI⟩
        have ed : gIx [B3, .d (nK L) ((nD L).map .dt)] (.dt (.lst [.int 0, .int 1, .int 5, .int (10 ^ 39)])) (.dt (.int j)) = some (.sv (.dt (.int v))) := ed
        have pw : gPow [B2, .d (nK L) ((nD L).map .dt)] (.dt (.int 10)) (.dt (.int 39)) = some (.sv (.dt (.int (10 ^ 39)))) := by simp [gPow, int2]
        rw [sIf_ev]
        have t1 : eBool (eBin gGt (eFn (tab aF aP (k + 1) i__law_take) (eCons (eVar 0) (eCons (eC (.int 3)) eNil))) (eC (.int 0))) [some (.mu 0), some (.dt d0), some (.mu 1), some (.dt (.str c)), x4, x5, x6, x7] [B1, .d (nK L) ((nD L).map .dt)] = some (true, [B2, .d (nK L) ((nD L).map .dt)]) := by
          simp [eVar, e2, hq]
        have en : ([some (.mu 0), some (.dt d0), some (.mu 1), y, x4, x5, x6, x7] : Dy.Env).set 3 (some (.dt (.str c))) = [some (.mu 0), some (.dt d0), some (.mu 1), some (.dt (.str c)), x4, x5, x6, x7] := rfl
        rw [en, t1, Option.bind_some, if_pos rfl, sPutD_ev]
        have vl : eBin gIx (eLst (eCons (eC (.int 0)) (eCons (eC (.int 1)) (eCons (eC (.int 5)) (eCons (eBin gPow (eC (.int 10)) (eC (.int 39))) eNil))))) (eFn (tab aF aP (k + 1) i__law_take) (eCons (eVar 0) (eCons (eC (.int 4)) eNil))) [some (.mu 0), some (.dt d0), some (.mu 1), some (.dt (.str c)), x4, x5, x6, x7] [B2, .d (nK L) ((nD L).map .dt)] = some (.sv (.dt (.int v)), [B3, .d (nK L) ((nD L).map .dt)]) := by
          have e3 : tab aF aP (k + 1) i__law_take [.mu 0, .dt (.int 4)] [B2, .d (nK L) ((nD L).map .dt)] = some (.sv (.dt (.int j)), [B3, .d (nK L) ((nD L).map .dt)]) := e3
          simp [eVar, pw, e3] at ed ⊢
          simp [ed]
        rw [vl, Option.bind_some]
        simp only [eVar, List.getElem?_cons_succ, List.getElem?_cons_zero, Option.bind_some, toSV_sv, pa]
      · refine ⟨[some (.mu 0), some (.dt d0), some (.mu 1), some x, x4, x5, x6, x7], [B2, .d (nK L) ((nD L).map .dt)], ?_, _, _, _, rfl, rfl, hB2, ⟨hL.sub.trans ?_, hL.sm⟩⟩
        · simp [eVar, e2, hq]
        · exact (List.take_prefix_take_left (by omega)).sublist)
  exact ⟨y, L, B', ef, hB', by simpa [cdS] using hL⟩

noncomputable def due (r : Rs) (L : List (Str × Int)) : D := .lst [wordR r, .lst ((once (allW r)).map enc), enc (laterR (nF L) r)]
theorem word_fit {r : Rs} (h : Ok (enc r)) : goodD (wordR r) = true ∧ flatB (wordR r) = true ∧ swt (wordR r) ≤ swt (enc r) + 5 ∧ dep (wordR r) = 0 := by
  cases r with
  | inn a => exact ⟨rfl, rfl, by simp only [wordR, swt]; omega, rfl⟩
  | seen c n => exact ⟨rfl, rfl, by simp only [wordR, swt]; omega, rfl⟩
  | made w xs =>
    have g := h.g
    simp only [enc, goodD, goodL, Bool.and_eq_true] at g
    exact ⟨g.2.1, g.2.1, by simp only [wordR, enc, swt, swtL]; omega, rfl⟩
theorem due_fit {r : Rs} {L : List (Str × Int)} (h : Fit 200000 9 (enc r)) (hs : smallR r = true) (hL : ∀ p ∈ L, p.2.natAbs ≤ 10 ^ 39) : flatB (due r L) = true ∧ goodD (due r L) = true ∧ swt (due r L) ≤ 16777216 ∧ dep (due r L) ≤ 60 := by
  have ok : Ok (enc r) := h.ok (by decide) (by decide)
  obtain ⟨w1, w2, w3, w4⟩ := word_fit ok
  obtain ⟨l1, l2, l3⟩ := later_fit (nF L) (nF_le hL) r hs h.g
  have l4 := good_flat _ l1
  have oks : ∀ t ∈ once (allW r), Ok (enc t) := fun t ht => allW_ok r ok t ((once_mem _ t).mp ht)
  have g : goodL ((once (allW r)).map enc) = true := goodL_of fun d hd => by
    obtain ⟨t, ht, rfl⟩ := List.mem_map.mp hd
    exact (oks t ht).g
  have f : flatL ((once (allW r)).map enc) = true := flatL_of fun d hd => by
    obtain ⟨t, ht, rfl⟩ := List.mem_map.mp hd
    exact good_flat t (oks t ht).g
  have e : depL ((once (allW r)).map enc) ≤ dep (enc r) := depL_of fun d hd => by
    obtain ⟨t, ht, rfl⟩ := List.mem_map.mp hd
    exact allW_dep r t ((once_mem _ t).mp ht)
  have s1 := once_swt (allW r)
  have s2 := allW_swt r
  have s3 : dep (enc r) * (swt (enc r) + 2) ≤ 9 * (200000 + 2) := Nat.mul_le_mul h.e (by have := h.w; omega)
  have hw := h.w
  have he := h.e
  refine ⟨?_, ?_, ?_, ?_⟩
  · simp only [due, Dy.flatB, flatL, w2, f, l4, Bool.and_self]
  · simp only [due, goodD, goodL, w1, g, l1, Bool.and_self]
  · simp only [due, swt, swtL]
    omega
  · simp only [due, dep, depL]
    omega
noncomputable def rEnv (r : Rs) (L : List (Str × Int)) (x : Str) (y z w : Option SV) : Dy.Env := [some (.mu 0), some (.dt (enc r)), some (.mu 1), y, some (.dt (due r L)), some (.dt (.str x)), z, w]
theorem num_M {B : MO} {L : List (Str × Int)} (J : MS) : NumD (B :: .d (nK L) ((nD L).map .dt) :: J) (.mu 1) (nF L) := ⟨_, _, rfl, nF_look L⟩
theorem dict_peek {B : MO} {L : List (Str × Int)} (J : MS) : peek (B :: .d (nK L) ((nD L).map .dt) :: J) (.mu 1) = some (.dct (nK L) (nD L)) := by
  show (match peeks (peekN 2 _) ((nD L).map .dt) with | some ds => some (D.dct (nK L) ds) | none => none) = _
  rw [peeks_map]
theorem turn_right (k n : Nat) {r : Rs} {L : List (Str × Int)} {B : MO} {x : Str} (h : Fit 200000 9 (enc r)) (hs : smallR r = true) (hL : ∀ p ∈ L, p.2.natAbs ≤ 10 ^ 39) (y z w : Option SV) (J : MS) :
    ∃ w' J', sSeq (rNew (tab aF aP (k + 9 + 2))) (sSeq (rIf (tab aF aP (k + 9 + 2))) rApp) (rEnv r L x y z w) (B :: .d (nK L) ((nD L).map .dt) :: J) = some (.nx (rEnv r L x y z w') (B :: .d (nK L) ((nD L).map .dt) :: J')) := by
  have ok : Ok (enc r) := h.ok (by decide) (by decide)
  have e1 := word_of_ok aF aP (k + 9 + 1) r (B :: .d (nK L) ((nD L).map .dt) :: J)
  have e2 := within_ok aF aP 9 k r (B :: .d (nK L) ((nD L).map .dt) :: J) ok h.e
  have e3 : tab aF aP (k + 9 + 2) i_later [.dt (enc r), .mu 1] (B :: .d (nK L) ((nD L).map .dt) :: J) = _ := later_ok aF aP (nF L) 9 (k + 1) r (.mu 1) _ (num_M J) ok h.e
  obtain ⟨d1, d2, d3, d4⟩ := due_fit h hs hL
  have sz : 3 ≤ sizeLine := by rw [sizeLine_eq]; decide
  have n1 : rNew (tab aF aP (k + 9 + 2)) (rEnv r L x y z w) (B :: .d (nK L) ((nD L).map .dt) :: J) = some (.nx (rEnv r L x y z (some (.mu (J.length + 3)))) (B :: .d (nK L) ((nD L).map .dt) :: (J ++ [.l (((once (allW r)).map enc).map .dt), .l [.dt (wordR r), .mu (J.length + 2), .dt (enc (laterR (nF L) r))]]))) := by
    unfold rNew sNewL
    simp [eVar, rEnv, e1, e2, e3, allocL, sz]
  rw [sSeq_nx n1]
  have ln : (((once (allW r)).map enc).map SV.dt).length < 16777216 := by
    rw [List.length_map, List.length_map]
    have a := once_len_le (allW r)
    have b := allW_len r
    have c := h.w
    omega
  refine ⟨some (.mu (J.length + 3)), J ++ [.l (((once (allW r)).map enc).map .dt ++ [.dt .non]), .l [.dt (wordR r), .mu (J.length + 2), .dt (enc (laterR (nF L) r))]], ?_⟩
  generalize hM : (B :: .d (nK L) ((nD L).map .dt) :: (J ++ [.l (((once (allW r)).map enc).map .dt), .l [.dt (wordR r), .mu (J.length + 2), .dt (enc (laterR (nF L) r))]]) : MS) = M
  have g2 : M[J.length + 2]? = some (.l (((once (allW r)).map enc).map .dt)) := by rw [← hM]; simp
  have g3 : M[J.length + 3]? = some (.l [.dt (wordR r), .mu (J.length + 2), .dt (enc (laterR (nF L) r))]) := by
    rw [← hM]
    simp only [List.getElem?_cons_succ]
    rw [List.getElem?_append_right (by omega)]
    simp
  have st : M.set (J.length + 2) (.l (((once (allW r)).map enc).map .dt ++ [.dt .non])) = B :: .d (nK L) ((nD L).map .dt) :: (J ++ [.l (((once (allW r)).map enc).map .dt ++ [.dt .non]), .l [.dt (wordR r), .mu (J.length + 2), .dt (enc (laterR (nF L) r))]]) := by
    rw [← hM]; simp
  have pk : peek M (.mu (J.length + 3)) = some (due r L) := by
    have p2 : peekN 2 M (.mu (J.length + 2)) = some (.lst ((once (allW r)).map enc)) := by
      unfold peekN
      rw [g2]
      dsimp only
      rw [peeks_map]
    show peekN 3 M (.mu (J.length + 3)) = _
    unfold peekN
    rw [g3]
    dsimp only
    simp only [peeks, p2, peek_dt]
    rfl
  have al : tab aF aP (k + 9 + 2) i__law_alike [.mu (J.length + 3), .dt (due r L)] M = _ := alike_ok aF aP (k + 9 + 1) pk (peek_dt' _) d1 d2 d3 d4 rfl
  have n2 : rIf (tab aF aP (k + 9 + 2)) (rEnv r L x y z (some (.mu (J.length + 3)))) M = some (.nx (rEnv r L x y z (some (.mu (J.length + 3)))) M) := by
    unfold rIf
    simp [eVar, rEnv, al]
  rw [sSeq_nx n2]
  have gx : gIx M (.mu (J.length + 3)) (.dt (.int 1)) = some (.sv (.mu (J.length + 2))) := by
    unfold gIx
    simp only [itemsOf, Dy.listOf, g3]
    rfl
  have ga := gAppend_mu (d := .non) g2 ln
  rw [st] at ga
  have ty : isTyS "list" M (.mu (J.length + 2)) = true := by simp [isTyS, tyS, g2]
  unfold rApp
  simp [eVar, rEnv, gx, ty, ga]
theorem law_right_ok (k : Nat) {r : Rs} {B : MO} (hB : BagO B) (h : Fit 200000 9 (enc r)) (hs : smallR r = true) : ∃ B', tab aF aP (k + 9 + 3) i__law_right [.mu 0, .dt (enc r)] [B] = some (.sv (.dt (.bl true)), [B']) ∧ BagO B' := by
  show ∃ B', fin (m__law_right (tab aF aP (k + 9 + 2)) aF aP [some (.mu 0), some (.dt (enc r)), none, none, none, none, none, none] [B]) 1 = _ ∧ _
  have ok : Ok (enc r) := h.ok (by decide) (by decide)
  rw [right_eq]
  have s1 : sNew 2 eDict0 [some (.mu 0), some (.dt (enc r)), none, none, none, none, none, none] [B] = some (.nx [some (.mu 0), some (.dt (enc r)), some (.mu 1), none, none, none, none, none] [B, .d [] []]) := rfl
  rw [sSeq_nx s1]
  obtain ⟨y, L, B1, s2, hB1, hL⟩ := rLoop_ok aF aP (k + 9 + 1) (enc r) hB none none none none
  rw [sSeq_nx s2]
  have e2 := law_in_ok aF aP 9 k r [B1, .d (nK L) ((nD L).map .dt)] ok h.e
  have e3 : tab aF aP (k + 9 + 2) i__law_later [.dt (enc r), .mu 1] [B1, .d (nK L) ((nD L).map .dt)] = _ := law_later_ok aF aP (nF L) 9 (k + 1) r (.mu 1) _ (num_M []) ok h.e
  have sz : 3 ≤ sizeLine := by rw [sizeLine_eq]; decide
  have s3 : rDue (tab aF aP (k + 9 + 2)) [some (.mu 0), some (.dt (enc r)), some (.mu 1), y, none, none, none, none] [B1, .d (nK L) ((nD L).map .dt)] = some (.nx [some (.mu 0), some (.dt (enc r)), some (.mu 1), y, some (.dt (due r L)), none, none, none] [B1, .d (nK L) ((nD L).map .dt)]) := by
    have hw : eIf (eBool (eBin gEq (eBin gIx (eVar 1) (eC (.int 0))) (eC (.str sMade)))) (eBin gIx (eVar 1) (eC (.int 1))) (eC .non) [some (.mu 0), some (.dt (enc r)), some (.mu 1), y, none, none, none, none] [B1, .d (nK L) ((nD L).map .dt)] = some (.sv (.dt (wordR r)), [B1, .d (nK L) ((nD L).map .dt)]) := by
      cases r with
      | inn a => simp [eVar, enc, wordR, (by decide +kernel : sIn ≠ sMade)]
      | seen c n => simp [eVar, enc, wordR, (by decide +kernel : sSeen ≠ sMade)]
      | made w xs => simp [eVar, enc, wordR]
    unfold rDue
    simp [-eIf_ev, hw, eVar, e2, e3, sz, due]
  rw [sSeq_nx s3]
  have hn : L.length ≤ 2 := by have := hL.sub.length_le; simpa [nK] using this
  have hk : ∀ p ∈ L, okS p.1 = true ∧ p.1.length ≤ 4 := by
    intro p hp
    have := hL.sub.subset (List.mem_map.mpr ⟨p, hp, rfl⟩)
    simp at this
    obtain ⟨z, hz, h1, h2⟩ := short_str (cd_short (.str p.1) (by rcases this with e | e <;> simp [cdS, e]))
    cases hz
    exact ⟨h1, h2⟩
  obtain ⟨g1', g2', g3'⟩ := nD_fit hn hk hL.sm
  obtain ⟨x, hx⟩ := repr_ok [B1, .d (nK L) ((nD L).map .dt)] g1' (by omega) (by omega)
  have rp : ∀ J, reprS (B1 :: .d (nK L) ((nD L).map .dt) :: J) (.mu 1) = some (.sv (.dt (.str x))) := fun J => by
    rw [repr_peek (dict_peek J), hx]
  have s4 : rRep [some (.mu 0), some (.dt (enc r)), some (.mu 1), y, some (.dt (due r L)), none, none, none] [B1, .d (nK L) ((nD L).map .dt)] = some (.nx (rEnv r L x y none none) [B1, .d (nK L) ((nD L).map .dt)]) := by
    unfold rRep
    simp [eVar, rp [], rEnv]
  rw [sSeq_nx s4]
  obtain ⟨ρ', M', s5, z, w, J, rfl, rfl⟩ := for_inv (b := bName 6) (body := sSeq (rNew (tab aF aP (k + 9 + 2))) (sSeq (rIf (tab aF aP (k + 9 + 2))) rApp)) (ms := eRng1 (eCons (eC (.int 2)) eNil)) (ρ := rEnv r L x y none none) (M := [B1, .d (nK L) ((nD L).map .dt)]) (M0 := [B1, .d (nK L) ((nD L).map .dt)])
    (fun ρ M => ∃ z w J, ρ = rEnv r L x y z w ∧ M = B1 :: .d (nK L) ((nD L).map .dt) :: J) (by simp [isRange_of]) (isSrc_rng 0 2) ⟨none, none, [], rfl, rfl⟩ (by
      rintro i hi ρ M ⟨z, w, J, rfl, rfl⟩
      obtain ⟨w', J', e⟩ := turn_right aF aP k 0 h hs hL.sm y (some i) w J (B := B1) (x := x)
      exact ⟨rEnv r L x y (some i) w, rfl, _, _, e, _, _, _, rfl, rfl⟩)
  have s5' : rFor (tab aF aP (k + 9 + 2)) (rEnv r L x y none none) [B1, .d (nK L) ((nD L).map .dt)] = _ := s5
  rw [sSeq_nx s5']
  refine ⟨B1, ?_, hB1⟩
  unfold rEnd
  simp [eVar, rEnv, rp]
end
end K24

set_option Elab.async false
set_option linter.all false
set_option maxRecDepth 100000
set_option maxHeartbeats 4000000
namespace K24
open PySem L2 Dy Rs24
section
variable (aF aP : Addr)
/-! ### the law's items -/
def It (d : D) : Prop := (Ok d ∧ dep d ≤ 40) ∨ d = .obj aP
theorem is_result_obj (k : Nat) (M : MS) : tab aF aP (k + 1) i_is_result [.dt (.obj aP)] M = some (.sv (.dt (.bl false)), M) := by
  show runBody (m_is_result (tab aF aP k) aF aP) 2 [.dt (.obj aP)] M = _
  rw [runBody_eq]
  unfold m_is_result
  simp [eVar, isiS, tyS, isi1]
theorem law_is_result_obj (k : Nat) (M : MS) : tab aF aP (k + 1) i__law_is_result [.dt (.obj aP)] M = some (.sv (.dt (.bl false)), M) := by
  show runBody (m__law_is_result (tab aF aP k) aF aP) 2 [.dt (.obj aP)] M = _
  rw [runBody_eq]
  unfold m__law_is_result
  simp [eVar, isiS, tyS, isi1]
theorem are_bad_obj (k : Nat) (M : MS) : tab aF aP (k + 1) i_are_bad [.dt (.obj aP)] M = some (.sv (.dt (.bl false)), M) := by
  show runBody (m_are_bad (tab aF aP k) aF aP) 2 [.dt (.obj aP)] M = _
  rw [runBody_eq]
  unfold m_are_bad
  simp [eVar, isiS, tyS, isi1]
theorem law_are_bad_obj (k : Nat) (M : MS) : tab aF aP (k + 1) i__law_are_bad [.dt (.obj aP)] M = some (.sv (.dt (.bl false)), M) := by
  show runBody (m__law_are_bad (tab aF aP k) aF aP) 3 [.dt (.obj aP)] M = _
  rw [runBody_eq]
  unfold m__law_are_bad
  simp [eVar, isiS, tyS, isi1]
/-- both ways answer alike -/
theorem two_ok {d : D} (h : It aP d) : ∃ b c : Bool, ∀ M, tab aF aP 69 i_is_result [.dt d] M = some (.sv (.dt (.bl b)), M) ∧ tab aF aP 69 i__law_is_result [.dt d] M = some (.sv (.dt (.bl b)), M) ∧ tab aF aP 69 i_are_bad [.dt d] M = some (.sv (.dt (.bl c)), M) ∧ tab aF aP 69 i__law_are_bad [.dt d] M = some (.sv (.dt (.bl c)), M) := by
  rcases h with ⟨h, hd⟩ | rfl
  · exact ⟨resN 41 d, badB 40 d, fun M => ⟨is_result_ok aF aP 40 26 d M h hd, law_is_result_ok aF aP 40 26 d M h hd, are_bad_ok aF aP 25 40 d M h (by omega), law_are_bad_ok aF aP 25 40 d M h (by omega)⟩⟩
  · exact ⟨false, false, fun M => ⟨is_result_obj aF aP 68 M, law_is_result_obj aF aP 68 M, are_bad_obj aF aP 68 M, law_are_bad_obj aF aP 68 M⟩⟩
theorem isC_ok {d : D} (h : Ok d) (M : MS) : isiCS aP M (.dt d) = some false := by
  have hg := h.g
  cases d with
  | ins C ns vs => simp [goodD] at hg
  | scr ns => simp [goodD] at hg
  | obj C => simp [goodD] at hg
  | _ => rfl
theorem shown_ok {d : D} (h : It aP d) : ∃ x : Str, (∀ M, isiCS aP M (.dt d) = some false ∧ reprS M (.dt d) = some (.sv (.dt (.str x)))) ∨ ((∀ M, isiCS aP M (.dt d) = some true) ∧ x = Str.ofString "") := by
  rcases h with ⟨h, hd⟩ | rfl
  · obtain ⟨x, hx⟩ := repr_ok [] h.g h.w (by omega)
    exact ⟨x, .inl fun M => ⟨isC_ok aP h M, by rw [repr_peek (M' := []) (peek_dt' d), hx]⟩⟩
  · exact ⟨_, .inr ⟨fun M => by simp [isiCS], rfl⟩⟩
theorem alike_bb (b c : Bool) (M : MS) : tab aF aP 69 i__law_alike [.dt (.lst [.bl b, .bl c]), .dt (.lst [.bl b, .bl c])] M = some (.sv (.dt (.bl true)), M) :=
  alike_ok aF aP 68 (d := .lst [.bl b, .bl c]) (peek_dt' _) (peek_dt' _) rfl rfl (by simp [swt, swtL]) (by simp [dep, depL]) rfl
def gA (T : Nat → Fn) : SM := (sPar 9 10 (eCons (eLst (eCons (eFn (T i__law_is_result) (eCons (eVar 8) eNil)) (eCons (eFn (T i__law_are_bad) (eCons (eVar 8) eNil)) eNil))) (eCons (eC (.str (Str.ofString ""))) eNil)))
def gB : SM := (sIf (tNotB (eTru (eIsiC aP (eVar 8)))) (sSet 10 (eCall (g1 reprS) (eCons (eVar 8) eNil))) sNext)
def gC0 (T : Nat → Fn) : SM := (sIf (tNotB (eTru (eFn (T i__law_alike) (eCons (eLst (eCons (eFn (T i_is_result) (eCons (eVar 8) eNil)) (eCons (eFn (T i_are_bad) (eCons (eVar 8) eNil)) eNil))) (eCons (eVar 9) eNil))))) (sRet (eC (.bl false))) sNext)
def gC (T : Nat → Fn) : SM := (sFor (eRng1 (eCons (eC (.int 2)) eNil)) (bName 11) (gC0 T))
def gD : SM := (sIf (tAndB (eBool (eBin gNe (eVar 10) (eC (.str (Str.ofString ""))))) (eBool (eBin gNe (eCall (g1 reprS) (eCons (eVar 8) eNil)) (eVar 10)))) (sRet (eC (.bl false))) sNext)
def lBody (T : Nat → Fn) : SM := sSeq (gA T) (sSeq (gB aP) (sSeq (gC T) gD))
def lEnv (x0 x2 x3 x4 x5 x6 x7 y8 y9 y10 y11 : Option SV) : Dy.Env := [x0, some (.mu 0), x2, x3, x4, x5, x6, x7, y8, y9, y10, y11]
theorem body_ok {d : D} (h : It aP d) (x0 x2 x3 x4 x5 x6 x7 y9 y10 y11 : Option SV) (M : MS) : ∃ z9 z10 z11, lBody aP (tab aF aP 69) (lEnv x0 x2 x3 x4 x5 x6 x7 (some (.dt d)) y9 y10 y11) M = some (.nx (lEnv x0 x2 x3 x4 x5 x6 x7 (some (.dt d)) z9 z10 z11) M) := by
  obtain ⟨b, c, hbc⟩ := two_ok aF aP h
  obtain ⟨e1, e2, e3, e4⟩ := hbc M
  obtain ⟨x, hx⟩ := shown_ok aP h
  have sz : 2 ≤ sizeLine := by rw [sizeLine_eq]; decide
  have s1 : gA (tab aF aP 69) (lEnv x0 x2 x3 x4 x5 x6 x7 (some (.dt d)) y9 y10 y11) M = some (.nx (lEnv x0 x2 x3 x4 x5 x6 x7 (some (.dt d)) (some (.dt (.lst [.bl b, .bl c]))) (some (.dt (.str (Str.ofString "")))) y11) M) := by
    unfold gA sPar lEnv
    simp [eVar, e2, e4, sz]
  have s2 : gB aP (lEnv x0 x2 x3 x4 x5 x6 x7 (some (.dt d)) (some (.dt (.lst [.bl b, .bl c]))) (some (.dt (.str (Str.ofString "")))) y11) M = some (.nx (lEnv x0 x2 x3 x4 x5 x6 x7 (some (.dt d)) (some (.dt (.lst [.bl b, .bl c]))) (some (.dt (.str x))) y11) M) := by
    unfold gB lEnv
    rcases hx with hx | ⟨hx, rfl⟩
    · simp [eVar, (hx M).1, (hx M).2]
    · simp [eVar, hx M]
  obtain ⟨ρ', M', s3, y, rfl, rfl⟩ := for_inv (b := bName 11) (body := gC0 (tab aF aP 69)) (ms := eRng1 (eCons (eC (.int 2)) eNil)) (ρ := lEnv x0 x2 x3 x4 x5 x6 x7 (some (.dt d)) (some (.dt (.lst [.bl b, .bl c]))) (some (.dt (.str x))) y11) (M := M) (M0 := M)
    (fun ρ M' => ∃ y, ρ = lEnv x0 x2 x3 x4 x5 x6 x7 (some (.dt d)) (some (.dt (.lst [.bl b, .bl c]))) (some (.dt (.str x))) y ∧ M' = M) (by simp [isRange_of]) (isSrc_rng 0 2) ⟨y11, rfl, rfl⟩ (by
      rintro i hi ρ M' ⟨y, rfl, rfl⟩
      refine ⟨lEnv x0 x2 x3 x4 x5 x6 x7 (some (.dt d)) (some (.dt (.lst [.bl b, .bl c]))) (some (.dt (.str x))) (some i), rfl, _, _, ?_, some i, rfl, rfl⟩
      have e5 := alike_bb aF aP b c M'
      unfold gC0 lEnv
      simp [eVar, e1, e3, e5, sz])
  refine ⟨some (.dt (.lst [.bl b, .bl c])), some (.dt (.str x)), y, ?_⟩
  unfold lBody
  have s3' : gC (tab aF aP 69) _ M' = _ := s3
  rw [sSeq_nx s1, sSeq_nx s2, sSeq_nx s3']
  unfold gD lEnv
  rcases hx with hx | ⟨hx, rfl⟩
  · by_cases z : x = Str.ofString ""
    · simp [eVar, z]
    · simp [eVar, z, (hx M').2]
  · simp [eVar]

/-! ### the law's turn -/
def lA (T : Nat → Fn) : SM := (sSet 3 (eFn (T i__law_result) (eCons (eVar 1) (eCons (eC (.int 4)) eNil))))
def lB (T : Nat → Fn) : SM := (sSet 5 (eComp (eRng1 (eCons (eFn (T i__law_take) (eCons (eVar 1) (eCons (eC (.int 4)) eNil))) eNil)) (bName 4) cYes (eFn (T i__law_result) (eCons (eVar 1) (eCons (eC (.int 2)) eNil))) [4]))
def lC (T : Nat → Fn) : SM := (sIf (tNotB (eTru (eFn (T i__law_right) (eCons (eVar 1) (eCons (eVar 3) eNil))))) (sRet (eC (.bl false))) sNext)
def lD : SM := (sBind (bTup 2 (bsCons (bName 6) (bsCons (bName 7) bsNil))) (eTup (eCons (eLst (eCons (eVar 3) (eCons (eVar 5) (eCons (eCall (g1 tupleS) (eCons (eVar 5) eNil)) (eCons (eBin gAdd (eVar 5) (eSlice (eVar 5) eNoPart (ePart (eC (.int 1))))) (eCons (eLst (eCons (eVar 3) (eCons (eVar 3) eNil))) eNil)))))) (eCons (eTup (eCons (eC (.str sIn)) (eCons (eC (.str (Str.ofString "a"))) eNil))) eNil))))
def lE0 : SM := (sSet 7 (eTup (eCons (eC (.str sMade)) (eCons (eC (.str (Str.ofString "f"))) (eCons (eTup (eCons (eVar 7) eNil)) eNil)))))
def lE : SM := (sFor (eRng1 (eCons (eC (.int 17)) eNil)) (bName 4) lE0)
def lF (T : Nat → Fn) : SM := (sSet 6 (eBin gAdd (eVar 6) (eComp (eRng1 (eCons (eC (.int 4)) eNil)) (bName 4) cYes (eFn (T i__law_bent) (eCons (eVar 1) (eCons (eFn (T i__law_pick) (eCons (eVar 1) (eCons (eVar 6) eNil))) eNil))) [4])))
def lL (T : Nat → Fn) : EM Dy.R := (eBin gAdd (eVar 6) (eLst (eCons (eVar 7) (eCons (eLst (eCons (eVar 7) eNil)) (eCons (eTup (eCons (eC (.str sMade)) (eCons (eC (.str (Str.ofString "g"))) (eCons (eBin gMul (eTup (eCons (eVar 3) eNil)) (eC (.int 4))) eNil)))) (eCons (eMake aP (T i_Program___init__) (eCons (eLst eNil) (eCons (eLst eNil) eNil))) eNil))))))
def lG (T : Nat → Fn) : SM := sFor (eSeq (lL aP T)) (bName 8) (lBody aP T)
def lTurn (T : Nat → Fn) : SM := sSeq (lA T) (sSeq (lB T) (sSeq (lC T) (sSeq lD (sSeq lE (sSeq (lF T) (lG aP T))))))
def lEnd (T : Nat → Fn) : SM := (sRet (eAnd (eBin gIs (eFn (T i_is_result) (eCons (eBin gMul (eLst (eCons (eC .non) eNil)) (eC (.int 19000))) eNil)) (eC (.bl false))) (eBin gIs (eFn (T i_are_bad) (eCons (eBin gMul (eLst (eCons (eC .non) eNil)) (eC (.int 19000))) eNil)) (eC (.bl false)))))
theorem law_eq (T : Nat → Fn) : m_law T aF aP = sSeq (sNew 1 (eFn (T i__law_bag) (eCons (eVar 0) eNil))) (sSeq (sFor (eRng1 (eCons (eC (.int 12)) eNil)) (bName 2) (lTurn aP T)) (lEnd T)) := by
  unfold m_law
  rw [lits.1, lits.2.2]
  rfl
def deepD : Nat → D
  | 0 => .tup [.str sIn, .str (Str.ofString "a")]
  | n + 1 => .tup [.str sMade, .str (Str.ofString "f"), .tup [deepD n]]
theorem deep_fit : ∀ n, Fit (200 * n + 200) (2 * n + 1) (deepD n)
  | 0 => Fit.of (by decide +kernel)
  | n + 1 => by
    have h := deep_fit n
    have c : Fit 100 1 (.tup [.str sMade, .str (Str.ofString "f")]) := Fit.of (by decide +kernel)
    have g := c.g
    have w := c.w
    simp only [goodD, goodL, Bool.and_eq_true] at g
    simp only [swt, swtL] at w
    have hw := h.w
    have he := h.e
    refine ⟨?_, ?_, ?_⟩
    · simp only [deepD, goodD, goodL, g.1, g.2.1, h.g, Bool.and_self]
    · simp only [deepD, swt, swtL]
      omega
    · simp only [deepD, dep, depL]
      omega
theorem fit_list {W E : Nat} {xs : List D} (t : Bool) (n : Nat) (hn : xs.length ≤ n) (h : ∀ x ∈ xs, Fit W E x) : Fit (n * (W + 2) + 3) (E + 1) (sqD t xs) := by
  have w1 := swtL_of fun d hd => (h d hd).w
  have w2 : xs.length * (W + 2) ≤ n * (W + 2) := Nat.mul_le_mul_right _ hn
  have e := depL_of fun d hd => (h d hd).e
  exact ⟨by rw [good_sq]; exact goodL_of fun d hd => (h d hd).g, by rw [swt_sq]; omega, by rw [dep_sq]; omega⟩
def every0 (r : Rs) (ds : List D) : List D := [enc r, .lst ds, .tup ds, .lst (ds ++ ds.take 1), .lst [enc r, enc r]]
theorem every0_fit {r : Rs} {ds : List D} (fr : Fit 200000 9 (enc r)) (hd : ∀ d ∈ ds, Fit 30000 5 d) (hl : ds.length ≤ 3) : ∀ d ∈ every0 r ds, Fit 500000 10 d := by
  intro d h
  simp only [every0, List.mem_cons, List.not_mem_nil, or_false] at h
  rcases h with rfl | rfl | rfl | rfl | rfl
  · exact fr.le (by decide) (by decide)
  · exact (fit_list false 3 hl hd).le (by decide) (by decide)
  · exact (fit_list true 3 hl hd).le (by decide) (by decide)
  · refine (fit_list (W := 30000) (E := 5) (xs := ds ++ ds.take 1) false 4 ?_ fun x hx => ?_).le (by decide) (by decide)
    · rw [List.length_append, List.length_take]; omega
    · rcases List.mem_append.mp hx with h | h
      · exact hd x h
      · exact hd x (List.mem_of_mem_take h)
  · refine (fit_list (W := 200000) (E := 9) (xs := [enc r, enc r]) false 2 (by simp) fun x hx => ?_).le (by decide) (by decide)
    simp at hx
    subst hx
    exact fr
def rest (r : Rs) : List D := [deepD 17, .lst [deepD 17], .tup [.str sMade, .str (Str.ofString "g"), .tup [enc r, enc r, enc r, enc r]], .obj aP]
theorem rest_it {r : Rs} (fr : Fit 200000 9 (enc r)) : ∀ d ∈ rest aP r, It aP d := by
  intro d h
  simp only [rest, List.mem_cons, List.not_mem_nil, or_false] at h
  have fd := deep_fit 17
  rcases h with rfl | rfl | rfl | rfl
  · exact .inl ⟨fd.ok (by decide) (by decide), by have := fd.e; omega⟩
  · have f : Fit 5000 36 (.lst [deepD 17]) := (fit_list (xs := [deepD 17]) false 1 (by simp) fun x hx => by
      rw [List.mem_singleton.mp hx]; exact fd).le (by decide) (by decide)
    exact .inl ⟨f.ok (by decide) (by decide), by have := f.e; omega⟩
  · have f1 : Fit (4 * (200000 + 2) + 3) 10 (.tup [enc r, enc r, enc r, enc r]) := fit_list (xs := [enc r, enc r, enc r, enc r]) true 4 (by simp) fun x hx => by
      simp at hx
      subst hx
      exact fr
    have c : Fit 900000 10 (.str sMade) := Fit.of (by decide +kernel)
    have c' : Fit 900000 10 (.str (Str.ofString "g")) := Fit.of (by decide +kernel)
    have f : Fit (3 * (900000 + 2) + 3) 11 (.tup [.str sMade, .str (Str.ofString "g"), .tup [enc r, enc r, enc r, enc r]]) := fit_list (xs := [.str sMade, .str (Str.ofString "g"), .tup [enc r, enc r, enc r, enc r]]) true 3 (by simp) fun x hx => by
      simp only [List.mem_cons, List.not_mem_nil, or_false] at hx
      rcases hx with rfl | rfl | rfl
      · exact c
      · exact c'
      · exact f1.le (by decide) (by decide)
    exact .inl ⟨f.ok (by decide) (by decide), by have := f.e; omega⟩
  · exact .inr rfl
theorem turn_ok' (x0 x2 x3 x4 x5 x6 x7 y8 y9 y10 y11 : Option SV) {B : MO} (hB : BagO B) : ∃ z3 z4 z5 z6 z7 z8 z9 z10 z11 B', lTurn aP (tab aF aP 69) (lEnv x0 x2 x3 x4 x5 x6 x7 y8 y9 y10 y11) [B] = some (.nx (lEnv x0 x2 z3 z4 z5 z6 z7 z8 z9 z10 z11) [B']) ∧ BagO B' := by
  unfold lTurn
  -- a result
  obtain ⟨r, B1, e1, f1, sm, hB1⟩ := law_result_ok aF aP 4 63 (R := []) hB
  have e1 : tab aF aP 69 i__law_result [.mu 0, .dt (.int 4)] [B] = some (.sv (.dt (enc r)), [B1]) := e1
  have fr : Fit 200000 9 (enc r) := f1.le (by decide +kernel) (by decide)
  have s1 : lA (tab aF aP 69) (lEnv x0 x2 x3 x4 x5 x6 x7 y8 y9 y10 y11) [B] = some (.nx (lEnv x0 x2 (some (.dt (enc r))) x4 x5 x6 x7 y8 y9 y10 y11) [B1]) := by
    unfold lA lEnv
    simp [eVar, e1]
  rw [sSeq_nx s1]
  -- some results
  obtain ⟨q, B2, e2, hB2, q0, q1⟩ := take_tab aF aP 68 (R := []) hB1 (n := 4) (by decide) (by decide)
  have e2 : tab aF aP 69 i__law_take [.mu 0, .dt (.int 4)] [B1] = some (.sv (.dt (.int q)), [B2]) := e2
  have hr := isRange_of (i := q) (by omega) (by omega)
  obtain ⟨ds, B3, e3, hB3, hd, hlen⟩ := comp_draw (ms := eRng1 (eCons (eFn (tab aF aP 69 i__law_take) (eCons (eVar 1) (eCons (eC (.int 4)) eNil))) eNil)) (j := 4)
    (el := eFn (tab aF aP 69 i__law_result) (eCons (eVar 1) (eCons (eC (.int 2)) eNil))) (ρ := lEnv x0 x2 (some (.dt (enc r))) x4 x5 x6 x7 y8 y9 y10 y11) (M := [B1]) (lo := 0) (n := q.toNat) (B := B2) (R := [])
    (fun d => Fit 30000 5 d) (by simp [eVar, lEnv, e2, hr]) hB2 (by omega) (fun i hi B hB => by
      obtain ⟨r, B', er, f, _, hB'⟩ := law_result_ok aF aP 2 65 (R := []) hB
      have er : tab aF aP 69 i__law_result [.mu 0, .dt (.int 2)] [B] = some (.sv (.dt (enc r)), [B']) := er
      exact ⟨.sv (.dt (enc r)), enc r, B', by simp [eVar, lEnv, er], rfl, f.le (by decide +kernel) (by decide), hB'⟩)
  have hlen : ds.length ≤ 3 := by omega
  have s2 : lB (tab aF aP 69) (lEnv x0 x2 (some (.dt (enc r))) x4 x5 x6 x7 y8 y9 y10 y11) [B1] = some (.nx (lEnv x0 x2 (some (.dt (enc r))) x4 (some (.dt (.lst ds))) x6 x7 y8 y9 y10 y11) [B3]) := by
    unfold lB
    rw [sSet_ev, e3]
    rfl
  rw [sSeq_nx s2]
  -- right
  obtain ⟨B4, e4, hB4⟩ := law_right_ok aF aP 57 hB3 fr sm
  have e4 : tab aF aP 69 i__law_right [.mu 0, .dt (enc r)] [B3] = some (.sv (.dt (.bl true)), [B4]) := e4
  have s3 : lC (tab aF aP 69) (lEnv x0 x2 (some (.dt (enc r))) x4 (some (.dt (.lst ds))) x6 x7 y8 y9 y10 y11) [B3] = some (.nx (lEnv x0 x2 (some (.dt (enc r))) x4 (some (.dt (.lst ds))) x6 x7 y8 y9 y10 y11) [B4]) := by
    unfold lC lEnv
    simp [eVar, e4]
  rw [sSeq_nx s3]
  -- every, deep
  have sz5 : 5 ≤ sizeLine := by rw [sizeLine_eq]; decide
  have sz2 : 2 ≤ sizeLine := by rw [sizeLine_eq]; decide
  have szd : ds.length + (ds.take 1).length ≤ sizeLine := by rw [sizeLine_eq, List.length_take]; omega
  have cut : gSl [B4] (.dt (.lst ds)) none (some 1) = some (.fr (ds.take 1)) := by
    have e : cutD ds none (some 1) = ds.take 1 := by
      cases ds with
      | nil => rfl
      | cons d ds => exact cut_take (ds := d :: ds) (i := 1) (by simp)
    simp [gSl, e]
  have add : gAdd [B4] (.dt (.lst ds)) (.dt (.lst (ds.take 1))) = some (.fr (ds ++ ds.take 1)) := by
    simp only [gAdd, listD_lst, if_pos szd]
  have s4 : lD (lEnv x0 x2 (some (.dt (enc r))) x4 (some (.dt (.lst ds))) x6 x7 y8 y9 y10 y11) [B4] = some (.nx (lEnv x0 x2 (some (.dt (enc r))) x4 (some (.dt (.lst ds))) (some (.dt (.lst (every0 r ds)))) (some (.dt (deepD 0))) y8 y9 y10 y11) [B4]) := by
    unfold lD sBind
    rw [fz_ev]
    have ev : eTup (eCons (eLst (eCons (eVar 3) (eCons (eVar 5) (eCons (eCall (g1 tupleS) (eCons (eVar 5) eNil)) (eCons (eBin gAdd (eVar 5) (eSlice (eVar 5) eNoPart (ePart (eC (.int 1))))) (eCons (eLst (eCons (eVar 3) (eCons (eVar 3) eNil))) eNil)))))) (eCons (eTup (eCons (eC (.str sIn)) (eCons (eC (.str (Str.ofString "a"))) eNil))) eNil)) (lEnv x0 x2 (some (.dt (enc r))) x4 (some (.dt (.lst ds))) x6 x7 y8 y9 y10 y11) [B4] = some (.sv (.dt (.tup [.lst (every0 r ds), deepD 0])), [B4]) := by
      unfold lEnv every0 deepD
      simp [eVar, cut, add, sz5, sz2]
    rw [ev]
    rfl
  rw [sSeq_nx s4]
  obtain ⟨ρ', M', s5, y4, rfl, rfl⟩ := for_ix (b := bName 4) (body := lE0) (ms := eRng1 (eCons (eC (.int 17)) eNil)) (ρ := lEnv x0 x2 (some (.dt (enc r))) x4 (some (.dt (.lst ds))) (some (.dt (.lst (every0 r ds)))) (some (.dt (deepD 0))) y8 y9 y10 y11) (M := [B4]) (M0 := [B4])
    (fun i ρ M => ∃ y4, ρ = lEnv x0 x2 (some (.dt (enc r))) y4 (some (.dt (.lst ds))) (some (.dt (.lst (every0 r ds)))) (some (.dt (deepD i))) y8 y9 y10 y11 ∧ M = [B4]) (by simp [isRange_of]) (isSrc_rng 0 17) ⟨x4, rfl, rfl⟩ (by
      rintro i x hx ρ M ⟨y4, rfl, rfl⟩
      refine ⟨lEnv x0 x2 (some (.dt (enc r))) (some x) (some (.dt (.lst ds))) (some (.dt (.lst (every0 r ds)))) (some (.dt (deepD i))) y8 y9 y10 y11, rfl, lEnv x0 x2 (some (.dt (enc r))) (some x) (some (.dt (.lst ds))) (some (.dt (.lst (every0 r ds)))) (some (.dt (deepD (i + 1)))) y8 y9 y10 y11, [B4], ?_, some x, rfl, rfl⟩
      unfold lE0 lEnv
      simp [eVar, deepD])
  have s5 : lE (lEnv x0 x2 (some (.dt (enc r))) x4 (some (.dt (.lst ds))) (some (.dt (.lst (every0 r ds)))) (some (.dt (deepD 0))) y8 y9 y10 y11) [B4] = some (.nx (lEnv x0 x2 (some (.dt (enc r))) y4 (some (.dt (.lst ds))) (some (.dt (.lst (every0 r ds)))) (some (.dt (deepD 17))) y8 y9 y10 y11) [B4]) := by
    have e : ((List.range 17).map fun i : Nat => SV.dt (D.int (0 + (i : Int)))).length = 17 := by simp
    rw [e] at s5
    exact s5
  rw [sSeq_nx s5]
  -- bent ones
  have ev0 : ∀ d ∈ every0 r ds, Fit 500000 10 d := every0_fit fr hd hlen
  obtain ⟨bs, B5, e6, hB5, hb, hbl⟩ := comp_draw (ms := eRng1 (eCons (eC (.int 4)) eNil)) (j := 4)
    (el := (eFn (tab aF aP 69 i__law_bent) (eCons (eVar 1) (eCons (eFn (tab aF aP 69 i__law_pick) (eCons (eVar 1) (eCons (eVar 6) eNil))) eNil)))) (ρ := lEnv x0 x2 (some (.dt (enc r))) y4 (some (.dt (.lst ds))) (some (.dt (.lst (every0 r ds)))) (some (.dt (deepD 17))) y8 y9 y10 y11) (M := [B4]) (lo := 0) (n := 4) (B := B4) (R := [])
    (fun d => Fit 600000 12 d) (by simp [isRange_of]) hB4 (by omega) (fun i hi B hB => by
      obtain ⟨d, B', hd', ep, hB'⟩ := pick_ok aF aP 67 (R := []) (xs := every0 r ds) hB (by simp [every0]) (by simp [every0])
      have ep : tab aF aP 69 i__law_pick [.mu 0, .dt (.lst (every0 r ds))] [B] = some (.sv (.dt d), [B']) := ep
      have fd := ev0 d hd'
      obtain ⟨rr, d', B'', eb, er, bt, hB''⟩ := bent_ok aF aP 10 56 d (R := []) hB' fd.g (by have := fd.w; omega) fd.e
      have eb : tab aF aP 69 i__law_bent [.mu 0, .dt d] [B'] = some (rr, [B'']) := eb
      refine ⟨rr, d', B'', by simp [eVar, lEnv, ep, eb], er, ⟨bt.g, ?_, ?_⟩, hB''⟩
      · have := bt.w; have := fd.w; omega
      · have := bt.e; have := fd.e; omega)
  have add2 : gAdd [B5] (.dt (.lst (every0 r ds))) (.dt (.lst bs)) = some (.fr (every0 r ds ++ bs)) := by
    have : (every0 r ds).length + bs.length ≤ sizeLine := by rw [sizeLine_eq, hbl]; simp [every0]
    simp only [gAdd, listD_lst, if_pos this]
  have s6 : lF (tab aF aP 69) (lEnv x0 x2 (some (.dt (enc r))) y4 (some (.dt (.lst ds))) (some (.dt (.lst (every0 r ds)))) (some (.dt (deepD 17))) y8 y9 y10 y11) [B4] = some (.nx (lEnv x0 x2 (some (.dt (enc r))) y4 (some (.dt (.lst ds))) (some (.dt (.lst (every0 r ds ++ bs)))) (some (.dt (deepD 17))) y8 y9 y10 y11) [B5]) := by
    unfold lF
    rw [sSet_ev, eBin_ev, show eVar 6 (lEnv x0 x2 (some (.dt (enc r))) y4 (some (.dt (.lst ds))) (some (.dt (.lst (every0 r ds)))) (some (.dt (deepD 17))) y8 y9 y10 y11) [B4] = some (.sv (.dt (.lst (every0 r ds))), [B4]) from rfl, Option.bind_some, e6, Option.bind_some, toSV_fr, toSV_sv, add2]
    rfl
  rw [sSeq_nx s6]
  -- the items
  have em := make_ok aF aP 65 [B5]
  have mul : gMul [B5] (.dt (.tup [enc r])) (.dt (.int 4)) = some (.sv (.dt (.tup [enc r, enc r, enc r, enc r]))) := by simp [gMul, repD, List.replicate]
  have sz4 : 4 ≤ sizeLine := by rw [sizeLine_eq]; decide
  have sz1 : 1 ≤ sizeLine := by rw [sizeLine_eq]; decide
  have add3 : gAdd [B5] (.dt (.lst (every0 r ds ++ bs))) (.dt (.lst (rest aP r))) = some (.fr (every0 r ds ++ bs ++ rest aP r)) := by
    have : (every0 r ds ++ bs).length + (rest aP r).length ≤ sizeLine := by rw [sizeLine_eq, List.length_append, hbl]; simp [every0, rest]
    simp only [gAdd, listD_lst, if_pos this]
  have eL : lL aP (tab aF aP 69) (lEnv x0 x2 (some (.dt (enc r))) y4 (some (.dt (.lst ds))) (some (.dt (.lst (every0 r ds ++ bs)))) (some (.dt (deepD 17))) y8 y9 y10 y11) [B5] = some (.fr (every0 r ds ++ bs ++ rest aP r), [B5]) := by
    unfold rest at add3 ⊢
    have em : ∀ ρ, eMake aP (tab aF aP 69 i_Program___init__) (eCons (eLst eNil) (eCons (eLst eNil) eNil)) ρ [B5] = some (.sv (.dt (.obj aP)), [B5]) := em
    unfold lL lEnv
    simp [eVar, mul, em, sz4, sz1] at add3 ⊢
    simp [add3]
  obtain ⟨src, hs, his⟩ := seq_src (M := [B5]) (ds := every0 r ds ++ bs ++ rest aP r) (.inl rfl)
  have eS := eSeq_of eL hs
  obtain ⟨ρ', M', s7, z8, z9, z10, z11, rfl, rfl⟩ := for_inv (b := bName 8) (body := lBody aP (tab aF aP 69))
    (fun ρ M => ∃ z8 z9 z10 z11, ρ = lEnv x0 x2 (some (.dt (enc r))) y4 (some (.dt (.lst ds))) (some (.dt (.lst (every0 r ds ++ bs)))) (some (.dt (deepD 17))) z8 z9 z10 z11 ∧ M = [B5]) eS his ⟨_, _, _, _, rfl, rfl⟩ (by
      rintro x hx ρ M ⟨z8, z9, z10, z11, rfl, rfl⟩
      obtain ⟨d, hd', rfl⟩ := List.mem_map.mp hx
      have it : It aP d := by
        rcases List.mem_append.mp hd' with h | h
        · rcases List.mem_append.mp h with h | h
          · exact .inl ⟨(ev0 d h).ok (by decide) (by decide), by have := (ev0 d h).e; omega⟩
          · exact .inl ⟨(hb d h).ok (by decide) (by decide), by have := (hb d h).e; omega⟩
        · exact rest_it aP fr d h
      obtain ⟨w9, w10, w11, e⟩ := body_ok aF aP it x0 x2 (some (.dt (enc r))) y4 (some (.dt (.lst ds))) (some (.dt (.lst (every0 r ds ++ bs)))) (some (.dt (deepD 17))) z9 z10 z11 [B5]
      exact ⟨_, rfl, _, _, e, _, _, _, _, rfl, rfl⟩)
  exact ⟨_, _, _, _, _, _, _, _, _, B5, s7, hB5⟩
theorem nones_fit (n : Nat) (hn : n ≤ 19000) : Ok (.lst (List.replicate n .non)) := by
  have h : ∀ x ∈ List.replicate n D.non, Fit 5 0 x := fun x hx => by
    rw [(List.mem_replicate.mp hx).2]
    exact ⟨rfl, by simp [swt], by simp [dep]⟩
  have f := fit_list false n (by simp) h
  have m : n * (5 + 2) ≤ 19000 * 7 := Nat.mul_le_mul_right _ hn
  exact f.ok (by omega) (by omega)
theorem rep_one {α : Type} (n : Nat) (x : α) : (List.replicate n [x]).flatten = List.replicate n x := by
  induction n with
  | zero => rfl
  | succ n ih => simp [List.replicate_succ, ih]
theorem gMul_rep (M : MS) (d : D) (n : Nat) (h : n ≤ 100000) : gMul M (.dt (.lst [d])) (.dt (.int n)) = some (.fr (List.replicate n d)) := by
  unfold gMul
  simp [repD, rep_one]
  omega
theorem nones_ok (M : MS) (n : Nat) (hn : n ≤ 19000) (h0 : 0 < n) : ∃ L, gMul M (.dt (.lst [.non])) (.dt (.int n)) = some (.fr L) ∧ tab aF aP 69 i_is_result [.dt (.lst L)] M = some (.sv (.dt (.bl false)), M) ∧ tab aF aP 69 i_are_bad [.dt (.lst L)] M = some (.sv (.dt (.bl false)), M) := by
  have ok := nones_fit n hn
  have de : dep (.lst (List.replicate n .non)) ≤ 40 := by
    have : depL (List.replicate n D.non) ≤ 0 := depL_of fun x hx => by rw [(List.mem_replicate.mp hx).2]; simp [dep]
    simp only [dep]
    omega
  refine ⟨_, gMul_rep M .non n (by omega), ?_, ?_⟩
  · exact is_result_ok aF aP 40 26 _ M ok de
  · have e := are_bad_ok aF aP 25 40 _ M ok (by omega)
    have v : badB 40 (.lst (List.replicate n .non)) = false := by
      obtain ⟨m, rfl⟩ : ∃ m, n = m + 1 := ⟨n - 1, by omega⟩
      have i : itemsB (.lst (List.replicate (m + 1) .non)) = .non :: List.replicate m .non := rfl
      unfold badB
      rw [i, List.all_cons]
      have b : badI 40 .non = false := rfl
      rw [b]
      simp
    rw [v] at e
    exact e
theorem law_open (k : Nat) (ns : List Int) : tab aF aP (k + 1) i_law [.dt (.scr ns)] [] = fin (m_law (tab aF aP k) aF aP [some (.dt (.scr ns)), none, none, none, none, none, none, none, none, none, none, none] []) 0 := rfl
theorem nones_ok1 (M : MS) (n : Nat) (z : Int) (hz : z = n) (hn : n ≤ 19000) (h0 : 0 < n) : ∃ L, gMul M (.dt (.lst [.non])) (.dt (.int z)) = some (.fr L) ∧ tab aF aP 69 i_is_result [.dt (.lst L)] M = some (.sv (.dt (.bl false)), M) ∧ tab aF aP 69 i_are_bad [.dt (.lst L)] M = some (.sv (.dt (.bl false)), M) := by
  subst hz
  exact nones_ok aF aP M n hn h0
theorem end_z (B' : MO) (ρ : Dy.Env) (T : Nat → Fn) (z : Int) (h : ∃ L, gMul [B'] (.dt (.lst [.non])) (.dt (.int z)) = some (.fr L) ∧ T i_is_result [.dt (.lst L)] [B'] = some (.sv (.dt (.bl false)), [B']) ∧ T i_are_bad [.dt (.lst L)] [B'] = some (.sv (.dt (.bl false)), [B'])) : sRet (eAnd (eBin gIs (eFn (T i_is_result) (eCons (eBin gMul (eLst (eCons (eC .non) eNil)) (eC (.int z))) eNil)) (eC (.bl false))) (eBin gIs (eFn (T i_are_bad) (eCons (eBin gMul (eLst (eCons (eC .non) eNil)) (eC (.int z))) eNil)) (eC (.bl false)))) ρ [B'] = some (.rt (.sv (.dt (.bl true))) [B']) := by
  obtain ⟨L, g, n1, n2⟩ := h
  have sz1 : 1 ≤ sizeLine := by rw [sizeLine_eq]; decide
  have is : gIs [B'] (.dt (.bl false)) (.dt (.bl false)) = some (.sv (.dt (.bl true))) := rfl
  have tr : truthS [B'] (.dt (.bl true)) = some true := rfl
  simp [eVar, g, n1, n2, sz1, is, tr]
theorem cast_n : (19000 : Int) = ((19000 : Nat) : Int) := rfl
theorem end_ok (B' : MO) (ρ : Dy.Env) : lEnd (tab aF aP 69) ρ [B'] = some (.rt (.sv (.dt (.bl true))) [B']) :=
  end_z B' ρ (tab aF aP 69) 19000 (nones_ok1 aF aP [B'] 19000 19000 cast_n (by decide) (by decide))
theorem loop_ok (ns : List Int) {B : MO} (hB : BagO B) : ∃ ρ B', sFor (eRng1 (eCons (eC (.int 12)) eNil)) (bName 2) (lTurn aP (tab aF aP 69)) (lEnv (some (.dt (.scr ns))) none none none none none none none none none none) [B] = some (.nx ρ [B']) := by
  obtain ⟨ρ', M', ef, x0, x2, x3, x4, x5, x6, x7, y8, y9, y10, y11, B', rfl, rfl, hB'⟩ := for_inv (b := bName 2) (body := lTurn aP (tab aF aP 69)) (ms := eRng1 (eCons (eC (.int 12)) eNil)) (ρ := lEnv (some (.dt (.scr ns))) none none none none none none none none none none) (M := [B]) (M0 := [B])
    (fun ρ M => ∃ x0 x2 x3 x4 x5 x6 x7 y8 y9 y10 y11 B', ρ = lEnv x0 x2 x3 x4 x5 x6 x7 y8 y9 y10 y11 ∧ M = [B'] ∧ BagO B') (by simp [isRange_of]) (isSrc_rng 0 12) ⟨_, _, _, _, _, _, _, _, _, _, _, _, rfl, rfl, hB⟩ (by
      rintro x hx ρ M ⟨x0, x2, x3, x4, x5, x6, x7, y8, y9, y10, y11, B', rfl, rfl, hB'⟩
      obtain ⟨z3, z4, z5, z6, z7, z8, z9, z10, z11, B'', e, hB''⟩ := turn_ok' aF aP x0 (some x) x3 x4 x5 x6 x7 y8 y9 y10 y11 hB'
      exact ⟨_, rfl, _, _, e, _, _, _, _, _, _, _, _, _, _, _, _, rfl, rfl, hB''⟩)
  exact ⟨_, B', ef⟩
theorem bag_tab (k : Nat) {ns : List Int} (hl : ns.length ≤ 63) : ∃ cells, tab aF aP (k + 1) i__law_bag [.dt (.scr ns)] [] = some (.fr [.int 0, .int 1234567891, .int 0, .lst (cells.map .int)], []) ∧ BagO (bagL 0 1234567891 0 cells) := bag_ok hl []
theorem main (ns : List Int) (hl : ns.length ≤ 63) : tab aF aP 70 i_law [.dt (.scr ns)] [] = some (.sv (.dt (.bl true)), []) := by
  rw [law_open aF aP 69 ns, law_eq]
  obtain ⟨cells, eb, hB⟩ := bag_tab aF aP 68 hl
  have hn : sNew 1 (eFn (tab aF aP 69 i__law_bag) (eCons (eVar 0) eNil)) [some (.dt (.scr ns)), none, none, none, none, none, none, none, none, none, none, none] [] = some (.nx (lEnv (some (.dt (.scr ns))) none none none none none none none none none none) [bagL 0 1234567891 0 cells]) := by
    rw [sNew_fr (ds := [.int 0, .int 1234567891, .int 0, .lst (cells.map .int)]) (M' := []) (by simp [eVar, eb])]
    rfl
  rw [sSeq_nx hn]
  obtain ⟨ρ, B', ef⟩ := loop_ok aF aP ns hB
  rw [sSeq_nx ef, end_ok aF aP B' ρ, fin_rt]
  rfl
end
end K24

set_option Elab.async false
set_option linter.all false
set_option maxRecDepth 100000
set_option maxHeartbeats 0
namespace K24
end K24
open PySem PySem.W PySem.Calls PyProof.Rows
theorem PySem.Challenge.cw_movedchecks_k24_results_holds : PySem.Challenge.rw_movedchecks_k24_results.Holds := by
  w_on; o_law
  refine HandSHeadRun.head_any (r := OpenLaw.row PySem.Challenge.rw_movedchecks_k24_results) (q := view (OpenLaw.row PySem.Challenge.rw_movedchecks_k24_results).prog [75]) (H := K24.hk) (ob := K24.ob) (M := 8000) (loose := K24.loose) (d := HandSHeadRun.topDef (OpenLaw.row PySem.Challenge.rw_movedchecks_k24_results).prog 75) (kwd := []) K24.ob_eq
    (by kernel_rfl) (fun s => by kernel_rfl) K24.run (by kernel_rfl) (by kernel_rfl) (by kernel_rfl) (by rfl) (by first | assumption | decide +kernel) (by decide +kernel) ⟨rfl, rfl, rfl, rfl, rfl, by decide +kernel⟩ ?hw ?hc
  case hw => w_witness2
  case hc =>
    refine Dy.walk_end (l := PySem.Challenge.rw_movedchecks_k24_results) (n := 63) (k := 2 * 70) (x := "_law_script") (CX := L2.CX0) rfl (by decide) (by kernel_rfl) ⟨rfl, by decide, by decide⟩ ?F (fun _ _ _ _ z => z)
    intro w mg fa h Y G hmg0
    obtain ⟨K, KX, c⟩ := Y
    have hmg : mg ("law" : PySem.Str) = some (.ref fa) := by
      have e : (HandSHeadRun.topDef (OpenLaw.row PySem.Challenge.rw_movedchecks_k24_results).prog 75).name = ("law" : PySem.Str) := by kernel_rfl
      rw [← e]
      exact hmg0
    obtain ⟨fds, FD⟩ := c.all
    have Gx := K24.Gs.of KX G c.yes
    have e := hmg.symm.trans Gx.gl_law
    cases e
    exact ⟨K, fds 0, _, KX, fun s u => (FD 0 K24.d_law rfl).bindsA (ps := K24.p_law) (fun _ _ _ _ _ _ us hl => match us, hl with | [_], _ => rfl) s [u] rfl, fun H a ns hl _ hS => Dy.law_sp hS (K24.main _ _ ns hl), fun base _ _ => (K24.fns Gx FD 70).d_law.ok⟩
