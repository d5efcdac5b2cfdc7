import PyProof.Rows.All
import Wide.All
import OpenK.AllK
import Wide.FinOn
import HandS.ForMost
import HandS.Flow
import HandS.IsInst
import HandS.TupAny
import HandS.TupMul
import HandS.Style
import HandS.Deep
import HandS.NoneIn
import HandS.Iter
import KE.GoesEnum
import HandS.Zip
import HandS.Conv
import HandS.More
import HandS.RaiseMore
import HandS.HeadEnd
import HandS.Defaults
import HandS.Head0
import HandS.Head1
import HandS.Head2
import HandS.HeadHook1
import HandS.HeadHook2
import HandS.Strs
import HandS.SortKw
import HandS.Comp
import HandS.DictComp
import KE.SortCalls
import KE.SortData
import PyProof.P3Eq
import HandS.Exc
import HandS.ExcSuper
import KE.KExcSuper
import KE.KSuper
import HandS.ExcInit
import HandS.ExcCtx
import HandS.TryOnly
import HandS.ExcOwn
import HandS.WordsExc
import HandS.HotCalls
import HandS.ExcIs
import HandS.ExcField
import KE.KExcIs
import HandS.DeepEq
import HandS.ExcBuiltin
import KE.KStateDown
import PySem.Challenge.RW_movedchecks_k10_errors
set_option Elab.async false
set_option linter.all false
set_option maxRecDepth 100000
set_option maxHeartbeats 4000000
/-! Layer Dy, part 1: plain data over the hand layer. -/
namespace Dy
open PySem L2

/-- a plain datum -/
inductive D where
  | non | bl (b : Bool) | int (i : Int) | str (s : Str)
  | lst (xs : List D) | tup (xs : List D)
  | dct (ks : List Key) (vs : List D)
  | ins (C : Addr) (ns : List Str) (vs : List D)
  | scr (ns : List Int)
  | obj (C : Addr)
  | raw (a : Addr)
  | opq
  | exc (a : Addr) (d : Option Addr) (fs : List (Str × V))

def tysB : List String := ["int", "str", "bool", "list", "tuple", "dict"]
/-- an own class whose instances are no built-in things -/
structure ObjC (K : PySem.W.Frag) (C : Addr) : Prop where
  cl : Cls K C
  ha : PySem.W.findIn K (.ref C) "__class__" = some (some (.builtin "object.__class__"))
  hn : PySem.W.specialIn K (.builtin "object.__class__") "__get__" = some (some (.builtin "getset_descriptor.__get__"))
  htk : PySem.W.takesIn K (.builtin "object.__class__") = some true
  hm : PySem.W.mroIn K C (.type "object") = some true
  no : ∀ T ∈ tysB, PySem.W.kitOne K (.ref C) (.type T) = some false
mutual
/-- the value v is the datum d in the heap H -/
inductive Rp (K : PySem.W.Frag) (H : Hp) : V → D → Prop
  | non : Rp K H .non .non
  | bl (b : Bool) : Rp K H (.bl b) (.bl b)
  | int (i : Int) : Rp K H (.int i) (.int i)
  | str (x : Str) : Rp K H (.str x) (.str x)
  | lst {a : Addr} {xs : List V} {ds : List D} : H a = some (.lst xs) → RpA K H xs ds → Rp K H (.ref a) (.lst ds)
  | tup {a : Addr} {xs : List V} {ds : List D} : SqT K H a xs → RpA K H xs ds → Rp K H (.ref a) (.tup ds)
  | dct {a : Addr} {kvs : List (Key × V)} {ks : List Key} {xs : List V} {ds : List D} : H a = some (.dK kvs) → kvs.map (·.1) = ks → kvs.map (·.2) = xs → RpA K H xs ds → Rp K H (.ref a) (.dct ks ds)
  | ins {a C dx : Addr} {fs : List (Str × V)} {ns : List Str} {xs : List V} {ds : List D} : H a = some (.ins C dx fs) → fs.map (·.1) = ns → fs.map (·.2) = xs → RpA K H xs ds → Rp K H (.ref a) (.ins C ns ds)
  | scr {a : Addr} {ns : List Int} : SqL K H a (ns.map V.int) → Rp K H (.ref a) (.scr ns)
  | obj {a C dx : Addr} {fs : List (Str × V)} : H a = some (.ins C dx fs) → ObjC K C → Rp K H (.ref a) (.obj C)
  | raw (a : Addr) : Rp K H (.ref a) (.raw a)
  | opq (v : V) : Rp K H v .opq
  | exc {a : Addr} {d : Option Addr} {fs : List (Str × V)} : (∀ dd, d = some dd → H dd = some (.xd fs)) → Rp K H (.ref a) (.exc a d fs)
inductive RpA (K : PySem.W.Frag) (H : Hp) : List V → List D → Prop
  | nil : RpA K H [] []
  | cons {v : V} {vs : List V} {d : D} {ds : List D} : Rp K H v d → RpA K H vs ds → RpA K H (v :: vs) (d :: ds)
end

theorem same_rd {H H' : Hp} {a : Addr} {u : HO} (e : Same H H') (h : Rd H a u) : Rd H' a u := by
  rcases h with h | ⟨o, h⟩
  · exact Or.inl (e a _ h)
  · exact Or.inr ⟨o, e a _ h⟩
theorem same_l {K : PySem.W.Frag} {H H' : Hp} {a : Addr} {xs : List V} (e : Same H H') (h : SqL K H a xs) : SqL K H' a xs := by
  rcases h with h | h
  · exact Or.inl (same_rd e h)
  · exact Or.inr h
theorem same_t {K : PySem.W.Frag} {H H' : Hp} {a : Addr} {xs : List V} (e : Same H H') (h : SqT K H a xs) : SqT K H' a xs := by
  rcases h with h | h
  · exact Or.inl (same_rd e h)
  · exact Or.inr h
section
variable {K : PySem.W.Frag} {H H' : Hp}
mutual
theorem Rp.mono (e : Same H H') : ∀ {v : V} {d : D}, Rp K H v d → Rp K H' v d
  | _, _, .non => .non
  | _, _, .bl b => .bl b
  | _, _, .int i => .int i
  | _, _, .str x => .str x
  | _, _, .lst h a => .lst (e _ _ h) (RpA.mono e a)
  | _, _, .tup h a => .tup (same_t e h) (RpA.mono e a)
  | _, _, .dct h k x a => .dct (e _ _ h) k x (RpA.mono e a)
  | _, _, .ins h k x a => .ins (e _ _ h) k x (RpA.mono e a)
  | _, _, .scr h => .scr (same_l e h)
  | _, _, .obj h c => .obj (e _ _ h) c
  | _, _, .raw a => .raw a
  | _, _, .opq v => .opq v
  | _, _, .exc h => .exc fun dd z => e _ _ (h dd z)
theorem RpA.mono (e : Same H H') : ∀ {vs : List V} {ds : List D}, RpA K H vs ds → RpA K H' vs ds
  | _, _, .nil => .nil
  | _, _, .cons h t => .cons (Rp.mono e h) (RpA.mono e t)
end
theorem RpA.length : ∀ {vs : List V} {ds : List D}, RpA K H vs ds → vs.length = ds.length
  | _, _, .nil => rfl
  | _, _, .cons _ t => congrArg (· + 1) (RpA.length t)
theorem RpA.get : ∀ {vs : List V} {ds : List D} {i : Nat} {d : D}, RpA K H vs ds → ds[i]? = some d → ∃ v, vs[i]? = some v ∧ Rp K H v d
  | _, _, _, _, .nil, e => by simp at e
  | _, _, 0, _, .cons r _, e => by simp at e; subst e; exact ⟨_, rfl, r⟩
  | _, _, i + 1, d, .cons _ t, e => by
    obtain ⟨u, h1, h2⟩ := RpA.get (i := i) (d := d) t (by simpa using e)
    exact ⟨u, by simpa using h1, h2⟩
theorem RpA.getV : ∀ {vs : List V} {ds : List D} {i : Nat} {v : V}, RpA K H vs ds → vs[i]? = some v → ∃ d, ds[i]? = some d ∧ Rp K H v d
  | _, _, _, _, .nil, e => by simp at e
  | _, _, 0, _, .cons r _, e => by simp at e; subst e; exact ⟨_, rfl, r⟩
  | _, _, i + 1, d, .cons _ t, e => by
    obtain ⟨u, h1, h2⟩ := RpA.getV (i := i) (v := d) t (by simpa using e)
    exact ⟨u, by simpa using h1, h2⟩
theorem RpA.append : ∀ {vs us : List V} {ds es : List D}, RpA K H vs ds → RpA K H us es → RpA K H (vs ++ us) (ds ++ es)
  | _, _, _, _, .nil, s => s
  | _, _, _, _, .cons r t, s => .cons r (RpA.append t s)
theorem RpA.take : ∀ {vs : List V} {ds : List D} (n : Nat), RpA K H vs ds → RpA K H (vs.take n) (ds.take n)
  | _, _, 0, _ => .nil
  | _, _, _ + 1, .nil => .nil
  | _, _, n + 1, .cons r t => .cons r (RpA.take n t)
theorem RpA.drop : ∀ {vs : List V} {ds : List D} (n : Nat), RpA K H vs ds → RpA K H (vs.drop n) (ds.drop n)
  | _, _, 0, r => r
  | _, _, _ + 1, .nil => .nil
  | _, _, n + 1, .cons _ t => RpA.drop n t
theorem RpA.set {v : V} {d : D} (r : Rp K H v d) : ∀ {vs : List V} {ds : List D} (i : Nat), RpA K H vs ds → RpA K H (vs.set i v) (ds.set i d)
  | _, _, _, .nil => .nil
  | _, _, 0, .cons _ t => .cons r t
  | _, _, i + 1, .cons q t => .cons q (RpA.set r i t)
theorem RpA.eraseIdx : ∀ {vs : List V} {ds : List D} (i : Nat), RpA K H vs ds → RpA K H (vs.eraseIdx i) (ds.eraseIdx i)
  | _, _, _, .nil => .nil
  | _, _, 0, .cons _ t => t
  | _, _, i + 1, .cons q t => .cons q (RpA.eraseIdx i t)
end

/-! ### slots, the store of mutable things, results -/
/-- a slot's content: a datum, or a handle of a mutable thing -/
inductive SV where
  | dt (d : D) | mu (k : Nat)
/-- a mutable thing -/
inductive MO where
  | l (xs : List SV) | d (ks : List Key) (vs : List SV) | i (C : Addr) (ns : List Str) (vs : List D)
  | o (C : Addr) (ns : List Str) (vs : List SV) | t (ks : List (List Key)) (vs : List SV)
abbrev MS := List MO
/-- a result: a slot's content, a fresh list, a fresh dict -/
inductive R where
  | sv (s : SV) | fr (xs : List D) | fd (ks : List Key) (vs : List D)
abbrev Env := List (Option SV)
abbrev EM (α : Type) := Env → MS → Option (α × MS)
def R.toSV : R → SV
  | .sv s => s
  | .fr xs => .dt (.lst xs)
  | .fd ks vs => .dt (.dct ks vs)

def SVr (K : PySem.W.Frag) (Hk : Hp) (ls : List Addr) (n : Nat) (v : V) : SV → Prop
  | .dt d => Rp K Hk v d
  | .mu k => k < n ∧ ∃ l, ls[k]? = some l ∧ v = .ref l
inductive SVs (K : PySem.W.Frag) (Hk : Hp) (ls : List Addr) (n : Nat) : List V → List SV → Prop
  | nil : SVs K Hk ls n [] []
  | cons {v : V} {vs : List V} {s : SV} {ss : List SV} : SVr K Hk ls n v s → SVs K Hk ls n vs ss → SVs K Hk ls n (v :: vs) (s :: ss)
def MOr (K : PySem.W.Frag) (Hk H : Hp) (ls : List Addr) (k : Nat) (l : Addr) : MO → Prop
  | .l xs => ∃ vs, H l = some (.lst vs) ∧ SVs K Hk ls k vs xs
  | .d ks xs => ∃ kvs : List (Key × V), H l = some (.dK kvs) ∧ kvs.map (·.1) = ks ∧ SVs K Hk ls k (kvs.map (·.2)) xs
  | .i C ns xs => ∃ (dx : Addr) (fs : List (Str × V)), H l = some (.ins C dx fs) ∧ fs.map (·.1) = ns ∧ RpA K Hk (fs.map (·.2)) xs
  | .o C ns xs => ∃ (dx : Addr) (fs : List (Str × V)), H l = some (.ins C dx fs) ∧ fs.map (·.1) = ns ∧ SVs K Hk ls ls.length (fs.map (·.2)) xs
  | .t ks xs => ∃ kvs : List (List Key × V), H l = some (.dT kvs) ∧ kvs.map (·.1) = ks ∧ SVs K Hk ls k (kvs.map (·.2)) xs
structure World (K : PySem.W.Frag) (Hk H : Hp) (M : MS) (ls : List Addr) : Prop where
  sub : Same Hk H
  len : M.length = ls.length
  nd : ls.Nodup
  dj : ∀ l ∈ ls, Hk l = none
  ms : ∀ (k : Nat) (o : MO), M[k]? = some o → ∃ l, ls[k]? = some l ∧ MOr K Hk H ls k l o
/-- what an expression's run may change -/
structure Ext (ls : List Addr) (Hk H Hk' H' : Hp) : Prop where
  kk : Same Hk Hk'
  fr : ∀ a o, H a = some o → a ∉ ls → H' a = some o
  gr : ∀ a, Hk' a ≠ none → Hk a ≠ none ∨ H a = none
  st : ∀ a, H a ≠ none → H' a ≠ none
def EnvR (K : PySem.W.Frag) (Hk : Hp) (ls : List Addr) (σ : St) (ρ : Env) : Prop :=
  ρ.length = σ.length ∧ ∀ (i : Nat) (s : SV), ρ[i]? = some (some s) → ∃ v, σ[i]? = some (some v) ∧ SVr K Hk ls ls.length v s
/-- a result, from the heap H0 on -/
def Rr (K : PySem.W.Frag) (H0 Hk H : Hp) (ls : List Addr) (v : V) : R → Prop
  | .sv s => SVr K Hk ls ls.length v s
  | .fr ds => ∃ l vs, v = .ref l ∧ H0 l = none ∧ Hk l = none ∧ l ∉ ls ∧ H l = some (.lst vs) ∧ RpA K Hk vs ds
  | .fd ks ds => ∃ l kvs, v = .ref l ∧ H0 l = none ∧ Hk l = none ∧ l ∉ ls ∧ H l = some (.dK kvs) ∧ kvs.map (·.1) = ks ∧ RpA K Hk (kvs.map (·.2)) ds

section
variable {K : PySem.W.Frag} {Hk H Hk' H' Hk2 H2 : Hp} {M M' : MS} {ls : List Addr}
theorem Ext.refl (ls : List Addr) (Hk H : Hp) : Ext ls Hk H Hk H := ⟨fun _ _ h => h, fun _ _ h _ => h, fun _ h => .inl h, fun _ h => h⟩
theorem Ext.trans (a : Ext ls Hk H Hk' H') (b : Ext ls Hk' H' Hk2 H2) : Ext ls Hk H Hk2 H2 where
  kk := fun x o h => b.kk x o (a.kk x o h)
  fr := fun x o h hn => b.fr x o (a.fr x o h hn) hn
  gr := fun x h => by
    rcases b.gr x h with h | h
    · exact a.gr x h
    · right
      cases e : H x with
      | none => rfl
      | some o => exact absurd h (a.st x (by rw [e]; simp))
  st := fun x h => b.st x (a.st x h)
theorem SVr.mono {n : Nat} {v : V} {s : SV} (e : Same Hk Hk') (h : SVr K Hk ls n v s) : SVr K Hk' ls n v s := by
  cases s with
  | dt d => exact Rp.mono e h
  | mu k => exact h
theorem SVs.mono {n : Nat} (e : Same Hk Hk') : ∀ {vs : List V} {ss : List SV}, SVs K Hk ls n vs ss → SVs K Hk' ls n vs ss
  | _, _, .nil => .nil
  | _, _, .cons h t => .cons (h.mono e) (SVs.mono e t)
theorem SVs.length {n : Nat} : ∀ {vs : List V} {ss : List SV}, SVs K Hk ls n vs ss → vs.length = ss.length
  | _, _, .nil => rfl
  | _, _, .cons _ t => congrArg (· + 1) (SVs.length t)
theorem SVs.get {n : Nat} : ∀ {vs : List V} {ss : List SV} {i : Nat} {s : SV}, SVs K Hk ls n vs ss → ss[i]? = some s → ∃ v, vs[i]? = some v ∧ SVr K Hk ls n v s
  | _, _, _, _, .nil, e => by simp at e
  | _, _, 0, _, .cons r _, e => by simp at e; subst e; exact ⟨_, rfl, r⟩
  | _, _, i + 1, d, .cons _ t, e => by
    obtain ⟨u, h1, h2⟩ := SVs.get (i := i) (s := d) t (by simpa using e)
    exact ⟨u, by simpa using h1, h2⟩
theorem SVs.append {n : Nat} : ∀ {vs us : List V} {ss ts : List SV}, SVs K Hk ls n vs ss → SVs K Hk ls n us ts → SVs K Hk ls n (vs ++ us) (ss ++ ts)
  | _, _, _, _, .nil, s => s
  | _, _, _, _, .cons r t, s => .cons r (SVs.append t s)
theorem SVs.set {n : Nat} {v : V} {d : SV} (r : SVr K Hk ls n v d) : ∀ {vs : List V} {ds : List SV} (i : Nat), SVs K Hk ls n vs ds → SVs K Hk ls n (vs.set i v) (ds.set i d)
  | _, _, _, .nil => .nil
  | _, _, 0, .cons _ t => .cons r t
  | _, _, i + 1, .cons q t => .cons q (SVs.set r i t)
theorem SVs.eraseIdx {n : Nat} : ∀ {vs : List V} {ds : List SV} (i : Nat), SVs K Hk ls n vs ds → SVs K Hk ls n (vs.eraseIdx i) (ds.eraseIdx i)
  | _, _, _, .nil => .nil
  | _, _, 0, .cons _ t => t
  | _, _, i + 1, .cons q t => .cons q (SVs.eraseIdx i t)
theorem SVs.dropLast {n : Nat} : ∀ {vs : List V} {ds : List SV}, SVs K Hk ls n vs ds → SVs K Hk ls n vs.dropLast ds.dropLast
  | _, _, .nil => .nil
  | _, _, .cons r .nil => .nil
  | _, _, .cons r (.cons q t) => .cons r (SVs.dropLast (.cons q t))
theorem SVs.ofA {n : Nat} : ∀ {vs : List V} {ds : List D}, RpA K Hk vs ds → SVs K Hk ls n vs (ds.map .dt)
  | _, _, .nil => .nil
  | _, _, .cons r t => .cons r (SVs.ofA t)
/-- all items data -/
def allD : List SV → Option (List D)
  | [] => some []
  | .dt d :: r => match allD r with
    | some ds => some (d :: ds)
    | none => none
  | .mu _ :: _ => none
theorem allD_map (ds : List D) : allD (ds.map .dt) = some ds := by
  induction ds with
  | nil => rfl
  | cons d r ih => simp [allD, ih]
theorem SVs.toA {n : Nat} : ∀ {vs : List V} {ss : List SV} {ds : List D}, SVs K Hk ls n vs ss → allD ss = some ds → RpA K Hk vs ds
  | _, _, _, .nil, e => by cases e; exact .nil
  | _, _ :: ss, _, .cons (s := s) r t, e => by
    cases s with
    | mu k => cases e
    | dt d =>
      unfold allD at e
      cases h : allD ss with
      | none => rw [h] at e; cases e
      | some es =>
        rw [h] at e
        cases e
        exact .cons r (SVs.toA t h)
theorem EnvR.mono {σ : St} {ρ : Env} (e : Same Hk Hk') (h : EnvR K Hk ls σ ρ) : EnvR K Hk' ls σ ρ :=
  ⟨h.1, fun i s q => let ⟨v, a, b⟩ := h.2 i s q; ⟨v, a, b.mono e⟩⟩
theorem same_upd {l : Addr} {o : HO} (h : Hk l = none) : Same Hk (upd Hk l o) := fun b u e => by
  rw [upd_ne (ne_of_none e h)]
  exact e
theorem MOr.mono {k : Nat} {l : Addr} {o : MO} (e : Same Hk Hk') (h : MOr K Hk H ls k l o) : MOr K Hk' H ls k l o := by
  cases o with
  | l xs => obtain ⟨vs, a, b⟩ := h; exact ⟨vs, a, b.mono e⟩
  | d ks xs => obtain ⟨vs, a, b, c⟩ := h; exact ⟨vs, a, b, c.mono e⟩
  | i C ns xs => obtain ⟨dx, fs, a, b, c⟩ := h; exact ⟨dx, fs, a, b, RpA.mono e c⟩
  | o C ns xs => obtain ⟨dx, fs, a, b, c⟩ := h; exact ⟨dx, fs, a, b, c.mono e⟩
  | t ks xs => obtain ⟨vs, a, b, c⟩ := h; exact ⟨vs, a, b, c.mono e⟩
/-- a thing that is known to nobody else is frozen -/
theorem World.freeze {l : Addr} {o : HO} (w : World K Hk H M ls) (hl : l ∉ ls) (h : H l = some o) (hn : Hk l = none) : World K (upd Hk l o) H M ls where
  sub := fun b u e => by
    by_cases hb : b = l
    · subst hb; rw [upd_same] at e; cases e; exact h
    · rw [upd_ne hb] at e; exact w.sub b u e
  len := w.len
  nd := w.nd
  dj := fun b hb => by
    have nb : b ≠ l := fun z => hl (z ▸ hb)
    rw [upd_ne nb]; exact w.dj b hb
  ms := fun k o e => let ⟨l, a, b⟩ := w.ms k o e; ⟨l, a, b.mono (same_upd hn)⟩
theorem Ext.freeze {H0 Hk0 : Hp} {l : Addr} {o : HO} (x : Ext ls Hk0 H0 Hk H) (h0 : H0 l = none) (hn : Hk l = none) : Ext ls Hk0 H0 (upd Hk l o) H where
  kk := fun b u e => same_upd hn b u (x.kk b u e)
  fr := x.fr
  gr := fun a h => by
    by_cases hb : a = l
    · subst hb; exact .inr h0
    · rw [upd_ne hb] at h; exact x.gr a h
  st := x.st
/-- a result becomes a slot's content -/
theorem Rr.freeze {H0 Hk0 : Hp} {v : V} {r : R} (w : World K Hk H M ls) (x : Ext ls Hk0 H0 Hk H) (h : Rr K H0 Hk H ls v r) :
    ∃ Hk', World K Hk' H M ls ∧ Ext ls Hk0 H0 Hk' H ∧ SVr K Hk' ls ls.length v r.toSV := by
  cases r with
  | sv s => exact ⟨Hk, w, x, h⟩
  | fr ds =>
    obtain ⟨l, vs, rfl, h0, hn, hl, hh, ha⟩ := h
    exact ⟨upd Hk l (.lst vs), w.freeze hl hh hn, x.freeze h0 hn, Rp.lst upd_same (RpA.mono (same_upd hn) ha)⟩
  | fd ks ds =>
    obtain ⟨l, kvs, rfl, h0, hn, hl, hh, hk, ha⟩ := h
    exact ⟨upd Hk l (.dK kvs), w.freeze hl hh hn, x.freeze h0 hn, Rp.dct upd_same hk rfl (RpA.mono (same_upd hn) ha)⟩
end

/-! ### the readings -/
def Res (K : PySem.W.Frag) (ls : List Addr) (Hk H : Hp) (r : R) (M' : MS) (Q : VK) : Prop :=
  ∀ v Hk' H', World K Hk' H' M' ls → Ext ls Hk H Hk' H' → Rr K H Hk' H' ls v r → Q v H'
def ResV (K : PySem.W.Frag) (ls : List Addr) (Hk H : Hp) (s : SV) (M' : MS) (Q : VK) : Prop :=
  ∀ v Hk' H', World K Hk' H' M' ls → Ext ls Hk H Hk' H' → SVr K Hk' ls ls.length v s → Q v H'
def tM (K : PySem.W.Frag) (m : EM R) : TE := fun σ H Q => ∃ Hk ls ρ M r M', World K Hk H M ls ∧ EnvR K Hk ls σ ρ ∧ m ρ M = some (r, M') ∧ Res K ls Hk H r M' Q
def tV (K : PySem.W.Frag) (m : EM SV) : TE := fun σ H Q => ∃ Hk ls ρ M r M', World K Hk H M ls ∧ EnvR K Hk ls σ ρ ∧ m ρ M = some (r, M') ∧ ResV K ls Hk H r M' Q
def tA (K : PySem.W.Frag) (m : EM (List SV)) : TA := fun σ H Q => ∃ Hk ls ρ M r M', World K Hk H M ls ∧ EnvR K Hk ls σ ρ ∧ m ρ M = some (r, M') ∧
  ∀ vs Hk' H', World K Hk' H' M' ls → Ext ls Hk H Hk' H' → SVs K Hk' ls ls.length vs r → Q vs H'
def tT (K : PySem.W.Frag) (m : EM Bool) : TT := fun σ H Q => ∃ Hk ls ρ M r M', World K Hk H M ls ∧ EnvR K Hk ls σ ρ ∧ m ρ M = some (r, M') ∧
  ∀ Hk' H', World K Hk' H' M' ls → Ext ls Hk H Hk' H' → Q r H'
abbrev PM (X : Cx) (e : Expr) (m : EM R) : Prop := PE X e (tM X.K m)
abbrev PV (X : Cx) (e : Expr) (m : EM SV) : Prop := PE X e (tV X.K m)
abbrev PAm (X : Cx) (es : List Expr) (m : EM (List SV)) : Prop := PA X es (tA X.K m)
abbrev PTm (X : Cx) (e : Expr) (m : EM Bool) : Prop := PT X e (tT X.K m)
theorem PE.imp {X : Cx} {e : Expr} {t u : TE} (h : PE X e t) (i : ∀ σ H Q, u σ H Q → t σ H Q) : PE X e u := ⟨fun pins s σ H Q I q => h.run pins s σ H Q I (i σ H Q q)⟩
theorem PT.imp {X : Cx} {e : Expr} {t u : TT} (h : PT X e t) (i : ∀ σ H Q, u σ H Q → t σ H Q) : PT X e u := ⟨fun pins s σ H Q I q => h.run pins s σ H Q I (i σ H Q q)⟩
theorem PA.imp {X : Cx} {e : List Expr} {t u : TA} (h : PA X e t) (i : ∀ σ H Q, u σ H Q → t σ H Q) : PA X e u := ⟨fun pos pins s σ H Q I q => h.run pos pins s σ H Q I (i σ H Q q)⟩
theorem PS.imp {X : Cx} {e : Stmt} {t u : TS} (h : PS X e t) (i : ∀ D σ H, u D σ H → t D σ H) : PS X e u := ⟨fun pins s σ H D I q => h.run pins s σ H D I (i D σ H q)⟩
theorem PSs.imp {X : Cx} {e : List Stmt} {t u : TS} (h : PSs X e t) (i : ∀ D σ H, u D σ H → t D σ H) : PSs X e u := ⟨fun pins s σ H D I q => h.run pins s σ H D I (i D σ H q)⟩

/-! ### mirrors' combinators -/
def EM.ret {α : Type} (a : α) : EM α := fun _ M => some (a, M)
def EM.seq {α β : Type} (m : EM α) (f : α → EM β) : EM β := fun ρ M => match m ρ M with
  | some (a, M') => f a ρ M'
  | none => none
/-- a result taken as a slot's content -/
def fz (m : EM R) : EM SV := m.seq fun r => EM.ret r.toSV
def sv (m : EM SV) : EM R := m.seq fun s => EM.ret (.sv s)
theorem seq_some {α β : Type} {m : EM α} {f : α → EM β} {ρ : Env} {M : MS} {z : β × MS} (h : m.seq f ρ M = some z) : ∃ a M', m ρ M = some (a, M') ∧ f a ρ M' = some z := by
  unfold EM.seq at h
  cases e : m ρ M with
  | none => rw [e] at h; cases h
  | some p =>
    obtain ⟨a, M'⟩ := p
    rw [e] at h
    exact ⟨a, M', rfl, h⟩
theorem PM.v {X : Cx} {e : Expr} {m : EM R} (h : PM X e m) : PV X e (fz m) := PE.imp h fun σ H Q ⟨Hk, ls, ρ, M, r, M', w, en, hm, q⟩ => by
  obtain ⟨a, M1, h1, h2⟩ := seq_some hm
  cases h2
  refine ⟨Hk, ls, ρ, M, a, _, w, en, h1, fun v Hk1 H1 w1 x1 r1 => ?_⟩
  obtain ⟨Hk2, w2, x2, s2⟩ := r1.freeze w1 x1
  exact q v Hk2 H1 w2 x2 s2
theorem PV.m {X : Cx} {e : Expr} {m : EM SV} (h : PV X e m) : PM X e (sv m) := PE.imp h fun σ H Q ⟨Hk, ls, ρ, M, r, M', w, en, hm, q⟩ => by
  obtain ⟨a, M1, h1, h2⟩ := seq_some hm
  cases h2
  exact ⟨Hk, ls, ρ, M, a, _, w, en, h1, fun v Hk1 H1 w1 x1 r1 => q v Hk1 H1 w1 x1 r1⟩

/-! ### names, constants -/
def eVar (i : Nat) : EM R := fun ρ M => match ρ[i]? with
  | some (some s) => some (.sv s, M)
  | _ => none
def eC (d : D) : EM R := EM.ret (.sv (.dt d))
section
variable {X : Cx} {a b c e : Expr} {es : List Expr} {ma mb mc m : EM R} {pos : Pos}
theorem eVar_some {i : Nat} {ρ : Env} {M : MS} {z : R × MS} (h : eVar i ρ M = some z) : ∃ s, ρ[i]? = some (some s) ∧ z = (.sv s, M) := by
  unfold eVar at h
  split at h
  · rename_i s hs
    cases h
    exact ⟨s, hs, rfl⟩
  · cases h
theorem pm_var {i : Nat} {e : Expr} (h : PE X e (tVar i)) : PM X e (eVar i) := PE.imp h fun σ H Q ⟨Hk, ls, ρ, M, r, M', w, en, hm, q⟩ => by
  obtain ⟨s, hs, e⟩ := eVar_some hm
  cases e
  obtain ⟨v, hv, hr⟩ := en.2 i s hs
  exact ⟨v, hv, q v Hk H w (Ext.refl _ _ _) hr⟩
theorem pm_const {v : V} {d : D} (h : PE X e (tC v)) (hr : ∀ H, Rp X.K H v d) : PM X e (eC d) := PE.imp h fun σ H Q ⟨Hk, ls, ρ, M, r, M', w, en, hm, q⟩ => by
  cases hm
  exact q v Hk H w (Ext.refl _ _ _) (hr Hk)
theorem pm_int {i : Int} {j} : PM X (.Constant (.int i) j pos) (eC (.int i)) := pm_const pe_int fun _ => .int i
theorem pm_bl {i : Bool} {j} : PM X (.Constant (.bool i) j pos) (eC (.bl i)) := pm_const pe_bl fun _ => .bl i
theorem pm_non {j} : PM X (.Constant .none j pos) (eC .non) := pm_const pe_non fun _ => .non
theorem pm_str {x : Str} {j} : PM X (.Constant (.str x) j pos) (eC (.str x)) := pm_const pe_str fun _ => .str x

/-! ### argument lists -/
def eNil : EM (List SV) := EM.ret []
def eCons (m : EM R) (ms : EM (List SV)) : EM (List SV) := (fz m).seq fun s => ms.seq fun ss => EM.ret (s :: ss)
theorem pam_nil : PAm X [] eNil := PA.imp pa_nil fun σ H Q ⟨Hk, ls, ρ, M, r, M', w, en, hm, q⟩ => by
  cases hm
  exact q [] Hk H w (Ext.refl _ _ _) .nil
theorem pam_cons {ms : EM (List SV)} (h : PM X e m) (hs : PAm X es ms) (hst : starEach (e :: es) X.env = (false, eval e X.env) :: starEach es X.env := by rfl) : PAm X (e :: es) (eCons m ms) :=
  PA.imp (pa_cons (PM.v h) hs hst) fun σ H Q ⟨Hk, ls, ρ, M, r, M', w, en, hm, q⟩ => by
  obtain ⟨s, M1, h1, h2⟩ := seq_some hm
  obtain ⟨ss, M2, h3, h4⟩ := seq_some h2
  cases h4
  refine ⟨Hk, ls, ρ, M, s, M1, w, en, h1, fun v Hk1 H1 w1 x1 r1 => ?_⟩
  refine ⟨Hk1, ls, ρ, M1, ss, _, w1, en.mono x1.kk, h3, fun vs Hk2 H2 w2 x2 r2 => ?_⟩
  exact q (v :: vs) Hk2 H2 w2 (x1.trans x2) (.cons (r1.mono x2.kk) r2)

/-! ### two operands -/
/-- an operation by values keeps to a function of slots' contents -/
def OpD (K : PySem.W.Frag) (r : R2) (g : MS → SV → SV → Option R) : Prop := ∀ (Hk H : Hp) (M : MS) (ls : List Addr) (x y : V) (s t : SV) (z : R) (Q : VK), World K Hk H M ls → SVr K Hk ls ls.length x s → SVr K Hk ls ls.length y t → g M s t = some z → Res K ls Hk H z M Q → r x y H Q
def eBin (g : MS → SV → SV → Option R) (ma mb : EM R) : EM R := (fz ma).seq fun s => (fz mb).seq fun t => fun _ M => match g M s t with
  | some z => some (z, M)
  | none => none
theorem ebin_go {r : R2} {g : MS → SV → SV → Option R} (hd : OpD X.K r g) : ∀ σ H Q, tM X.K (eBin g ma mb) σ H Q → tOp r (tV X.K (fz ma)) (tV X.K (fz mb)) σ H Q := fun σ H Q ⟨Hk, ls, ρ, M, z, M', w, en, hm, q⟩ => by
  obtain ⟨s, M1, h1, h2⟩ := seq_some hm
  obtain ⟨t, M2, h3, h4⟩ := seq_some h2
  refine ⟨Hk, ls, ρ, M, s, M1, w, en, h1, fun v Hk1 H1 w1 x1 r1 => ?_⟩
  refine ⟨Hk1, ls, ρ, M1, t, M2, w1, en.mono x1.kk, h3, fun u Hk2 H2 w2 x2 r2 => ?_⟩
  cases hg : g M2 s t with
  | none => rw [hg] at h4; cases h4
  | some z' =>
    rw [hg] at h4
    cases h4
    refine hd Hk2 H2 _ ls v u s t _ Q w2 (r1.mono x2.kk) r2 hg fun y Hk3 H3 w3 x3 r3 => ?_
    refine q y Hk3 H3 w3 ((x1.trans x2).trans x3) ?_
    exact rr_back (x1.trans x2) r3
where
  rr_back {K : PySem.W.Frag} {ls : List Addr} {H0 Hk0 H1 Hk1 H2 Hk2 : Hp} {v : V} {r : R} (x : Ext ls Hk0 H0 Hk1 H1) (h : Rr K H1 Hk2 H2 ls v r) : Rr K H0 Hk2 H2 ls v r := by
    have back : ∀ l, H1 l = none → H0 l = none := fun l h => by
      cases e : H0 l with
      | none => rfl
      | some o => exact absurd h (x.st l (by rw [e]; simp))
    cases r with
    | sv s => exact h
    | fr ds => obtain ⟨l, vs, a, b, c⟩ := h; exact ⟨l, vs, a, back l b, c⟩
    | fd ks ds => obtain ⟨l, vs, a, b, c⟩ := h; exact ⟨l, vs, a, back l b, c⟩
theorem pm_bin {op : Operator} {r : R2} {g : MS → SV → SV → Option R} (ho : OpR X (binaryOp op) r) (hd : OpD X.K r g) (ha : PM X a ma) (hb : PM X b mb) : PM X (.BinOp a op b pos) (eBin g ma mb) :=
  PE.imp (pe_op ho (PM.v ha) (PM.v hb)) (ebin_go hd)
theorem pm_cmp {op : CmpOp} {r : R2} {g : MS → SV → SV → Option R} (ho : OpR X (compareOp op) r) (hd : OpD X.K r g) (ha : PM X a ma) (hb : PM X b mb) (hm : behindInMarks op b = false := by first | exact nomark _ | rfl) : PM X (.Compare a [op] [b] pos) (eBin g ma mb) :=
  PE.imp (pe_cmpR ho (PM.v ha) (PM.v hb) hm) (ebin_go hd)
theorem pm_ix {r : R2} {g : MS → SV → SV → Option R} (ho : IxR X r) (hd : OpD X.K r g) (ha : PM X a ma) (hb : PM X b mb) (hs : PlainIx b := by exact fun _ _ => rfl) : PM X (.Subscript a b pos) (eBin g ma mb) :=
  PE.imp (pe_ix ho (PM.v ha) (PM.v hb) hs) (ebin_go hd)
end
end Dy

set_option Elab.async false
set_option linter.all false
set_option maxRecDepth 100000
set_option maxHeartbeats 4000000
namespace Dy
open PySem L2

/-! ### looking at a slot's content -/
def peeks (f : SV → Option D) : List SV → Option (List D)
  | [] => some []
  | s :: r => match f s, peeks f r with
    | some d, some ds => some (d :: ds)
    | _, _ => none
def peekN : Nat → MS → SV → Option D
  | _, _, .dt d => some d
  | 0, _, .mu _ => none
  | n + 1, M, .mu k => match M[k]? with
    | some (.l xs) => match peeks (peekN n M) xs with
      | some ds => some (.lst ds)
      | none => none
    | some (.d ks vs) => match peeks (peekN n M) vs with
      | some ds => some (.dct ks ds)
      | none => none
    | _ => none
abbrev peek : MS → SV → Option D := peekN 3
theorem peek_dt (n : Nat) (M : MS) (d : D) : peekN n M (.dt d) = some d := by cases n <;> rfl
section
variable {K : PySem.W.Frag} {Hk H : Hp} {M : MS} {ls : List Addr}
theorem SVr.up {n m : Nat} {v : V} {s : SV} (h : n ≤ m) (r : SVr K Hk ls n v s) : SVr K Hk ls m v s := by
  cases s with
  | dt d => exact r
  | mu k => exact ⟨Nat.lt_of_lt_of_le r.1 h, r.2⟩
theorem SVs.up {n m : Nat} (h : n ≤ m) : ∀ {vs : List V} {ss : List SV}, SVs K Hk ls n vs ss → SVs K Hk ls m vs ss
  | _, _, .nil => .nil
  | _, _, .cons r t => .cons (r.up h) (SVs.up h t)
theorem peeks_ok {n : Nat} {f : SV → Option D} (hf : ∀ v s d, SVr K Hk ls n v s → f s = some d → Rp K H v d) : ∀ {vs : List V} {ss : List SV} {ds : List D}, SVs K Hk ls n vs ss → peeks f ss = some ds → RpA K H vs ds
  | _, _, _, .nil, e => by cases e; exact .nil
  | _, s :: ss, _, .cons r t, e => by
    unfold peeks at e
    cases h1 : f s with
    | none => rw [h1] at e; cases e
    | some d =>
      cases h2 : peeks f ss with
      | none => rw [h1, h2] at e; cases e
      | some es =>
        rw [h1, h2] at e
        cases e
        exact .cons (hf _ _ _ r h1) (peeks_ok hf t h2)
theorem peek_ok (w : World K Hk H M ls) : ∀ (n m : Nat) (v : V) (s : SV) (d : D), SVr K Hk ls m v s → peekN n M s = some d → Rp K H v d := by
  intro n
  induction n with
  | zero =>
    intro m v s d r e
    cases s with
    | dt d' => cases e; exact Rp.mono w.sub r
    | mu k => cases e
  | succ n ih =>
    intro m v s d r e
    cases s with
    | dt d' => cases e; exact Rp.mono w.sub r
    | mu k =>
      obtain ⟨_, l, hl, rfl⟩ := r
      unfold peekN at e
      cases hM : M[k]? with
      | none => rw [hM] at e; cases e
      | some o =>
        rw [hM] at e
        obtain ⟨l', hl', ho⟩ := w.ms k o hM
        rw [hl] at hl'
        cases hl'
        cases o with
        | l xs =>
          obtain ⟨vs, hH, hs⟩ := ho
          simp only at e
          cases hp : peeks (peekN n M) xs with
          | none => rw [hp] at e; cases e
          | some ds =>
            rw [hp] at e
            cases e
            exact .lst hH (peeks_ok (fun v s d => ih k v s d) hs hp)
        | d ks xs =>
          obtain ⟨kvs, hH, hk, hs⟩ := ho
          simp only at e
          cases hp : peeks (peekN n M) xs with
          | none => rw [hp] at e; cases e
          | some ds =>
            rw [hp] at e
            cases e
            exact .dct hH hk rfl (peeks_ok (fun v s d => ih k v s d) hs hp)
        | i C ns xs => cases e
        | o C ns xs => cases e
        | t ks xs => cases e

/-- the items of a list, of a tuple -/
def listOf (M : MS) : SV → Option (List SV)
  | .dt (.lst ds) => some (ds.map .dt)
  | .mu k => match M[k]? with
    | some (.l xs) => some xs
    | _ => none
  | _ => none
def itemsOf (M : MS) : SV → Option (List SV)
  | .dt (.tup ds) => some (ds.map .dt)
  | s => listOf M s
theorem listOf_ok {v : V} {s : SV} {xs : List SV} (w : World K Hk H M ls) (r : SVr K Hk ls ls.length v s) (e : listOf M s = some xs) : ∃ a vs, v = .ref a ∧ H a = some (.lst vs) ∧ SVs K Hk ls ls.length vs xs := by
  cases s with
  | dt d =>
    cases d with
    | lst ds =>
      cases e
      cases r with
      | lst h a => exact ⟨_, _, rfl, w.sub _ _ h, SVs.ofA a⟩
    | _ => cases e
  | mu k =>
    obtain ⟨hk, l, hl, rfl⟩ := r
    unfold listOf at e
    dsimp only at e
    cases hM : M[k]? with
    | none => rw [hM] at e; cases e
    | some o =>
      rw [hM] at e
      obtain ⟨l', hl', ho⟩ := w.ms k o hM
      rw [hl] at hl'
      cases hl'
      cases o with
      | l ys =>
        cases e
        obtain ⟨vs, hH, hs⟩ := ho
        exact ⟨l, vs, rfl, hH, hs.up (Nat.le_of_lt hk)⟩
      | d ks ys => cases e
      | i C ns ys => cases e
      | o C ns ys => cases e
      | t ks ys => cases e
theorem itemsOf_ok {v : V} {s : SV} {xs : List SV} (w : World K Hk H M ls) (r : SVr K Hk ls ls.length v s) (e : itemsOf M s = some xs) : ∃ a vs, v = .ref a ∧ (SqL K H a vs ∨ SqT K H a vs) ∧ SVs K Hk ls ls.length vs xs := by
  by_cases ht : ∃ ds, s = .dt (.tup ds)
  · obtain ⟨ds, rfl⟩ := ht
    cases e
    cases r with
    | tup h a => exact ⟨_, _, rfl, .inr (same_t w.sub h), SVs.ofA a⟩
  · have e' : listOf M s = some xs := by
      unfold itemsOf at e
      split at e
      · exact absurd ⟨_, rfl⟩ ht
      · exact e
    obtain ⟨a, vs, h1, h2, h3⟩ := listOf_ok w r e'
    exact ⟨a, vs, h1, .inl (SqL.of h2), h3⟩
end

theorem OpR.or {X : Cx} {f : Value → Value → Sem Value} {r r' : R2} (h : OpR X f r) (h' : OpR X f r') : OpR X f (fun x y H Q => r x y H Q ∨ r' x y H Q) := by
  intro pins s σ H x y v u Q I rx ry q
  rcases q with q | q
  · exact h pins s σ H x y v u Q I rx ry q
  · exact h' pins s σ H x y v u Q I rx ry q
theorem CallR.or {X : Cx} {f : Value} {r r' : List V → Hp → VK → Prop} (h : CallR X f r) (h' : CallR X f r') : CallR X f (fun xs H Q => r xs H Q ∨ r' xs H Q) := by
  intro pins s σ H xs us Q I rx q
  rcases q with q | q
  · exact h pins s σ H xs us Q I rx q
  · exact h' pins s σ H xs us Q I rx q

section
variable {K : PySem.W.Frag} {Hk H : Hp} {M : MS} {ls : List Addr}
/-- the result is a datum that is there already (or flat) -/
theorem Res.dt {d : D} {Q : VK} (w : World K Hk H M ls) (q : Res K ls Hk H (.sv (.dt d)) M Q) {v : V} (r : Rp K Hk v d) : Q v H := q v Hk H w (Ext.refl _ _ _) r
theorem World.upd_new {p : Addr} {o : HO} (w : World K Hk H M ls) (h : H p = none) : World K Hk (upd H p o) M ls where
  sub := fun b u e => by rw [upd_ne (ne_of_none (w.sub b u e) h)]; exact w.sub b u e
  len := w.len
  nd := w.nd
  dj := w.dj
  ms := fun k x e => by
    obtain ⟨l, hl, ho⟩ := w.ms k x e
    refine ⟨l, hl, ?_⟩
    cases x with
    | l xs => obtain ⟨vs, a, b⟩ := ho; exact ⟨vs, by rw [upd_ne (ne_of_none a h)]; exact a, b⟩
    | d ks xs => obtain ⟨vs, a, b, c⟩ := ho; exact ⟨vs, by rw [upd_ne (ne_of_none a h)]; exact a, b, c⟩
    | i C ns xs => obtain ⟨dx, vs, a, b, c⟩ := ho; exact ⟨dx, vs, by rw [upd_ne (ne_of_none a h)]; exact a, b, c⟩
    | o C ns xs => obtain ⟨dx, vs, a, b, c⟩ := ho; exact ⟨dx, vs, by rw [upd_ne (ne_of_none a h)]; exact a, b, c⟩
    | t ks xs => obtain ⟨vs, a, b, c⟩ := ho; exact ⟨vs, by rw [upd_ne (ne_of_none a h)]; exact a, b, c⟩
theorem Ext.upd_new {p : Addr} {o : HO} (h : H p = none) : Ext ls Hk H Hk (upd H p o) where
  kk := fun _ _ e => e
  fr := fun a u e _ => by rw [upd_ne (ne_of_none e h)]; exact e
  gr := fun a e => .inl e
  st := fun a e => by
    by_cases z : a = p
    · subst z; exact absurd h e
    · rw [upd_ne z]; exact e
theorem World.fresh {p : Addr} (w : World K Hk H M ls) (h : H p = none) : Hk p = none ∧ p ∉ ls := by
  constructor
  · cases e : Hk p with
    | none => rfl
    | some o => rw [w.sub p o e] at h; cases h
  · intro hp
    obtain ⟨k, hk, e⟩ := List.getElem_of_mem hp
    have hk' : k < M.length := by rw [w.len]; exact hk
    obtain ⟨l, hl, ho⟩ := w.ms k M[k] (by simp [hk'])
    rw [List.getElem?_eq_getElem hk] at hl
    have el : l = p := by rw [← e]; exact (Option.some.inj hl).symm
    subst el
    cases hm : M[k] with
    | l xs => rw [hm] at ho; obtain ⟨vs, a, _⟩ := ho; rw [h] at a; cases a
    | d ks xs => rw [hm] at ho; obtain ⟨vs, a, _⟩ := ho; rw [h] at a; cases a
    | i C ns xs => rw [hm] at ho; obtain ⟨dx, vs, a, _⟩ := ho; rw [h] at a; cases a
    | o C ns xs => rw [hm] at ho; obtain ⟨dx, vs, a, _⟩ := ho; rw [h] at a; cases a
    | t ks xs => rw [hm] at ho; obtain ⟨vs, a, _⟩ := ho; rw [h] at a; cases a
/-- a new list -/
theorem Res.newL {ds : List D} {Q : VK} {vs : List V} {p : Addr} (w : World K Hk H M ls) (q : Res K ls Hk H (.fr ds) M Q) (h : H p = none) (r : RpA K Hk vs ds) : Q (.ref p) (upd H p (.lst vs)) :=
  q (.ref p) Hk (upd H p (.lst vs)) (w.upd_new h) (Ext.upd_new h) ⟨p, vs, rfl, h, (w.fresh h).1, (w.fresh h).2, upd_same, r⟩
/-- a new tuple: frozen at once -/
theorem Res.newT {ds : List D} {Q : VK} {vs : List V} {p : Addr} (w : World K Hk H M ls) (q : Res K ls Hk H (.sv (.dt (.tup ds))) M Q) (h : H p = none) (r : RpA K Hk vs ds) : Q (.ref p) (upd H p (.tup vs)) :=
  q (.ref p) (upd Hk p (.tup vs)) (upd H p (.tup vs)) ((w.upd_new h).freeze (w.fresh h).2 upd_same (w.fresh h).1) ((Ext.upd_new h).freeze h (w.fresh h).1)
    (Rp.tup (SqT.of upd_same) (RpA.mono (same_upd (w.fresh h).1) r))
/-- a new empty dict and the like -/
theorem Res.newD {kvs : List (Key × V)} {ks : List Key} {ds : List D} {Q : VK} {p : Addr} (w : World K Hk H M ls) (q : Res K ls Hk H (.fd ks ds) M Q) (h : H p = none) (hk : kvs.map (·.1) = ks) (r : RpA K Hk (kvs.map (·.2)) ds) : Q (.ref p) (upd H p (.dK kvs)) :=
  q (.ref p) Hk (upd H p (.dK kvs)) (w.upd_new h) (Ext.upd_new h) ⟨p, kvs, rfl, h, (w.fresh h).1, (w.fresh h).2, upd_same, hk, r⟩
end

/-! ### operators -/
/-- a list whose items are data -/
def listD (M : MS) (s : SV) : Option (List D) := match listOf M s with
  | some xs => allD xs
  | none => none
theorem listD_ok {K : PySem.W.Frag} {Hk H : Hp} {M : MS} {ls : List Addr} {v : V} {s : SV} {ds : List D} (w : World K Hk H M ls) (r : SVr K Hk ls ls.length v s) (e : listD M s = some ds) : ∃ a vs, v = .ref a ∧ H a = some (.lst vs) ∧ RpA K Hk vs ds := by
  unfold listD at e
  cases h : listOf M s with
  | none => rw [h] at e; cases e
  | some xs =>
    rw [h] at e
    obtain ⟨a, vs, h1, h2, h3⟩ := listOf_ok w r h
    exact ⟨a, vs, h1, h2, h3.toA e⟩
def int2 (f : Int → Int → Option D) (s t : SV) : Option R := match s, t with
  | .dt (.int i), .dt (.int j) => match f i j with
    | some d => some (.sv (.dt d))
    | none => none
  | _, _ => none
theorem int2_some {f : Int → Int → Option D} {s t : SV} {z : R} (h : int2 f s t = some z) : ∃ i j d, s = .dt (.int i) ∧ t = .dt (.int j) ∧ f i j = some d ∧ z = .sv (.dt d) := by
  unfold int2 at h
  split at h
  · split at h
    · cases h; exact ⟨_, _, _, rfl, rfl, by assumption, rfl⟩
    · cases h
  · cases h
theorem Rp.int_inv {K : PySem.W.Frag} {H : Hp} {v : V} {i : Int} (h : Rp K H v (.int i)) : v = .int i := by cases h; rfl
theorem Rp.str_inv {K : PySem.W.Frag} {H : Hp} {v : V} {i : Str} (h : Rp K H v (.str i)) : v = .str i := by cases h; rfl
theorem Rp.bl_inv {K : PySem.W.Frag} {H : Hp} {v : V} {i : Bool} (h : Rp K H v (.bl i)) : v = .bl i := by cases h; rfl
theorem opd_int {K : PySem.W.Frag} {C : Int → Int → Prop} {g : Int → Int → V} {f : Int → Int → Option D} (h : ∀ i j d, f i j = some d → C i j ∧ ∀ H, Rp K H (g i j) d) : OpD K (rI C g) (fun _ s t => int2 f s t) := by
  intro Hk H M ls x y s t z Q w rx ry e q
  obtain ⟨i, j, d, rfl, rfl, hf, rfl⟩ := int2_some e
  obtain ⟨c, r⟩ := h i j d hf
  exact ⟨i, j, Rp.int_inv rx, Rp.int_inv ry, c, q.dt w (r Hk)⟩
theorem opd_int0 {K : PySem.W.Frag} {g : Int → Int → V} {f : Int → Int → Option D} (h : ∀ i j d, f i j = some d → ∀ H, Rp K H (g i j) d) : OpD K (rI0 g) (fun _ s t => int2 f s t) := by
  intro Hk H M ls x y s t z Q w rx ry e q
  obtain ⟨i, j, d, rfl, rfl, hf, rfl⟩ := int2_some e
  exact ⟨i, j, Rp.int_inv rx, Rp.int_inv ry, q.dt w (h i j d hf Hk)⟩
theorem OpD.or {K : PySem.W.Frag} {r r' : R2} {g : MS → SV → SV → Option R} (h : ∀ (Hk H : Hp) (M : MS) (ls : List Addr) (x y : V) (s t : SV) (z : R) (Q : VK), World K Hk H M ls → SVr K Hk ls ls.length x s → SVr K Hk ls ls.length y t → g M s t = some z → Res K ls Hk H z M Q → r x y H Q ∨ r' x y H Q) : OpD K (fun x y H Q => r x y H Q ∨ r' x y H Q) g := h

/-- + -/
def gAdd (M : MS) (s t : SV) : Option R := match s, t with
  | .dt (.int i), .dt (.int j) => some (.sv (.dt (.int (i + j))))
  | .dt (.str x), .dt (.str y) => if x.length + y.length ≤ sizeLine then some (.sv (.dt (.str (x ++ y)))) else none
  | .dt (.tup xs), .dt (.tup ys) => if xs.length + ys.length ≤ sizeLine then some (.sv (.dt (.tup (xs ++ ys)))) else none
  | s, t => match listD M s, listD M t with
    | some xs, some ys => if xs.length + ys.length ≤ sizeLine then some (.fr (xs ++ ys)) else none
    | _, _ => none
def rPlus (K : PySem.W.Frag) : R2 := fun x y H Q => rI0 (fun i j => .int (i + j)) x y H Q ∨ (∃ i j, x = .str i ∧ y = .str j ∧ i.length + j.length ≤ sizeLine ∧ Q (.str (i ++ j)) H) ∨ rCatA K x y H Q ∨ rCat x y H Q
theorem op_plus {X : Cx} : OpR X (binaryOp .Add) (rPlus X.K) := OpR.or op_add (OpR.or op_add_str (OpR.or op_catA op_cat))
theorem opd_plus {K : PySem.W.Frag} : OpD K (rPlus K) gAdd := by
  intro Hk H M ls x y s t z Q w rx ry e q
  unfold gAdd at e
  split at e
  · cases e
    exact .inl ⟨_, _, Rp.int_inv rx, Rp.int_inv ry, q.dt w (.int _)⟩
  · split at e
    · rename_i hz
      cases e
      exact .inr (.inl ⟨_, _, Rp.str_inv rx, Rp.str_inv ry, hz, q.dt w (.str _)⟩)
    · cases e
  · rename_i xs ys
    split at e
    · rename_i hz
      cases e
      refine .inr (.inr (.inl ?_))
      cases rx with
      | tup h1 a1 =>
        cases ry with
        | tup h2 a2 =>
          rename_i a us b vs
          refine ⟨a, b, us, vs, rfl, rfl, same_t w.sub h1, same_t w.sub h2, by rw [a1.length, a2.length]; exact hz, fun e0 => ?_, fun _ e0 => ?_, fun _ _ p hp => ?_⟩
          · subst e0
            cases a1
            exact q.dt w (.tup h2 a2)
          · subst e0
            cases a2
            rw [List.append_nil] at q
            exact q.dt w (.tup h1 a1)
          · exact q.newT w hp (a1.append a2)
    · cases e
  · split at e
    · rename_i xs ys h1 h2
      split at e
      · rename_i hz
        cases e
        obtain ⟨a, us, rfl, ha, ra⟩ := listD_ok w rx h1
        obtain ⟨b, vs, rfl, hb, rb⟩ := listD_ok w ry h2
        exact .inr (.inr (.inr ⟨a, b, us, vs, rfl, rfl, ha, hb, by rw [ra.length, rb.length]; exact hz, fun p hp => q.newL w hp (ra.append rb)⟩))
      · cases e
    · cases e
theorem pm_add {X : Cx} {a b : Expr} {ma mb : EM R} {pos : Pos} (ha : PM X a ma) (hb : PM X b mb) : PM X (.BinOp a .Add b pos) (eBin gAdd ma mb) := pm_bin op_plus opd_plus ha hb

def gSub (_ : MS) (s t : SV) : Option R := int2 (fun i j => some (.int (i - j))) s t
theorem pm_sub {X : Cx} {a b : Expr} {ma mb : EM R} {pos : Pos} (ha : PM X a ma) (hb : PM X b mb) : PM X (.BinOp a .Sub b pos) (eBin gSub ma mb) :=
  pm_bin op_sub (opd_int0 fun i j d e H => by cases e; exact .int _) ha hb
def gMod (_ : MS) (s t : SV) : Option R := int2 (fun i j => if 0 < j then some (.int (i % j)) else none) s t
theorem pm_mod {X : Cx} {a b : Expr} {ma mb : EM R} {pos : Pos} (ha : PM X a ma) (hb : PM X b mb) : PM X (.BinOp a .Mod b pos) (eBin gMod ma mb) :=
  pm_bin op_mod (opd_int fun i j d e => by
    split at e
    · rename_i h; cases e; exact ⟨h, fun _ => .int _⟩
    · cases e) ha hb
def gFdiv (_ : MS) (s t : SV) : Option R := int2 (fun i j => if 0 < j ∧ j < 1073741824 then some (.int (i / j)) else none) s t
theorem pm_fdiv {X : Cx} {a b : Expr} {ma mb : EM R} {pos : Pos} (ha : PM X a ma) (hb : PM X b mb) : PM X (.BinOp a .FloorDiv b pos) (eBin gFdiv ma mb) :=
  pm_bin op_fdiv (opd_int fun i j d e => by
    split at e
    · rename_i h; cases e; exact ⟨h, fun _ => .int _⟩
    · cases e) ha hb
def gPow (_ : MS) (s t : SV) : Option R := int2 (fun i j => if 0 ≤ j ∧ j ≤ 1000000 ∧ i.natAbs < 2 ^ 64 then some (.int (i ^ j.toNat)) else none) s t
theorem pm_pow {X : Cx} {a b : Expr} {ma mb : EM R} {pos : Pos} (ha : PM X a ma) (hb : PM X b mb) : PM X (.BinOp a .Pow b pos) (eBin gPow ma mb) :=
  pm_bin op_pow (opd_int fun i j d e => by
    split at e
    · rename_i h; cases e; exact ⟨h, fun _ => .int _⟩
    · cases e) ha hb
end Dy

set_option Elab.async false
set_option linter.all false
set_option maxRecDepth 100000
set_option maxHeartbeats 4000000
namespace Dy
open PySem L2

/-! ### * -/
def inSmall (i : Int) : Bool := decide (-(2 ^ 64) < i) && !decide (2 ^ 64 ≤ i)
def repD (n : Nat) (xs : List D) : List D := (List.replicate n xs).flatten
def gMul (M : MS) (s t : SV) : Option R := match s, t with
  | .dt (.int i), .dt (.int j) => if inSmall i || inSmall j then some (.sv (.dt (.int (i * j)))) else none
  | .dt (.tup xs), .dt (.int k) => if xs ≠ [] ∧ 2 ≤ k ∧ k ≤ 1000 ∧ xs.length ≤ 1000 then some (.sv (.dt (.tup (repD k.toNat xs)))) else none
  | s, .dt (.int k) => match listD M s with
    | some xs => if -(2 ^ 63) ≤ k ∧ k < 2 ^ 63 ∧ xs.length * k.toNat ≤ sizeLine then some (.fr (repD k.toNat xs)) else none
    | none => none
  | _, _ => none
def rTimes (K : PySem.W.Frag) : R2 := fun x y H Q => rI CMul (fun i j => .int (i * j)) x y H Q ∨ rRepT K x y H Q ∨ rRep x y H Q
theorem op_times {X : Cx} : OpR X (binaryOp .Mult) (rTimes X.K) := OpR.or op_mul (OpR.or op_repT op_rep)
theorem inSmall_ok {i : Int} (h : inSmall i = true) : -(2 ^ 64) < i ∧ i < 2 ^ 64 := by
  unfold inSmall at h
  rw [Bool.and_eq_true] at h
  exact ⟨of_decide_eq_true h.1, by have := h.2; simp at this; omega⟩
theorem RpA.rep {K : PySem.W.Frag} {H : Hp} {vs : List V} {ds : List D} (r : RpA K H vs ds) : ∀ n : Nat, RpA K H (List.replicate n vs).flatten (repD n ds)
  | 0 => .nil
  | n + 1 => by
    unfold repD
    rw [List.replicate_succ, List.replicate_succ, List.flatten_cons, List.flatten_cons]
    exact r.append (RpA.rep r n)
theorem opd_times {K : PySem.W.Frag} : OpD K (rTimes K) gMul := by
  intro Hk H M ls x y s t z Q w rx ry e q
  unfold gMul at e
  split at e
  · split at e
    · rename_i i j h
      cases e
      refine .inl ⟨_, _, Rp.int_inv rx, Rp.int_inv ry, ?_, q.dt w (.int _)⟩
      rw [Bool.or_eq_true] at h
      rcases h with h | h
      · exact .inl (inSmall_ok h)
      · exact .inr (inSmall_ok h)
    · cases e
  · split at e
    · rename_i xs k h
      cases e
      obtain ⟨h1, h2, h3, h4⟩ := h
      cases rx with
      | tup ht a =>
        rename_i p us
        have hl := a.length
        refine .inr (.inl ⟨p, k, us, rfl, Rp.int_inv ry, same_t w.sub ht, fun z => ?_, h2, h3, by rw [hl]; exact h4, fun p' hp => q.newT w hp (a.rep _)⟩)
        subst z
        cases a
        exact h1 rfl
    · cases e
  · split at e
    · rename_i xs hl
      split at e
      · rename_i h
        cases e
        obtain ⟨a, us, rfl, ha, ra⟩ := listD_ok w rx hl
        refine .inr (.inr ⟨a, _, us, rfl, Rp.int_inv ry, ha, h.1, h.2.1, by rw [ra.length]; exact h.2.2, fun p hp => q.newL w hp (ra.rep _)⟩)
      · cases e
    · cases e
  · cases e
theorem pm_mul {X : Cx} {a b : Expr} {ma mb : EM R} {pos : Pos} (ha : PM X a ma) (hb : PM X b mb) : PM X (.BinOp a .Mult b pos) (eBin gMul ma mb) := pm_bin op_times opd_times ha hb

/-! ### comparisons -/
def rB (b : Bool) : Option R := some (.sv (.dt (.bl b)))
def toPs (f : D → Option PyData) : List D → Option (List PyData)
  | [] => some []
  | s :: r => match f s, toPs f r with
    | some d, some ds => some (d :: ds)
    | _, _ => none
mutual
def toP : D → Option PyData
  | .non => some .none
  | .bl b => some (.bool b)
  | .int i => some (.int i)
  | .str s => some (.str s)
  | .lst xs => match toPl xs with
    | some ps => some (.list ps)
    | none => none
  | .tup xs => match toPl xs with
    | some ps => some (.tuple ps)
    | none => none
  | _ => none
def toPl : List D → Option (List PyData)
  | [] => some []
  | d :: r => match toP d, toPl r with
    | some p, some ps => some (p :: ps)
    | _, _ => none
end
section
variable {K : PySem.W.Frag} {H : Hp}
mutual
theorem toP_ok : ∀ {v : V} {d : D} {p : PyData}, Rp K H v d → toP d = some p → Dp K H v p
  | _, _, _, .non, e => by simp only [toP] at e; cases e; exact .non
  | _, _, _, .bl b, e => by simp only [toP] at e; cases e; exact .bl b
  | _, _, _, .int i, e => by simp only [toP] at e; cases e; exact .int i
  | _, _, _, .str x, e => by simp only [toP] at e; cases e; exact .str x
  | _, _, p, .lst (ds := ds) h a, e => by
    simp only [toP] at e
    cases hp : toPl ds with
    | none => rw [hp] at e; cases e
    | some ps => rw [hp] at e; cases e; exact .lst (SqL.of h) (toPl_ok a hp)
  | _, _, p, .tup (ds := ds) h a, e => by
    simp only [toP] at e
    cases hp : toPl ds with
    | none => rw [hp] at e; cases e
    | some ps => rw [hp] at e; cases e; exact .tup h (toPl_ok a hp)
  | _, _, _, .dct .., e => by simp only [toP] at e; cases e
  | _, _, _, .ins .., e => by simp only [toP] at e; cases e
  | _, _, _, .scr .., e => by simp only [toP] at e; cases e
  | _, _, _, .obj .., e => by simp only [toP] at e; cases e
  | _, _, _, .raw .., e => by simp only [toP] at e; cases e
  | _, _, _, .opq .., e => by simp only [toP] at e; cases e
  | _, _, _, .exc .., e => by simp only [toP] at e; cases e
theorem toPl_ok : ∀ {vs : List V} {ds : List D} {ps : List PyData}, RpA K H vs ds → toPl ds = some ps → DpAll K H vs ps
  | _, _, _, .nil, e => by simp only [toPl] at e; cases e; exact .nil
  | _, _, _, .cons (d := d) (ds := ds) r t, e => by
    simp only [toPl] at e
    cases h1 : toP d with
    | none => rw [h1] at e; cases e
    | some p =>
      cases h2 : toPl ds with
      | none => rw [h1, h2] at e; cases e
      | some ps =>
        rw [h1, h2] at e
        cases e
        exact .cons (toP_ok r h1) (toPl_ok t h2)
end
end
/-- == of data -/
def eqS (M : MS) (s t : SV) : Option Bool := match peek M s, peek M t with
  | some d, some e => match toP d, toP e with
    | some p, some q => if SeqAt.shaped p && SeqAt.shaped q then some (PyData.eqv p q) else none
    | _, _ => none
  | _, _ => none
theorem eqS_ok {K : PySem.W.Frag} {Hk H : Hp} {M : MS} {ls : List Addr} {x y : V} {s t : SV} {b : Bool} (w : World K Hk H M ls) (rx : SVr K Hk ls ls.length x s) (ry : SVr K Hk ls ls.length y t) (e : eqS M s t = some b) :
    ∃ p q, Dp K H x p ∧ Dp K H y q ∧ SeqAt.shaped p = true ∧ SeqAt.shaped q = true ∧ b = PyData.eqv p q := by
  unfold eqS at e
  split at e
  · rename_i d1 d2 h1 h2
    split at e
    · rename_i p q h3 h4
      split at e
      · rename_i hs
        cases e
        rw [Bool.and_eq_true] at hs
        exact ⟨p, q, toP_ok (peek_ok w _ _ _ _ _ rx h1) h3, toP_ok (peek_ok w _ _ _ _ _ ry h2) h4, hs.1, hs.2, rfl⟩
      · cases e
    · cases e
  · cases e
/-- two lists that are not equally long, whatever stands in them -/
def lenNe (M : MS) (s t : SV) : Option Bool := match listOf M s, listOf M t with
  | some xs, some ys => if xs.length ≠ ys.length then some false else none
  | _, _ => none
def eqL (M : MS) (s t : SV) : Option Bool := match eqS M s t with
  | some b => some b
  | none => lenNe M s t
def eqT (M : MS) (s t : SV) : Option Bool := match s, t with
  | .dt (.str x), .dt (.str y) => some (decide (x = y))
  | s, t => eqL M s t
def rEqLen (K : PySem.W.Frag) (b : Bool) : R2 := fun x y H Q => ∃ p q xs ys, x = .ref p ∧ y = .ref q ∧ SqL K H p xs ∧ SqL K H q ys ∧ xs.length ≠ ys.length ∧ Q (.bl b) H
theorem op_eqLen {X : Cx} (hu : X.A.units + 64 < cLine) : OpR X (compareOp .Eq) (rEqLen X.K false) := by
  intro pins s σ H x y v u Q I rx ry h
  obtain ⟨p, q, xs, ys, rfl, rfl, h1, h2, hn, hq⟩ := h
  obtain rfl : v = Value.ref p := rx
  obtain rfl : u = Value.ref q := ry
  obtain ⟨i1, r1, p1, _⟩ := I.list h1
  obtain ⟨i2, r2, p2, _⟩ := I.list h2
  exact SeqAt.RcAt.lists_lengths p1.isList p2.isList (by rw [List.size_toArray, List.size_toArray, ← r1.length, ← r2.length]; simpa using hn) (by omega) _ _ _ _ ⟨.bl _, H, I, rfl, hq⟩
theorem op_neLen {X : Cx} (hu : X.A.units + 64 < cLine) : OpR X (compareOp .NotEq) (rEqLen X.K true) := by
  intro pins s σ H x y v u Q I rx ry h
  obtain ⟨p, q, xs, ys, rfl, rfl, h1, h2, hn, hq⟩ := h
  obtain rfl : v = Value.ref p := rx
  obtain rfl : u = Value.ref q := ry
  obtain ⟨i1, r1, p1, _⟩ := I.list h1
  obtain ⟨i2, r2, p2, _⟩ := I.list h2
  exact SeqAt.RcNeAt.lists_lengths p1.isList p2.isList (by rw [List.size_toArray, List.size_toArray, ← r1.length, ← r2.length]; simpa using hn) (by omega) _ _ _ _ ⟨.bl _, H, I, rfl, hq⟩
def gEq (M : MS) (s t : SV) : Option R := match eqT M s t with
  | some b => rB b
  | none => none
def gNe (M : MS) (s t : SV) : Option R := match eqT M s t with
  | some b => rB (!b)
  | none => none
theorem eqT_ok {K : PySem.W.Frag} {Hk H : Hp} {M : MS} {ls : List Addr} {x y : V} {s t : SV} {b : Bool} (w : World K Hk H M ls) (rx : SVr K Hk ls ls.length x s) (ry : SVr K Hk ls ls.length y t) (e : eqT M s t = some b) :
    (scal x y = true ∧ b = decide (x = y)) ∨ (∃ p q, Dp K H x p ∧ Dp K H y q ∧ SeqAt.shaped p = true ∧ SeqAt.shaped q = true ∧ b = PyData.eqv p q) ∨
      (b = false ∧ ∃ p q xs ys, x = .ref p ∧ y = .ref q ∧ SqL K H p xs ∧ SqL K H q ys ∧ xs.length ≠ ys.length) := by
  unfold eqT at e
  split at e
  · rename_i u v
    cases e
    cases rx
    cases ry
    refine .inl ⟨rfl, ?_⟩
    by_cases h : u = v
    · subst h; simp
    · have h2 : ¬ V.str u = V.str v := fun z => h (V.str.inj z)
      simp [h, h2]
  · unfold eqL at e
    split at e
    · rename_i b' hb
      cases e
      exact .inr (.inl (eqS_ok w rx ry hb))
    · unfold lenNe at e
      split at e
      · rename_i us vs h1 h2
        split at e
        · rename_i hn
          cases e
          obtain ⟨a, xs, rfl, ha, hxs⟩ := listOf_ok w rx h1
          obtain ⟨c, ys, rfl, hc, hys⟩ := listOf_ok w ry h2
          exact .inr (.inr ⟨rfl, a, c, xs, ys, rfl, rfl, SqL.of ha, SqL.of hc, by rw [hxs.length, hys.length]; exact hn⟩)
        · cases e
      · cases e
theorem op_eqT {X : Cx} (hu : X.A.units + 64 < cLine) : OpR X (compareOp .Eq) (fun x y H Q => rEq x y H Q ∨ rEqD X.K x y H Q ∨ rEqLen X.K false x y H Q) := OpR.or op_eq (OpR.or (op_eqD hu) (op_eqLen hu))
theorem op_neT {X : Cx} (hu : X.A.units + 64 < cLine) : OpR X (compareOp .NotEq) (fun x y H Q => rNe x y H Q ∨ rNeD X.K x y H Q ∨ rEqLen X.K true x y H Q) := OpR.or op_ne (OpR.or (op_neD hu) (op_neLen hu))
theorem opd_eq {K : PySem.W.Frag} : OpD K (fun x y H Q => rEq x y H Q ∨ rEqD K x y H Q ∨ rEqLen K false x y H Q) gEq := by
  intro Hk H M ls x y s t z Q w rx ry e q
  unfold gEq at e
  split at e
  · rename_i b hb
    cases e
    rcases eqT_ok w rx ry hb with ⟨h1, rfl⟩ | ⟨p, r, h1, h2, h3, h4, rfl⟩ | ⟨rfl, a, c, xs, ys, h1, h2, h3, h4, h5⟩
    · exact .inl ⟨h1, q.dt w (.bl _)⟩
    · exact .inr (.inl ⟨p, r, h1, h2, h3, h4, q.dt w (.bl _)⟩)
    · exact .inr (.inr ⟨a, c, xs, ys, h1, h2, h3, h4, h5, q.dt w (.bl _)⟩)
  · cases e
theorem opd_ne {K : PySem.W.Frag} : OpD K (fun x y H Q => rNe x y H Q ∨ rNeD K x y H Q ∨ rEqLen K true x y H Q) gNe := by
  intro Hk H M ls x y s t z Q w rx ry e q
  unfold gNe at e
  split at e
  · rename_i b hb
    cases e
    rcases eqT_ok w rx ry hb with ⟨h1, rfl⟩ | ⟨p, r, h1, h2, h3, h4, rfl⟩ | ⟨rfl, a, c, xs, ys, h1, h2, h3, h4, h5⟩
    · exact .inl ⟨h1, q.dt w (.bl _)⟩
    · exact .inr (.inl ⟨p, r, h1, h2, h3, h4, q.dt w (.bl _)⟩)
    · exact .inr (.inr ⟨a, c, xs, ys, h1, h2, h3, h4, h5, q.dt w (.bl _)⟩)
  · cases e
def gLt (_ : MS) (s t : SV) : Option R := int2 (fun i j => some (.bl (decide (i < j)))) s t
def gLe (_ : MS) (s t : SV) : Option R := int2 (fun i j => some (.bl (decide (i ≤ j)))) s t
def gGt (_ : MS) (s t : SV) : Option R := int2 (fun i j => some (.bl (decide (j < i)))) s t
def gGe (_ : MS) (s t : SV) : Option R := int2 (fun i j => some (.bl (decide (j ≤ i)))) s t
theorem opd_lt {K : PySem.W.Frag} : OpD K (rI0 fun i j => .bl (decide (i < j))) gLt := opd_int0 fun i j d e H => by cases e; exact .bl _
theorem opd_le {K : PySem.W.Frag} : OpD K (rI0 fun i j => .bl (decide (i ≤ j))) gLe := opd_int0 fun i j d e H => by cases e; exact .bl _
theorem opd_gt {K : PySem.W.Frag} : OpD K (rI0 fun i j => .bl (decide (j < i))) gGt := opd_int0 fun i j d e H => by cases e; exact .bl _
theorem opd_ge {K : PySem.W.Frag} : OpD K (rI0 fun i j => .bl (decide (j ≤ i))) gGe := opd_int0 fun i j d e H => by cases e; exact .bl _
/-- in: a sign in a text; a flat thing in a list or tuple of flat things -/
def flatD : D → Bool
  | .non => true
  | .bl _ => true
  | .int _ => true
  | .str _ => true
  | _ => false
def fV : D → V
  | .non => .non
  | .bl b => .bl b
  | .int i => .int i
  | .str s => .str s
  | _ => .ty ""
theorem flat_val {K : PySem.W.Frag} {H : Hp} {v : V} {d : D} (h : Rp K H v d) (f : flatD d = true) : v = fV d ∧ flatV v = true := by
  cases h <;> first | exact ⟨rfl, rfl⟩ | cases f
theorem flat_vals {K : PySem.W.Frag} {H : Hp} : ∀ {vs : List V} {ds : List D}, RpA K H vs ds → ds.all flatD = true → vs = ds.map fV ∧ vs.all flatV = true
  | _, _, .nil, _ => ⟨rfl, rfl⟩
  | _, _, .cons r t, f => by
    rw [List.all_cons, Bool.and_eq_true] at f
    obtain ⟨a, b⟩ := flat_val r f.1
    obtain ⟨c, d⟩ := flat_vals t f.2
    subst a c
    exact ⟨rfl, by rw [List.all_cons, b, d]; rfl⟩
def oneSign : Str → Option Nat := fun x => match x.cps.toList with
  | [c] => some c
  | _ => none
theorem oneSign_ok {x : Str} {c : Nat} (h : oneSign x = some c) : x = ⟨#[c]⟩ := by
  unfold oneSign at h
  split at h
  · rename_i c' e
    cases h
    obtain ⟨a⟩ := x
    obtain ⟨l⟩ := a
    cases e
    rfl
  · cases h
def itemsD (M : MS) (s : SV) : Option (List D) := match itemsOf M s with
  | some xs => allD xs
  | none => none
theorem itemsD_ok {K : PySem.W.Frag} {Hk H : Hp} {M : MS} {ls : List Addr} {v : V} {s : SV} {ds : List D} (w : World K Hk H M ls) (r : SVr K Hk ls ls.length v s) (e : itemsD M s = some ds) : ∃ a vs, v = .ref a ∧ (SqL K H a vs ∨ SqT K H a vs) ∧ RpA K Hk vs ds := by
  unfold itemsD at e
  cases h : itemsOf M s with
  | none => rw [h] at e; cases e
  | some xs =>
    rw [h] at e
    obtain ⟨a, vs, h1, h2, h3⟩ := itemsOf_ok w r h
    exact ⟨a, vs, h1, h2, h3.toA e⟩
def inS (M : MS) (s t : SV) : Option Bool := match s, t with
  | .dt (.str x), .dt (.str z) => match oneSign x with
    | some c => some (decide (c ∈ z.cps.toList))
    | none => none
  | .dt x, t => match itemsD M t with
    | some ds => if flatD x && ds.all flatD then some (inV (fV x) (ds.map fV)) else none
    | none => none
  | _, _ => none
def rInS (K : PySem.W.Frag) : R2 := fun x y H Q => (∃ (c : Nat) (z : Str), x = .str ⟨#[c]⟩ ∧ y = .str z ∧ Q (.bl (decide (c ∈ z.cps.toList))) H) ∨ rIn K false x y H Q
def rNotInS (K : PySem.W.Frag) : R2 := fun x y H Q => (∃ (c : Nat) (z : Str), x = .str ⟨#[c]⟩ ∧ y = .str z ∧ Q (.bl (!decide (c ∈ z.cps.toList))) H) ∨ rIn K true x y H Q
theorem op_inS {X : Cx} : OpR X (compareOp .In) (rInS X.K) := OpR.or op_in_sign op_in_seq
theorem op_notInS {X : Cx} : OpR X (compareOp .NotIn) (rNotInS X.K) := OpR.or op_notIn_sign op_notIn_seq
def gIn (M : MS) (s t : SV) : Option R := match inS M s t with
  | some b => rB b
  | none => none
def gNotIn (M : MS) (s t : SV) : Option R := match inS M s t with
  | some b => rB (!b)
  | none => none
theorem inS_ok {K : PySem.W.Frag} {Hk H : Hp} {M : MS} {ls : List Addr} {x y : V} {s t : SV} {b : Bool} (w : World K Hk H M ls) (rx : SVr K Hk ls ls.length x s) (ry : SVr K Hk ls ls.length y t) (e : inS M s t = some b) :
    (∃ (c : Nat) (z : Str), x = .str ⟨#[c]⟩ ∧ y = .str z ∧ b = decide (c ∈ z.cps.toList)) ∨ ∃ p xs, y = .ref p ∧ (SqL K H p xs ∨ SqT K H p xs) ∧ flatV x = true ∧ xs.all flatV = true ∧ b = inV x xs := by
  unfold inS at e
  split at e
  · rename_i x' z'
    split at e
    · rename_i c hc
      cases e
      have := oneSign_ok hc
      subst this
      exact .inl ⟨c, z', Rp.str_inv rx, Rp.str_inv ry, rfl⟩
    · cases e
  · rename_i d _ _
    split at e
    · rename_i ds hd
      split at e
      · rename_i hf
        cases e
        rw [Bool.and_eq_true] at hf
        obtain ⟨a, vs, rfl, hq, ra⟩ := itemsD_ok w ry hd
        obtain ⟨e1, f1⟩ := flat_val rx hf.1
        obtain ⟨e2, f2⟩ := flat_vals ra hf.2
        subst e1
        exact .inr ⟨a, vs, rfl, hq, f1, f2, by rw [e2]⟩
      · cases e
    · cases e
  · cases e
theorem opd_in {K : PySem.W.Frag} : OpD K (rInS K) gIn := by
  intro Hk H M ls x y s t z Q w rx ry e q
  unfold gIn at e
  split at e
  · rename_i b hb
    cases e
    rcases inS_ok w rx ry hb with ⟨c, z, rfl, rfl, rfl⟩ | ⟨p, xs, rfl, h1, h2, h3, rfl⟩
    · exact .inl ⟨c, z, rfl, rfl, q.dt w (.bl _)⟩
    · exact .inr ⟨p, xs, rfl, h1, h2, h3, q.dt w (.bl _)⟩
  · cases e
theorem opd_notIn {K : PySem.W.Frag} : OpD K (rNotInS K) gNotIn := by
  intro Hk H M ls x y s t z Q w rx ry e q
  unfold gNotIn at e
  split at e
  · rename_i b hb
    cases e
    rcases inS_ok w rx ry hb with ⟨c, z, rfl, rfl, rfl⟩ | ⟨p, xs, rfl, h1, h2, h3, rfl⟩
    · exact .inl ⟨c, z, rfl, rfl, q.dt w (.bl _)⟩
    · exact .inr ⟨p, xs, rfl, h1, h2, h3, q.dt w (.bl _)⟩
  · cases e
/-- is: truths -/
def gIs (_ : MS) (s t : SV) : Option R := match s, t with
  | .dt (.bl a), .dt (.bl b) => rB (decide (a = b))
  | _, _ => none
theorem opd_is {K : PySem.W.Frag} : OpD K rIsB gIs := by
  intro Hk H M ls x y s t z Q w rx ry e q
  unfold gIs at e
  split at e
  · cases e
    exact ⟨_, _, Rp.bl_inv rx, Rp.bl_inv ry, q.dt w (.bl _)⟩
  · cases e
section
variable {X : Cx} {a b c : Expr} {ma mb mc : EM R} {pos : Pos}
theorem pm_eq (hu : X.A.units + 64 < cLine) (ha : PM X a ma) (hb : PM X b mb) : PM X (.Compare a [.Eq] [b] pos) (eBin gEq ma mb) := pm_cmp (op_eqT hu) opd_eq ha hb
theorem pm_ne (hu : X.A.units + 64 < cLine) (ha : PM X a ma) (hb : PM X b mb) : PM X (.Compare a [.NotEq] [b] pos) (eBin gNe ma mb) := pm_cmp (op_neT hu) opd_ne ha hb
theorem pm_lt (ha : PM X a ma) (hb : PM X b mb) : PM X (.Compare a [.Lt] [b] pos) (eBin gLt ma mb) := pm_cmp op_lt opd_lt ha hb
theorem pm_le (ha : PM X a ma) (hb : PM X b mb) : PM X (.Compare a [.LtE] [b] pos) (eBin gLe ma mb) := pm_cmp op_le opd_le ha hb
theorem pm_gt (ha : PM X a ma) (hb : PM X b mb) : PM X (.Compare a [.Gt] [b] pos) (eBin gGt ma mb) := pm_cmp op_gt opd_gt ha hb
theorem pm_ge (ha : PM X a ma) (hb : PM X b mb) : PM X (.Compare a [.GtE] [b] pos) (eBin gGe ma mb) := pm_cmp op_ge opd_ge ha hb
theorem pm_in (ha : PM X a ma) (hb : PM X b mb) (hm : behindInMarks .In b = false := by rfl) : PM X (.Compare a [.In] [b] pos) (eBin gIn ma mb) := pm_cmp op_inS opd_in ha hb hm
theorem pm_notIn (ha : PM X a ma) (hb : PM X b mb) (hm : behindInMarks .NotIn b = false := by rfl) : PM X (.Compare a [.NotIn] [b] pos) (eBin gNotIn ma mb) := pm_cmp op_notInS opd_notIn ha hb hm
theorem pm_is (ha : PM X a ma) (hb : PM X b mb) : PM X (.Compare a [.Is] [b] pos) (eBin gIs ma mb) := pm_cmp op_isBl opd_is ha hb
/-- a op b op' c -/
def eChain (g g' : MS → SV → SV → Option R) (ma mb mc : EM R) : EM R := (fz ma).seq fun s => (fz mb).seq fun t => fun ρ M => match g M s t with
  | some (.sv (.dt (.bl true))) => (fz mc).seq (fun u => fun _ M' => match g' M' t u with
    | some z => some (z, M')
    | none => none) ρ M
  | some (.sv (.dt (.bl false))) => some (.sv (.dt (.bl false)), M)
  | _ => none
end
end Dy

set_option Elab.async false
set_option linter.all false
set_option maxRecDepth 100000
set_option maxHeartbeats 4000000
namespace Dy
open PySem L2

theorem Rr.back {K : PySem.W.Frag} {ls : List Addr} {H0 Hk0 H1 Hk1 H2 Hk2 : Hp} {v : V} {r : R} (x : Ext ls Hk0 H0 Hk1 H1) (h : Rr K H1 Hk2 H2 ls v r) : Rr K H0 Hk2 H2 ls v r := ebin_go.rr_back x h
theorem Res.back {K : PySem.W.Frag} {ls : List Addr} {H0 Hk0 H1 Hk1 : Hp} {r : R} {M : MS} {Q : VK} (x : Ext ls Hk0 H0 Hk1 H1) (h : Res K ls Hk0 H0 r M Q) : Res K ls Hk1 H1 r M Q :=
  fun v Hk2 H2 w2 x2 r2 => h v Hk2 H2 w2 (x.trans x2) (r2.back x)
section
variable {X : Cx} {a b c e : Expr} {es rest : List Expr} {ma mb mc m : EM R} {pos : Pos}
/-! ### chains -/
theorem echain_go {r r' : R2} {g g' : MS → SV → SV → Option R} (hd : OpD X.K r g) (hd' : OpD X.K r' g') : ∀ σ H Q, tM X.K (eChain g g' ma mb mc) σ H Q → tChain r r' (tV X.K (fz ma)) (tV X.K (fz mb)) (tV X.K (fz mc)) σ H Q := fun σ H Q ⟨Hk, ls, ρ, M, z, M', w, en, hm, q⟩ => by
  obtain ⟨s, M1, h1, h2⟩ := seq_some hm
  obtain ⟨t, M2, h3, h4⟩ := seq_some h2
  refine ⟨Hk, ls, ρ, M, s, M1, w, en, h1, fun v Hk1 H1 w1 x1 r1 => ?_⟩
  refine ⟨Hk1, ls, ρ, M1, t, M2, w1, en.mono x1.kk, h3, fun u Hk2 H2 w2 x2 r2 => ?_⟩
  cases hg : g M2 s t with
  | none => rw [hg] at h4; cases h4
  | some z' =>
    rw [hg] at h4
    refine hd Hk2 H2 M2 ls v u s t z' _ w2 (r1.mono x2.kk) r2 hg fun y Hk3 H3 w3 x3 r3 => ?_
    split at h4
    · rename_i e1
      cases e1
      have ry := Rp.bl_inv r3
      subst ry
      refine ⟨true, rfl, ?_⟩
      rw [if_pos rfl]
      obtain ⟨s5, M5, h5, h6⟩ := seq_some h4
      have x13 := (x1.trans x2).trans x3
      refine ⟨Hk3, ls, ρ, M2, s5, M5, w3, en.mono x13.kk, h5, fun v5 Hk5 H5 w5 x5 r5 => ?_⟩
      cases hg5 : g' M5 t s5 with
      | none => rw [hg5] at h6; cases h6
      | some z5 =>
        rw [hg5] at h6
        cases h6
        exact hd' Hk5 H5 _ ls u v5 t s5 _ Q w5 (r2.mono fun b o z => x5.kk b o (x3.kk b o z)) r5 hg5 (q.back (x13.trans x5))
    · rename_i e1
      cases e1
      cases h4
      have ry := Rp.bl_inv r3
      subst ry
      refine ⟨false, rfl, ?_⟩
      rw [if_neg Bool.false_ne_true]
      exact q _ Hk3 H3 w3 ((x1.trans x2).trans x3) r3
    · cases h4
theorem pm_chain {op op' : CmpOp} {r r' : R2} {g g' : MS → SV → SV → Option R} (ho : OpR X (compareOp op) r) (hd : OpD X.K r g) (ho' : OpR X (compareOp op') r') (hd' : OpD X.K r' g') (ha : PM X a ma) (hb : PM X b mb) (hc : PM X c mc)
    (hm : lastMarks [op, op'] [b, c] = false := by with_unfolding_all rfl) : PM X (.Compare a [op, op'] [b, c] pos) (eChain g g' ma mb mc) := PE.imp (pe_chain ho ho' (PM.v ha) (PM.v hb) (PM.v hc) hm) (echain_go hd hd')

/-! ### truth -/
def truthS (M : MS) : SV → Option Bool
  | .dt .non => some false
  | .dt (.bl b) => some b
  | .dt (.int i) => some (i != 0)
  | .dt (.str s) => if s.length ≤ sizeLine then some ((s.length : Int) != 0) else none
  | s => match itemsOf M s with
    | some xs => some (!xs.isEmpty)
    | none => none
theorem SVs.empty {K : PySem.W.Frag} {Hk : Hp} {ls : List Addr} {n : Nat} {vs : List V} {ss : List SV} (h : SVs K Hk ls n vs ss) : vs.isEmpty = ss.isEmpty := by cases h <;> rfl
theorem truthS_ok {K : PySem.W.Frag} {Hk H : Hp} {M : MS} {ls : List Addr} {x : V} {s : SV} {k : Bool} (w : World K Hk H M ls) (rx : SVr K Hk ls ls.length x s) (e : truthS M s = some k) : TruV K x H k := by
  unfold truthS at e
  split at e
  · cases rx; cases e; rfl
  · cases rx; cases e; rfl
  · cases rx; cases e; rfl
  · cases rx
    split at e
    · rename_i h; cases e; exact ⟨h, rfl⟩
    · cases e
  · split at e
    · rename_i xs hx
      cases e
      obtain ⟨p, vs, rfl, hq, hs⟩ := itemsOf_ok w rx hx
      rcases hq with hq | hq
      · exact .inl ⟨vs, hq, by rw [hs.empty]⟩
      · exact .inr (.inl ⟨vs, hq, by rw [hs.empty]⟩)
    · cases e
/-- a test of a value -/
def eTru (m : EM R) : EM Bool := (fz m).seq fun s => fun _ M => match truthS M s with
  | some k => some (k, M)
  | none => none
theorem etru_some {ρ : Env} {M : MS} {z : Bool × MS} (h : eTru m ρ M = some z) : ∃ s, fz m ρ M = some (s, z.2) ∧ truthS z.2 s = some z.1 := by
  obtain ⟨s, M1, h1, h2⟩ := seq_some h
  cases ht : truthS M1 s with
  | none => rw [ht] at h2; cases h2
  | some k =>
    rw [ht] at h2
    cases h2
    exact ⟨s, h1, ht⟩
theorem ptm_val (h : PM X e m) (he : ∀ whole, isTrue e X.env whole = (do let v ← whole; standAt e.pos; holding [v] (truthy v)) := by intro _; rfl) : PTm X e (eTru m) := PT.imp (pt_truth (PM.v h) he) fun σ H Q ⟨Hk, ls, ρ, M, r, M', w, en, hm, q⟩ => by
  obtain ⟨s, h1, h2⟩ := etru_some hm
  refine ⟨Hk, ls, ρ, M, s, M', w, en, h1, fun v Hk1 H1 w1 x1 r1 => ⟨r, truthS_ok w1 r1 h2, q Hk1 H1 w1 x1⟩⟩
/-- a comparison's answer -/
def eBool (m : EM R) : EM Bool := m.seq fun r => fun _ M => match r with
  | .sv (.dt (.bl k)) => some (k, M)
  | _ => none
theorem ebool_go {t : TE} (i : ∀ σ H Q, tM X.K m σ H Q → t σ H Q) : ∀ σ H Q, tT X.K (eBool m) σ H Q → tTest t σ H Q := fun σ H Q ⟨Hk, ls, ρ, M, r, M', w, en, hm, q⟩ => by
  obtain ⟨z, M1, h1, h2⟩ := seq_some hm
  refine i σ H _ ⟨Hk, ls, ρ, M, z, M1, w, en, h1, fun v Hk1 H1 w1 x1 r1 => ?_⟩
  split at h2
  · cases h2
    exact ⟨_, Rp.bl_inv r1, q Hk1 H1 w1 x1⟩
  · cases h2
theorem ptm_cmp {op : CmpOp} {r : R2} {g : MS → SV → SV → Option R} (ho : OpR X (compareOp op) r) (hd : OpD X.K r g) (ha : PM X a ma) (hb : PM X b mb) (hm : behindInMarks op b = false := by first | exact nomark _ | rfl) : PTm X (.Compare a [op] [b] pos) (eBool (eBin g ma mb)) :=
  PT.imp (pt_cmpR ho (PM.v ha) (PM.v hb) hm) (ebool_go (ebin_go hd))
theorem ptm_chain {op op' : CmpOp} {r r' : R2} {g g' : MS → SV → SV → Option R} (ho : OpR X (compareOp op) r) (hd : OpD X.K r g) (ho' : OpR X (compareOp op') r') (hd' : OpD X.K r' g') (ha : PM X a ma) (hb : PM X b mb) (hc : PM X c mc)
    (hm : lastMarks [op, op'] [b, c] = false := by with_unfolding_all rfl) : PTm X (.Compare a [op, op'] [b, c] pos) (eBool (eChain g g' ma mb mc)) := PT.imp (pt_chain ho ho' (PM.v ha) (PM.v hb) (PM.v hc) hm) (ebool_go (echain_go hd hd'))
theorem ptm_eq (hu : X.A.units + 64 < cLine) (ha : PM X a ma) (hb : PM X b mb) : PTm X (.Compare a [.Eq] [b] pos) (eBool (eBin gEq ma mb)) := ptm_cmp (op_eqT hu) opd_eq ha hb
theorem ptm_ne (hu : X.A.units + 64 < cLine) (ha : PM X a ma) (hb : PM X b mb) : PTm X (.Compare a [.NotEq] [b] pos) (eBool (eBin gNe ma mb)) := ptm_cmp (op_neT hu) opd_ne ha hb
theorem ptm_lt (ha : PM X a ma) (hb : PM X b mb) : PTm X (.Compare a [.Lt] [b] pos) (eBool (eBin gLt ma mb)) := ptm_cmp op_lt opd_lt ha hb
theorem ptm_le (ha : PM X a ma) (hb : PM X b mb) : PTm X (.Compare a [.LtE] [b] pos) (eBool (eBin gLe ma mb)) := ptm_cmp op_le opd_le ha hb
theorem ptm_gt (ha : PM X a ma) (hb : PM X b mb) : PTm X (.Compare a [.Gt] [b] pos) (eBool (eBin gGt ma mb)) := ptm_cmp op_gt opd_gt ha hb
theorem ptm_ge (ha : PM X a ma) (hb : PM X b mb) : PTm X (.Compare a [.GtE] [b] pos) (eBool (eBin gGe ma mb)) := ptm_cmp op_ge opd_ge ha hb
theorem ptm_in (ha : PM X a ma) (hb : PM X b mb) (hm : behindInMarks .In b = false := by rfl) : PTm X (.Compare a [.In] [b] pos) (eBool (eBin gIn ma mb)) := ptm_cmp op_inS opd_in ha hb hm
theorem ptm_notIn (ha : PM X a ma) (hb : PM X b mb) (hm : behindInMarks .NotIn b = false := by rfl) : PTm X (.Compare a [.NotIn] [b] pos) (eBool (eBin gNotIn ma mb)) := ptm_cmp op_notInS opd_notIn ha hb hm
theorem ptm_is (ha : PM X a ma) (hb : PM X b mb) : PTm X (.Compare a [.Is] [b] pos) (eBool (eBin gIs ma mb)) := ptm_cmp op_isBl opd_is ha hb

/-! ### and, or, not as tests -/
variable {ca cb : EM Bool}
abbrev PWm (X : Cx) (e : Expr) (m : EM Bool) : Prop := PW X e (tT X.K m)
theorem PW.imp {X : Cx} {e : Expr} {t u : TT} (h : PW X e t) (i : ∀ σ H Q, u σ H Q → t σ H Q) : PW X e u := ⟨fun wh pins s σ H Q I q => h.run wh pins s σ H Q I (i σ H Q q)⟩
def tAndB (ca cb : EM Bool) : EM Bool := ca.seq fun k => if k = true then cb else EM.ret false
def tOrB (ca cb : EM Bool) : EM Bool := ca.seq fun k => if k = true then EM.ret true else cb
def tNotB (ca : EM Bool) : EM Bool := ca.seq fun k => EM.ret (!k)
theorem pwm_and1 (ha : PTm X a ca) : PWm X (.BoolOp .And [a] pos) ca := pw_and1 ha
theorem pwm_or1 (ha : PTm X a ca) : PWm X (.BoolOp .Or [a] pos) ca := pw_or1 ha
theorem pwm_and (ha : PTm X a ca) (hb : PWm X (.BoolOp .And (b :: rest) pos) cb) : PWm X (.BoolOp .And (a :: b :: rest) pos) (tAndB ca cb) := PW.imp (pw_and ha hb) fun σ H Q ⟨Hk, ls, ρ, M, r, M', w, en, hm, q⟩ => by
  obtain ⟨k, M1, h1, h2⟩ := seq_some hm
  refine ⟨Hk, ls, ρ, M, k, M1, w, en, h1, fun Hk1 H1 w1 x1 => ?_⟩
  cases k with
  | true =>
    rw [if_pos rfl] at h2 ⊢
    exact ⟨Hk1, ls, ρ, M1, r, M', w1, en.mono x1.kk, h2, fun Hk2 H2 w2 x2 => q Hk2 H2 w2 (x1.trans x2)⟩
  | false =>
    rw [if_neg Bool.false_ne_true] at h2 ⊢
    cases h2
    exact q Hk1 H1 w1 x1
theorem pwm_or (ha : PTm X a ca) (hb : PWm X (.BoolOp .Or (b :: rest) pos) cb) : PWm X (.BoolOp .Or (a :: b :: rest) pos) (tOrB ca cb) := PW.imp (pw_or ha hb) fun σ H Q ⟨Hk, ls, ρ, M, r, M', w, en, hm, q⟩ => by
  obtain ⟨k, M1, h1, h2⟩ := seq_some hm
  refine ⟨Hk, ls, ρ, M, k, M1, w, en, h1, fun Hk1 H1 w1 x1 => ?_⟩
  cases k with
  | true =>
    rw [if_pos rfl] at h2 ⊢
    cases h2
    exact q Hk1 H1 w1 x1
  | false =>
    rw [if_neg Bool.false_ne_true] at h2 ⊢
    exact ⟨Hk1, ls, ρ, M1, r, M', w1, en.mono x1.kk, h2, fun Hk2 H2 w2 x2 => q Hk2 H2 w2 (x1.trans x2)⟩
theorem PWm.t {e : Expr} (h : PWm X e ca) : PTm X e ca := PW.pt h
theorem ptm_not (ha : PTm X a ca) : PTm X (.UnaryOp .Not a pos) (tNotB ca) := PT.imp (pt_not ha) fun σ H Q ⟨Hk, ls, ρ, M, r, M', w, en, hm, q⟩ => by
  obtain ⟨k, M1, h1, h2⟩ := seq_some hm
  cases h2
  exact ⟨Hk, ls, ρ, M, k, _, w, en, h1, fun Hk1 H1 w1 x1 => q Hk1 H1 w1 x1⟩

/-! ### and, or, not as values -/
def eAnd (ma mb : EM R) : EM R := (fz ma).seq fun s => fun ρ M => match truthS M s with
  | some true => mb ρ M
  | some false => some (.sv s, M)
  | none => none
def eOr (ma mb : EM R) : EM R := (fz ma).seq fun s => fun ρ M => match truthS M s with
  | some true => some (.sv s, M)
  | some false => mb ρ M
  | none => none
def eNot (ma : EM R) : EM R := (fz ma).seq fun s => fun _ M => match truthS M s with
  | some k => some (.sv (.dt (.bl (!k))), M)
  | none => none
theorem pm_one {op} (h : PM X a ma) : PM X (.BoolOp op [a] pos) ma := pe_one h
theorem pm_and (ha : PM X a ma) (hb : PM X (.BoolOp .And (b :: rest) pos) mb) : PM X (.BoolOp .And (a :: b :: rest) pos) (eAnd ma mb) := PE.imp (pe_andT (PM.v ha) hb) fun σ H Q ⟨Hk, ls, ρ, M, r, M', w, en, hm, q⟩ => by
  obtain ⟨s, M1, h1, h2⟩ := seq_some hm
  refine ⟨Hk, ls, ρ, M, s, M1, w, en, h1, fun v Hk1 H1 w1 x1 r1 => ?_⟩
  cases ht : truthS M1 s with
  | none => rw [ht] at h2; cases h2
  | some k =>
    rw [ht] at h2
    refine ⟨k, truthS_ok w1 r1 ht, ?_⟩
    cases k with
    | true =>
      rw [if_pos rfl]
      exact ⟨Hk1, ls, ρ, M1, r, M', w1, en.mono x1.kk, h2, q.back x1⟩
    | false =>
      rw [if_neg Bool.false_ne_true]
      cases h2
      exact q v Hk1 H1 w1 x1 r1
theorem pm_or (ha : PM X a ma) (hb : PM X (.BoolOp .Or (b :: rest) pos) mb) : PM X (.BoolOp .Or (a :: b :: rest) pos) (eOr ma mb) := PE.imp (pe_orT (PM.v ha) hb) fun σ H Q ⟨Hk, ls, ρ, M, r, M', w, en, hm, q⟩ => by
  obtain ⟨s, M1, h1, h2⟩ := seq_some hm
  refine ⟨Hk, ls, ρ, M, s, M1, w, en, h1, fun v Hk1 H1 w1 x1 r1 => ?_⟩
  cases ht : truthS M1 s with
  | none => rw [ht] at h2; cases h2
  | some k =>
    rw [ht] at h2
    refine ⟨k, truthS_ok w1 r1 ht, ?_⟩
    cases k with
    | true =>
      rw [if_pos rfl]
      cases h2
      exact q v Hk1 H1 w1 x1 r1
    | false =>
      rw [if_neg Bool.false_ne_true]
      exact ⟨Hk1, ls, ρ, M1, r, M', w1, en.mono x1.kk, h2, q.back x1⟩
theorem pm_not (ha : PM X a ma) : PM X (.UnaryOp .Not a pos) (eNot ma) := PE.imp (pe_notT (PM.v ha)) fun σ H Q ⟨Hk, ls, ρ, M, r, M', w, en, hm, q⟩ => by
  obtain ⟨s, M1, h1, h2⟩ := seq_some hm
  refine ⟨Hk, ls, ρ, M, s, M1, w, en, h1, fun v Hk1 H1 w1 x1 r1 => ?_⟩
  cases ht : truthS M1 s with
  | none => rw [ht] at h2; cases h2
  | some k =>
    rw [ht] at h2
    cases h2
    exact ⟨k, truthS_ok w1 r1 ht, q _ Hk1 H1 w1 x1 (Rp.bl _)⟩
def eNeg (ma : EM R) : EM R := (fz ma).seq fun s => fun _ M => match s with
  | .dt (.int i) => some (.sv (.dt (.int (-i))), M)
  | _ => none
theorem pm_neg (ha : PM X a ma) : PM X (.UnaryOp .USub a pos) (eNeg ma) := PE.imp (pe_un un_neg (PM.v ha)) fun σ H Q ⟨Hk, ls, ρ, M, r, M', w, en, hm, q⟩ => by
  obtain ⟨s, M1, h1, h2⟩ := seq_some hm
  refine ⟨Hk, ls, ρ, M, s, M1, w, en, h1, fun v Hk1 H1 w1 x1 r1 => ?_⟩
  split at h2
  · cases h2
    exact ⟨_, Rp.int_inv r1, q _ Hk1 H1 w1 x1 (Rp.int _)⟩
  · cases h2
/-- a if t else b -/
def eIf (c : EM Bool) (ma mb : EM R) : EM R := c.seq fun k => if k = true then ma else mb
theorem pm_if (hc : PTm X c ca) (ha : PM X a ma) (hb : PM X b mb) : PM X (.IfExp c a b pos) (eIf ca ma mb) := PE.imp (pe_ifExp hc ha hb) fun σ H Q ⟨Hk, ls, ρ, M, r, M', w, en, hm, q⟩ => by
  obtain ⟨k, M1, h1, h2⟩ := seq_some hm
  refine ⟨Hk, ls, ρ, M, k, M1, w, en, h1, fun Hk1 H1 w1 x1 => ?_⟩
  cases k with
  | true =>
    rw [if_pos rfl] at h2 ⊢
    exact ⟨Hk1, ls, ρ, M1, r, M', w1, en.mono x1.kk, h2, q.back x1⟩
  | false =>
    rw [if_neg Bool.false_ne_true] at h2 ⊢
    exact ⟨Hk1, ls, ρ, M1, r, M', w1, en.mono x1.kk, h2, q.back x1⟩

/-! ### displays -/
variable {ms : EM (List SV)}
def eTup (ms : EM (List SV)) : EM R := ms.seq fun ss => fun _ M => match allD ss with
  | some ds => if ds.length ≤ sizeLine then some (.sv (.dt (.tup ds)), M) else none
  | none => none
def eLst (ms : EM (List SV)) : EM R := ms.seq fun ss => fun _ M => match allD ss with
  | some ds => if ds.length ≤ sizeLine then some (.fr ds, M) else none
  | none => none
theorem pm_tup {x1} (h : PAm X es ms) : PM X (.Tuple es x1 pos) (eTup ms) := PE.imp (pe_tup h) fun σ H Q ⟨Hk, ls, ρ, M, r, M', w, en, hm, q⟩ => by
  obtain ⟨ss, M1, h1, h2⟩ := seq_some hm
  refine ⟨Hk, ls, ρ, M, ss, M1, w, en, h1, fun vs Hk1 H1 w1 x1 r1 => ?_⟩
  split at h2
  · rename_i ds hd
    split at h2
    · rename_i hz
      cases h2
      have ra := r1.toA hd
      exact ⟨by rw [ra.length]; exact hz, fun p hp => (q.back x1).newT w1 hp ra⟩
    · cases h2
  · cases h2
theorem pm_lst (h : PAm X es ms) : PM X (.List es pos) (eLst ms) := PE.imp (pe_lst h) fun σ H Q ⟨Hk, ls, ρ, M, r, M', w, en, hm, q⟩ => by
  obtain ⟨ss, M1, h1, h2⟩ := seq_some hm
  refine ⟨Hk, ls, ρ, M, ss, M1, w, en, h1, fun vs Hk1 H1 w1 x1 r1 => ?_⟩
  split at h2
  · rename_i ds hd
    split at h2
    · rename_i hz
      cases h2
      have ra := r1.toA hd
      exact ⟨by rw [ra.length]; exact hz, fun p hp => (q.back x1).newL w1 hp ra⟩
    · cases h2
  · cases h2

/-! ### subscripts and slices -/
def gIx (M : MS) (s t : SV) : Option R := match t with
  | .dt (.int i) => match s with
    | .dt (.str z) => if z.length ≤ sizeLine then match atI z.cps.toList i with
        | some c => some (.sv (.dt (.str ⟨#[c]⟩)))
        | none => none
      else none
    | s => match itemsOf M s with
      | some xs => match atI xs i with
        | some y => some (.sv y)
        | none => none
      | none => none
  | _ => none
theorem SVs.atI {K : PySem.W.Frag} {Hk : Hp} {ls : List Addr} {n : Nat} {vs : List V} {ss : List SV} {i : Int} {s : SV} (h : SVs K Hk ls n vs ss) (e : L2.atI ss i = some s) : ∃ v, L2.atI vs i = some v ∧ SVr K Hk ls n v s := by
  unfold L2.atI at e ⊢
  rw [h.length]
  cases hj : ixN ss.length i with
  | none => rw [hj] at e; cases e
  | some j =>
    rw [hj] at e
    exact h.get e
theorem opd_ix {K : PySem.W.Frag} : OpD K (rIx K) gIx := by
  intro Hk H M ls x y s t z Q w rx ry e q
  unfold gIx at e
  split at e
  · rename_i i
    split at e
    · rename_i z'
      split at e
      · rename_i hz
        split at e
        · rename_i c hc
          cases e
          exact .inr (.inr ⟨z', i, c, Rp.str_inv rx, Rp.int_inv ry, hz, hc, q.dt w (.str _)⟩)
        · cases e
      · cases e
    · split at e
      · rename_i xs hx
        split at e
        · rename_i y' hy
          cases e
          obtain ⟨p, vs, rfl, hq, hs⟩ := itemsOf_ok w rx hx
          obtain ⟨v, hv, rv⟩ := hs.atI hy
          rcases hq with hq | hq
          · exact .inl ⟨p, vs, i, v, rfl, Rp.int_inv ry, hq, hv, q v Hk H w (Ext.refl _ _ _) rv⟩
          · exact .inr (.inl ⟨p, vs, i, v, rfl, Rp.int_inv ry, hq, hv, q v Hk H w (Ext.refl _ _ _) rv⟩)
        · cases e
      · cases e
  · cases e
theorem pm_sub_ix (ha : PM X a ma) (hb : PM X b mb) (hs : PlainIx b := by exact fun _ _ => rfl) : PM X (.Subscript a b pos) (eBin gIx ma mb) := pm_ix ix_seq opd_ix ha hb hs
def cutD (xs : List D) (lo hi : Option Int) : List D := (xs.drop (HT.sIx xs.length 0 lo)).take (HT.sIx xs.length xs.length hi - HT.sIx xs.length 0 lo)
theorem RpA.cut {K : PySem.W.Frag} {H : Hp} {vs : List V} {ds : List D} (h : RpA K H vs ds) (lo hi : Option Int) : RpA K H (cutV vs lo hi) (cutD ds lo hi) := by
  unfold cutV cutD
  rw [h.length]
  exact (h.drop _).take _
/-- a part of a slice -/
def eNoPart : EM (Option Int) := EM.ret none
def ePart (m : EM R) : EM (Option Int) := (fz m).seq fun s => fun _ M => match s with
  | .dt (.int i) => some (some i, M)
  | _ => none
def tO (K : PySem.W.Frag) (m : EM (Option Int)) : TO := fun σ H Q => ∃ Hk ls ρ M r M', World K Hk H M ls ∧ EnvR K Hk ls σ ρ ∧ m ρ M = some (r, M') ∧ ∀ Hk' H', World K Hk' H' M' ls → Ext ls Hk H Hk' H' → Q r H'
abbrev POm (X : Cx) (e : Option Expr) (m : EM (Option Int)) : Prop := PO X e (tO X.K m)
theorem pom_none : POm X none eNoPart := ⟨fun pins s σ H Q I ⟨Hk, ls, ρ, M, r, M', w, en, hm, q⟩ => by
  cases hm
  exact po_none.run pins s σ H Q I (q Hk H w (Ext.refl _ _ _))⟩
theorem pom_some (h : PM X e m) : POm X (some e) (ePart m) := ⟨fun pins s σ H Q I ⟨Hk, ls, ρ, M, r, M', w, en, hm, q⟩ => by
  obtain ⟨s1, M1, h1, h2⟩ := seq_some hm
  refine (po_some (PM.v h)).run pins s σ H Q I ⟨Hk, ls, ρ, M, s1, M1, w, en, h1, fun v Hk1 H1 w1 x1 r1 => ?_⟩
  split at h2
  · cases h2
    exact ⟨_, Rp.int_inv r1, q Hk1 H1 w1 x1⟩
  · cases h2⟩
def gSl (M : MS) (s : SV) (lo hi : Option Int) : Option R := match s with
  | .dt (.str z) => if z.length ≤ sizeLine then some (.sv (.dt (.str (cutS z lo hi)))) else none
  | .dt (.tup ds) => some (.sv (.dt (.tup (cutD ds lo hi))))
  | .dt (.scr ns) => some (.fr (cutD (ns.map .int) lo hi))
  | s => match listD M s with
    | some ds => some (.fr (cutD ds lo hi))
    | none => none
def eSlice (m : EM R) (lo hi : EM (Option Int)) : EM R := (fz m).seq fun s => lo.seq fun l => hi.seq fun h => fun _ M => match gSl M s l h with
  | some z => some (z, M)
  | none => none
def rSlS3 (K : PySem.W.Frag) : V → Option Int → Option Int → Hp → VK → Prop := fun x lo hi H Q => rSlS x lo hi H Q ∨ rSlA K x lo hi H Q ∨ rSlL K x lo hi H Q
theorem sl_any : SlR X (rSlS3 X.K) := SlR.or sl_str (SlR.or sl_tupA sl_list)
theorem RpA.ints {K : PySem.W.Frag} {H : Hp} : ∀ ns : List Int, RpA K H (ns.map V.int) (ns.map D.int)
  | [] => .nil
  | n :: r => .cons (.int n) (RpA.ints r)
theorem gsl_ok {K : PySem.W.Frag} {Hk H : Hp} {M : MS} {ls : List Addr} {x : V} {s : SV} {lo hi : Option Int} {z : R} {Q : VK} (w : World K Hk H M ls) (rx : SVr K Hk ls ls.length x s) (e : gSl M s lo hi = some z) (q : Res K ls Hk H z M Q) : rSlS3 K x lo hi H Q := by
  unfold gSl at e
  split at e
  · split at e
    · rename_i hz
      cases e
      exact .inl ⟨_, Rp.str_inv rx, hz, q.dt w (.str _)⟩
    · cases e
  · rename_i ds
    cases e
    cases rx with
    | tup h a =>
      rename_i p us
      refine .inr (.inl ⟨p, us, rfl, same_t w.sub h, fun hw => ?_, fun _ p' hp => q.newT w hp (a.cut lo hi)⟩)
      have e1 : cutD ds lo hi = ds := by
        unfold cutD
        rw [← a.length, hw.1, hw.2]
        rw [List.drop_zero, Nat.sub_zero, a.length, List.take_length]
      rw [e1] at q
      exact q.dt w (.tup h a)
  · rename_i ns
    cases e
    cases rx with
    | scr h => exact .inr (.inr ⟨_, _, rfl, same_l w.sub h, fun p hp => q.newL w hp ((RpA.ints ns).cut lo hi)⟩)
  · split at e
    · rename_i ds hd
      cases e
      obtain ⟨a, us, rfl, ha, ra⟩ := listD_ok w rx hd
      exact .inr (.inr ⟨a, us, rfl, SqL.of ha, fun p hp => q.newL w hp (ra.cut lo hi)⟩)
    · cases e
theorem pm_slice {lo hi : Option Expr} {ml mh : EM (Option Int)} {p2 : Pos} (h : PM X e m) (hl : POm X lo ml) (hh : POm X hi mh) : PM X (.Subscript e (.Slice lo hi none p2) pos) (eSlice m ml mh) := PE.imp (pe_slice sl_any (PM.v h) hl hh) fun σ H Q ⟨Hk, ls, ρ, M, r, M', w, en, hm, q⟩ => by
  obtain ⟨s, M1, h1, h2⟩ := seq_some hm
  obtain ⟨l, M2, h3, h4⟩ := seq_some h2
  obtain ⟨u, M3, h5, h6⟩ := seq_some h4
  refine ⟨Hk, ls, ρ, M, s, M1, w, en, h1, fun v Hk1 H1 w1 x1 r1 => ?_⟩
  refine ⟨Hk1, ls, ρ, M1, l, M2, w1, en.mono x1.kk, h3, fun Hk2 H2 w2 x2 => ?_⟩
  refine ⟨Hk2, ls, ρ, M2, u, M3, w2, en.mono (x1.trans x2).kk, h5, fun Hk3 H3 w3 x3 => ?_⟩
  cases hg : gSl M3 s l u with
  | none => rw [hg] at h6; cases h6
  | some z =>
    rw [hg] at h6
    cases h6
    exact gsl_ok w3 (r1.mono fun b o z => x3.kk b o (x2.kk b o z)) hg (q.back ((x1.trans x2).trans x3))
end
end Dy

set_option Elab.async false
set_option linter.all false
set_option maxRecDepth 100000
set_option maxHeartbeats 4000000
namespace Dy
open PySem L2

/-! ### what statements may change -/
structure ExtS (ls ls' : List Addr) (Hk H Hk' H' : Hp) : Prop where
  pre : ∃ t, ls' = ls ++ t
  kk : Same Hk Hk'
  fr : ∀ a o, H a = some o → a ∉ ls → H' a = some o
  gr : ∀ a, Hk' a ≠ none → Hk a ≠ none ∨ H a = none
  nw : ∀ a ∈ ls', a ∈ ls ∨ H a = none
  st : ∀ a, H a ≠ none → H' a ≠ none
section
variable {K : PySem.W.Frag} {Hk H Hk' H' Hk2 H2 : Hp} {M M' : MS} {ls ls' ls2 : List Addr}
theorem Ext.s (x : Ext ls Hk H Hk' H') : ExtS ls ls Hk H Hk' H' := ⟨⟨[], by simp⟩, x.kk, x.fr, x.gr, fun _ h => .inl h, x.st⟩
theorem ExtS.refl (ls : List Addr) (Hk H : Hp) : ExtS ls ls Hk H Hk H := (Ext.refl ls Hk H).s
theorem ExtS.trans (a : ExtS ls ls' Hk H Hk' H') (b : ExtS ls' ls2 Hk' H' Hk2 H2) : ExtS ls ls2 Hk H Hk2 H2 where
  pre := by
    obtain ⟨t, rfl⟩ := a.pre
    obtain ⟨u, rfl⟩ := b.pre
    exact ⟨t ++ u, by rw [List.append_assoc]⟩
  kk := fun x o h => b.kk x o (a.kk x o h)
  fr := fun x o h hn => b.fr x o (a.fr x o h hn) fun z => by
    rcases a.nw x z with z | z
    · exact hn z
    · rw [h] at z; cases z
  gr := fun x h => by
    rcases b.gr x h with h | h
    · exact a.gr x h
    · right
      cases e : H x with
      | none => rfl
      | some o => exact absurd h (a.st x (by rw [e]; simp))
  nw := fun x h => by
    rcases b.nw x h with h | h
    · exact a.nw x h
    · right
      cases e : H x with
      | none => rfl
      | some o => exact absurd h (a.st x (by rw [e]; simp))
  st := fun x h => b.st x (a.st x h)
theorem ExtS.back (x : ExtS ls ls' Hk H Hk' H') {l : Addr} (h : H' l = none) : H l = none := by
  cases e : H l with
  | none => rfl
  | some o => exact absurd h (x.st l (by rw [e]; simp))
theorem Rr.backS {v : V} {r : R} (x : ExtS ls ls' Hk H Hk' H') (h : Rr K H' Hk2 H2 ls2 v r) : Rr K H Hk2 H2 ls2 v r := by
  cases r with
  | sv s => exact h
  | fr ds => obtain ⟨l, vs, a, b, c⟩ := h; exact ⟨l, vs, a, x.back b, c⟩
  | fd ks ds => obtain ⟨l, vs, a, b, c⟩ := h; exact ⟨l, vs, a, x.back b, c⟩
theorem SVr.more {n : Nat} {v : V} {s : SV} {t : List Addr} (h : SVr K Hk ls n v s) : SVr K Hk (ls ++ t) n v s := by
  cases s with
  | dt d => exact h
  | mu k =>
    obtain ⟨a, l, b, c⟩ := h
    refine ⟨a, l, ?_, c⟩
    rw [List.getElem?_append_left (List.getElem?_eq_some_iff.mp b).1]
    exact b
theorem SVs.more {n : Nat} {t : List Addr} : ∀ {vs : List V} {ss : List SV}, SVs K Hk ls n vs ss → SVs K Hk (ls ++ t) n vs ss
  | _, _, .nil => .nil
  | _, _, .cons r u => .cons r.more (SVs.more u)
theorem SVr.extS {v : V} {s : SV} (x : ExtS ls ls' Hk H Hk' H') (h : SVr K Hk ls ls.length v s) : SVr K Hk' ls' ls'.length v s := by
  obtain ⟨t, rfl⟩ := x.pre
  exact ((h.mono x.kk).more).up (by simp)
theorem EnvR.extS {σ : St} {ρ : Env} (x : ExtS ls ls' Hk H Hk' H') (h : EnvR K Hk ls σ ρ) : EnvR K Hk' ls' σ ρ :=
  ⟨h.1, fun i s q => let ⟨v, a, b⟩ := h.2 i s q; ⟨v, a, b.extS x⟩⟩
theorem EnvR.set {σ : St} {ρ : Env} {i : Nat} {v : V} {s : SV} (h : EnvR K Hk ls σ ρ) (r : SVr K Hk ls ls.length v s) : EnvR K Hk ls (σ.set i (some v)) (ρ.set i (some s)) := by
  refine ⟨by rw [List.length_set, List.length_set]; exact h.1, fun j t e => ?_⟩
  by_cases hj : i = j
  · subst hj
    by_cases hl : i < ρ.length
    · rw [List.getElem?_set_self hl] at e
      cases e
      exact ⟨v, List.getElem?_set_self (by rw [← h.1]; exact hl), r⟩
    · rw [List.getElem?_eq_none (by rw [List.length_set]; omega)] at e
      cases e
  · rw [List.getElem?_set_ne hj] at e ⊢
    exact h.2 j t e
/-- a fresh thing gets a handle -/
theorem World.push {l : Addr} {o : MO} (w : World K Hk H M ls) (hl : l ∉ ls) (hn : Hk l = none) (ho : MOr K Hk H ls M.length l o) : World K Hk H (M ++ [o]) (ls ++ [l]) where
  sub := w.sub
  len := by rw [List.length_append, List.length_append, w.len]; rfl
  nd := by
    rw [List.nodup_append]
    refine ⟨w.nd, by simp, fun a ha b hb => ?_⟩
    have : b = l := by simpa using hb
    subst this
    exact fun e => hl (e ▸ ha)
  dj := fun a ha => by
    rcases List.mem_append.mp ha with h | h
    · exact w.dj a h
    · have : a = l := by simpa using h
      subst this; exact hn
  ms := fun k x e => by
    by_cases hk : k < M.length
    · rw [List.getElem?_append_left hk] at e
      obtain ⟨l', a, b⟩ := w.ms k x e
      refine ⟨l', by rw [List.getElem?_append_left (List.getElem?_eq_some_iff.mp a).1]; exact a, ?_⟩
      cases x with
      | l xs => obtain ⟨vs, p, q⟩ := b; exact ⟨vs, p, q.more⟩
      | d ks xs => obtain ⟨vs, p, q, r⟩ := b; exact ⟨vs, p, q, r.more⟩
      | i C ns xs => exact b
      | o C ns xs => obtain ⟨dx, vs, p, q, r⟩ := b; exact ⟨dx, vs, p, q, r.more.up (by simp)⟩
      | t ks xs => obtain ⟨vs, p, q, r⟩ := b; exact ⟨vs, p, q, r.more⟩
    · have hk2 : k = M.length := by
        have := (List.getElem?_eq_some_iff.mp e).1
        rw [List.length_append] at this
        simp at this
        omega
      subst hk2
      rw [List.getElem?_append_right (Nat.le_refl _)] at e
      simp at e
      subst e
      refine ⟨l, by rw [w.len, List.getElem?_append_right (Nat.le_refl _)]; simp, ?_⟩
      cases o with
      | l xs => obtain ⟨vs, p, q⟩ := ho; exact ⟨vs, p, q.more⟩
      | d ks xs => obtain ⟨vs, p, q, r⟩ := ho; exact ⟨vs, p, q, r.more⟩
      | i C ns xs => exact ho
      | o C ns xs => obtain ⟨dx, vs, p, q, r⟩ := ho; exact ⟨dx, vs, p, q, r.more.up (by simp)⟩
      | t ks xs => obtain ⟨vs, p, q, r⟩ := ho; exact ⟨vs, p, q, r.more⟩
end

/-! ### statements -/
inductive Out where
  | nx (ρ : Env) (M : MS) | rt (r : R) (M : MS) | bk (ρ : Env) (M : MS) | ct (ρ : Env) (M : MS)
abbrev SM := Env → MS → Option Out
def OutR (K : PySem.W.Frag) (ls : List Addr) (Hk H : Hp) (E : Ends) : Out → Prop
  | .nx ρ' M' => ∀ σ' Hk' H' ls', World K Hk' H' M' ls' → ExtS ls ls' Hk H Hk' H' → EnvR K Hk' ls' σ' ρ' → E.nx σ' H'
  | .rt r M' => ∀ v Hk' H' ls', World K Hk' H' M' ls' → ExtS ls ls' Hk H Hk' H' → Rr K H Hk' H' ls' v r → E.rt v H'
  | .bk ρ' M' => ∀ σ' Hk' H' ls', World K Hk' H' M' ls' → ExtS ls ls' Hk H Hk' H' → EnvR K Hk' ls' σ' ρ' → E.bk σ' H'
  | .ct ρ' M' => ∀ σ' Hk' H' ls', World K Hk' H' M' ls' → ExtS ls ls' Hk H Hk' H' → EnvR K Hk' ls' σ' ρ' → E.ct σ' H'
def tS (K : PySem.W.Frag) (m : SM) : TS := fun E σ H => ∃ Hk ls ρ M o, World K Hk H M ls ∧ EnvR K Hk ls σ ρ ∧ m ρ M = some o ∧ OutR K ls Hk H E o
abbrev PSm (X : Cx) (st : Stmt) (m : SM) : Prop := PS X st (tS X.K m)
abbrev PSsm (X : Cx) (st : List Stmt) (m : SM) : Prop := PSs X st (tS X.K m)
theorem OutR.back {K : PySem.W.Frag} {ls ls1 : List Addr} {Hk H Hk1 H1 : Hp} {E : Ends} {o : Out} (x : ExtS ls ls1 Hk H Hk1 H1) (h : OutR K ls Hk H E o) : OutR K ls1 Hk1 H1 E o := by
  cases o with
  | nx ρ M => exact fun σ' Hk' H' ls' w' x' e' => h σ' Hk' H' ls' w' (x.trans x') e'
  | rt r M => exact fun v Hk' H' ls' w' x' e' => h v Hk' H' ls' w' (x.trans x') (e'.backS x)
  | bk ρ M => exact fun σ' Hk' H' ls' w' x' e' => h σ' Hk' H' ls' w' (x.trans x') e'
  | ct ρ M => exact fun σ' Hk' H' ls' w' x' e' => h σ' Hk' H' ls' w' (x.trans x') e'
section
variable {X : Cx} {st : Stmt} {rest : List Stmt} {e c : Expr} {m m1 m2 : SM} {me : EM R} {mc : EM Bool} {pos : Pos}
def sNext : SM := fun ρ M => some (.nx ρ M)
def sSeq (m1 m2 : SM) : SM := fun ρ M => match m1 ρ M with
  | some (.nx ρ' M') => m2 ρ' M'
  | o => o
theorem psm_nil : PSsm X [] sNext := PSs.imp pss_nil fun E σ H ⟨Hk, ls, ρ, M, o, w, en, hm, q⟩ => by
  cases hm
  exact q σ Hk H ls w (ExtS.refl _ _ _) en
theorem psm_cons (h1 : PSm X st m1) (h2 : PSsm X rest m2) : PSsm X (st :: rest) (sSeq m1 m2) := PSs.imp (pss_cons h1 h2) fun E σ H ⟨Hk, ls, ρ, M, o, w, en, hm, q⟩ => by
  unfold sSeq at hm
  cases h : m1 ρ M with
  | none => rw [h] at hm; cases hm
  | some o1 =>
    rw [h] at hm
    refine ⟨Hk, ls, ρ, M, o1, w, en, h, ?_⟩
    cases o1 with
    | nx ρ' M' => exact fun σ' Hk' H' ls' w' x' en' => ⟨Hk', ls', ρ', M', o, w', en', hm, q.back x'⟩
    | rt r M' => cases hm; exact q
    | bk ρ' M' => cases hm; exact q
    | ct ρ' M' => cases hm; exact q
theorem psm_one (h1 : PSm X st m1) : PSsm X [st] m1 := pss_one h1
def sPass : SM := sNext
theorem psm_pass : PSm X (.Pass pos) sNext := PS.imp ps_pass fun E σ H ⟨Hk, ls, ρ, M, o, w, en, hm, q⟩ => by
  cases hm
  exact q σ Hk H ls w (ExtS.refl _ _ _) en
def sBreak : SM := fun ρ M => some (.bk ρ M)
def sCont : SM := fun ρ M => some (.ct ρ M)
theorem psm_break : PSm X (.Break pos) sBreak := PS.imp ps_break fun E σ H ⟨Hk, ls, ρ, M, o, w, en, hm, q⟩ => by
  cases hm
  exact q σ Hk H ls w (ExtS.refl _ _ _) en
theorem psm_cont : PSm X (.Continue pos) sCont := PS.imp ps_continue fun E σ H ⟨Hk, ls, ρ, M, o, w, en, hm, q⟩ => by
  cases hm
  exact q σ Hk H ls w (ExtS.refl _ _ _) en
/-- return e -/
def sRet (me : EM R) : SM := fun ρ M => match me ρ M with
  | some (r, M') => some (.rt r M')
  | none => none
theorem psm_ret (h : PM X e me) : PSm X (.Return (some e) pos) (sRet me) := PS.imp (ps_ret h) fun E σ H ⟨Hk, ls, ρ, M, o, w, en, hm, q⟩ => by
  unfold sRet at hm
  cases hr : me ρ M with
  | none => rw [hr] at hm; cases hm
  | some p =>
    obtain ⟨r, M'⟩ := p
    rw [hr] at hm
    cases hm
    exact ⟨Hk, ls, ρ, M, r, M', w, en, hr, fun v Hk' H' w' x' r' => q v Hk' H' ls w' x'.s r'⟩
def sRetN : SM := fun ρ M => some (.rt (.sv (.dt .non)) M)
theorem psm_retN : PSm X (.Return none pos) sRetN := PS.imp ps_retN fun E σ H ⟨Hk, ls, ρ, M, o, w, en, hm, q⟩ => by
  cases hm
  exact q .non Hk H ls w (ExtS.refl _ _ _) Rp.non
/-- an expression's value dropped -/
def sExpr (me : EM R) : SM := fun ρ M => match me ρ M with
  | some (_, M') => some (.nx ρ M')
  | none => none
theorem psm_expr (h : PM X e me) (hs : swapsWith e none pos.line X.env = pure false := by rfl) : PSm X (.Expr e pos) (sExpr me) := PS.imp (ps_expr h hs) fun E σ H ⟨Hk, ls, ρ, M, o, w, en, hm, q⟩ => by
  unfold sExpr at hm
  cases hr : me ρ M with
  | none => rw [hr] at hm; cases hm
  | some p =>
    obtain ⟨r, M'⟩ := p
    rw [hr] at hm
    cases hm
    exact ⟨Hk, ls, ρ, M, r, M', w, en, hr, fun v Hk' H' w' x' r' => q σ Hk' H' ls w' x'.s (en.mono x'.kk)⟩
theorem psm_doc {x j pos'} : PSm X (.Expr (.Constant (.str x) j pos) pos') sNext := PS.imp ps_doc fun E σ H ⟨Hk, ls, ρ, M, o, w, en, hm, q⟩ => by
  cases hm
  exact q σ Hk H ls w (ExtS.refl _ _ _) en
/-- if -/
def sIf (c : EM Bool) (m1 m2 : SM) : SM := fun ρ M => match c ρ M with
  | some (true, M') => m1 ρ M'
  | some (false, M') => m2 ρ M'
  | none => none
theorem psm_if {a b : List Stmt} (hc : PTm X c mc) (ha : PSsm X a m1) (hb : PSsm X b m2) : PSm X (.If c a b pos) (sIf mc m1 m2) := PS.imp (ps_if hc ha hb) fun E σ H ⟨Hk, ls, ρ, M, o, w, en, hm, q⟩ => by
  unfold sIf at hm
  cases hr : mc ρ M with
  | none => rw [hr] at hm; cases hm
  | some p =>
    obtain ⟨k, M'⟩ := p
    rw [hr] at hm
    refine ⟨Hk, ls, ρ, M, k, M', w, en, hr, fun Hk' H' w' x' => ?_⟩
    cases k with
    | true => rw [if_pos rfl]; exact ⟨Hk', ls, ρ, M', o, w', en.mono x'.kk, hm, q.back x'.s⟩
    | false => rw [if_neg Bool.false_ne_true]; exact ⟨Hk', ls, ρ, M', o, w', en.mono x'.kk, hm, q.back x'.s⟩

/-! ### name = e -/
/-- the value is a datum from here on -/
def sSet (i : Nat) (me : EM R) : SM := fun ρ M => match me ρ M with
  | some (r, M') => some (.nx (ρ.set i (some r.toSV)) M')
  | none => none
/-- a fresh list (dict) gets a handle -/
def sNew (i : Nat) (me : EM R) : SM := fun ρ M => match me ρ M with
  | some (.sv s, M') => some (.nx (ρ.set i (some s)) M')
  | some (.fr ds, M') => some (.nx (ρ.set i (some (.mu M'.length))) (M' ++ [.l (ds.map .dt)]))
  | some (.fd ks ds, M') => some (.nx (ρ.set i (some (.mu M'.length))) (M' ++ [.d ks (ds.map .dt)]))
  | none => none
theorem sset_go {i : Nat} : ∀ (E : Ends) (σ : St) (H : Hp), tS X.K (sSet i me) E σ H → tAsg (tM X.K me) (gName i) E σ H := fun E σ H ⟨Hk, ls, ρ, M, o, w, en, hm, q⟩ => by
  unfold sSet at hm
  cases hr : me ρ M with
  | none => rw [hr] at hm; cases hm
  | some p =>
    obtain ⟨r, M'⟩ := p
    rw [hr] at hm
    cases hm
    refine ⟨Hk, ls, ρ, M, r, M', w, en, hr, fun v Hk' H' w' x' r' => ?_⟩
    obtain ⟨Hk2, w2, x2, s2⟩ := r'.freeze w' x'
    exact q _ Hk2 H' ls w2 x2.s ((en.mono x2.kk).set s2)
theorem snew_go {i : Nat} : ∀ (E : Ends) (σ : St) (H : Hp), tS X.K (sNew i me) E σ H → tAsg (tM X.K me) (gName i) E σ H := fun E σ H ⟨Hk, ls, ρ, M, o, w, en, hm, q⟩ => by
  unfold sNew at hm
  cases hr : me ρ M with
  | none => rw [hr] at hm; cases hm
  | some p =>
    obtain ⟨r, M'⟩ := p
    rw [hr] at hm
    refine ⟨Hk, ls, ρ, M, r, M', w, en, hr, fun v Hk' H' w' x' r' => ?_⟩
    cases r with
    | sv s =>
      cases hm
      exact q _ Hk' H' ls w' x'.s ((en.mono x'.kk).set r')
    | fr ds =>
      cases hm
      obtain ⟨l, vs, rfl, h0, hn, hl, hh, ha⟩ := r'
      have w2 := w'.push (o := .l (ds.map .dt)) hl hn ⟨vs, hh, SVs.ofA ha⟩
      have x2 : ExtS ls (ls ++ [l]) Hk H Hk' H' := ⟨⟨[l], rfl⟩, x'.kk, x'.fr, x'.gr, fun a ha => by
        rcases List.mem_append.mp ha with h | h
        · exact .inl h
        · have : a = l := by simpa using h
          subst this; exact .inr h0, x'.st⟩
      refine q _ Hk' H' _ w2 x2 ((en.extS x2).set ⟨by rw [w'.len]; simp, l, ?_, rfl⟩)
      rw [w'.len, List.getElem?_append_right (Nat.le_refl _)]
      simp
    | fd ks ds =>
      cases hm
      obtain ⟨l, kvs, rfl, h0, hn, hl, hh, hk, ha⟩ := r'
      have w2 := w'.push (o := .d ks (ds.map .dt)) hl hn ⟨kvs, hh, hk, SVs.ofA ha⟩
      have x2 : ExtS ls (ls ++ [l]) Hk H Hk' H' := ⟨⟨[l], rfl⟩, x'.kk, x'.fr, x'.gr, fun a ha => by
        rcases List.mem_append.mp ha with h | h
        · exact .inl h
        · have : a = l := by simpa using h
          subst this; exact .inr h0, x'.st⟩
      refine q _ Hk' H' _ w2 x2 ((en.extS x2).set ⟨by rw [w'.len]; simp, l, ?_, rfl⟩)
      rw [w'.len, List.getElem?_append_right (Nat.le_refl _)]
      simp
theorem psm_set {i : Nat} (h : PS X st (tAsg (tM X.K me) (gName i))) : PSm X st (sSet i me) := PS.imp h sset_go
theorem psm_new {i : Nat} (h : PS X st (tAsg (tM X.K me) (gName i))) : PSm X st (sNew i me) := PS.imp h snew_go
end

/-! ### defs -/
abbrev Fn := List SV → MS → Option (R × MS)
def spM (K : PySem.W.Frag) (n : Nat) (f : Fn) : Sp := fun vs H Q _ => ∃ Hk ls M ss z M', World K Hk H M ls ∧ SVs K Hk ls ls.length vs ss ∧ ss.length = n ∧ f ss M = some (z, M') ∧ Res K ls Hk H z M' Q
def eFn (f : Fn) (ms : EM (List SV)) : EM R := ms.seq fun ss => fun _ M => f ss M
theorem efn_go {X : Cx} {f : Fn} {n : Nat} {ms : EM (List SV)} {E : XK} (hn : ∀ ρ M ss M', ms ρ M = some (ss, M') → ss.length = n) : ∀ σ H Q, tM X.K (eFn f ms) σ H Q → tCall (spM X.K n f) [] E (tA X.K ms) σ H Q := fun σ H Q ⟨Hk, ls, ρ, M, z, M', w, en, hm, q⟩ => by
  obtain ⟨ss, M1, h1, h2⟩ := seq_some hm
  refine ⟨Hk, ls, ρ, M, ss, M1, w, en, h1, fun vs Hk1 H1 w1 x1 r1 => ?_⟩
  show spM X.K n f (vs ++ []) H1 Q E
  rw [List.append_nil]
  exact ⟨Hk1, ls, M1, ss, z, M', w1, r1, hn ρ M ss M1 h1, h2, q.back x1⟩
/-- how many there are -/
theorem len_nil : ∀ (ρ : Env) (M : MS) (ss : List SV) (M' : MS), eNil ρ M = some (ss, M') → ss.length = 0 := fun ρ M ss M' h => by cases h; rfl
theorem len_cons {m : EM R} {ms : EM (List SV)} {n : Nat} (h : ∀ (ρ : Env) (M : MS) (ss : List SV) (M' : MS), ms ρ M = some (ss, M') → ss.length = n) : ∀ (ρ : Env) (M : MS) (ss : List SV) (M' : MS), eCons m ms ρ M = some (ss, M') → ss.length = n + 1 := fun ρ M ss M' e => by
  obtain ⟨s, M1, h1, h2⟩ := seq_some e
  obtain ⟨r, M2, h3, h4⟩ := seq_some h2
  cases h4
  exact congrArg (· + 1) (h ρ M1 r _ h3)
/-- an object's handles lie below n -/
def svLt (n : Nat) : SV → Bool
  | .mu j => decide (j < n)
  | .dt _ => true
def moLt (n : Nat) : MO → Bool
  | .o _ _ vs => vs.all (svLt n)
  | _ => true
def cutOk (M : MS) (n : Nat) : Bool := (M.take n).all (moLt n)
def close (r : R) (M' : MS) (n : Nat) : Option (R × MS) := match r with
  | .sv (.dt d) => some (.sv (.dt d), M'.take n)
  | .sv (.mu k) => if k < n then some (.sv (.mu k), M'.take n) else match M'[k]? with
    | some (.l xs) => match allD xs with
      | some ds => some (.fr ds, M'.take n)
      | none => none
    | some (.d ks xs) => match allD xs with
      | some ds => some (.fd ks ds, M'.take n)
      | none => none
    | _ => none
  | .fr ds => some (.fr ds, M'.take n)
  | .fd ks ds => some (.fd ks ds, M'.take n)
def runBody (b : SM) (n : Nat) : Fn := fun ss M => match b (ss.map some ++ List.replicate (n - ss.length) none) M with
  | some (.rt r M') => if cutOk M' M.length = true then close r M' M.length else none
  | some (.nx _ M') => if cutOk M' M.length = true then some (.sv (.dt .non), M'.take M.length) else none
  | _ => none
section
variable {K : PySem.W.Frag} {Hk H Hk' H' : Hp} {M M' : MS} {ls ls' : List Addr}
theorem SVr.less {n : Nat} {v : V} {s : SV} {t : List Addr} (hn : n ≤ ls.length) (h : SVr K Hk (ls ++ t) n v s) : SVr K Hk ls n v s := by
  cases s with
  | dt d => exact h
  | mu k =>
    obtain ⟨a, l, b, c⟩ := h
    refine ⟨a, l, ?_, c⟩
    rw [List.getElem?_append_left (Nat.lt_of_lt_of_le a hn)] at b
    exact b
theorem SVs.less {n : Nat} {t : List Addr} (hn : n ≤ ls.length) : ∀ {vs : List V} {ss : List SV}, SVs K Hk (ls ++ t) n vs ss → SVs K Hk ls n vs ss
  | _, _, .nil => .nil
  | _, _, .cons r u => .cons (r.less hn) (SVs.less hn u)
theorem SVs.low {n m : Nat} : ∀ {vs : List V} {ss : List SV}, SVs K Hk ls m vs ss → ss.all (svLt n) = true → SVs K Hk ls n vs ss
  | _, _, .nil, _ => .nil
  | _, _, .cons (s := s) r u, h => by
    rw [List.all_cons, Bool.and_eq_true] at h
    refine .cons ?_ (SVs.low u h.2)
    cases s with
    | dt d => exact r
    | mu k => exact ⟨of_decide_eq_true h.1, r.2⟩
theorem World.cut {t : List Addr} (w : World K Hk H M (ls ++ t)) (hc : cutOk M ls.length = true) : World K Hk H (M.take ls.length) ls where
  sub := w.sub
  len := by
    have := w.len
    rw [List.length_append] at this
    rw [List.length_take]
    omega
  nd := (List.nodup_append.mp w.nd).1
  dj := fun l h => w.dj l (List.mem_append_left _ h)
  ms := fun k o e => by
    have hk : k < ls.length := by
      have := (List.getElem?_eq_some_iff.mp e).1
      rw [List.length_take] at this
      omega
    have hmem : o ∈ M.take ls.length := List.mem_of_getElem? e
    rw [List.getElem?_take_of_lt hk] at e
    obtain ⟨l, a, b⟩ := w.ms k o e
    rw [List.getElem?_append_left hk] at a
    refine ⟨l, a, ?_⟩
    cases o with
    | l xs => obtain ⟨vs, p, q⟩ := b; exact ⟨vs, p, q.less (Nat.le_of_lt hk)⟩
    | d ks xs => obtain ⟨vs, p, q, r⟩ := b; exact ⟨vs, p, q, r.less (Nat.le_of_lt hk)⟩
    | i C ns xs => exact b
    | o C ns xs =>
      obtain ⟨dx, vs, p, q, r⟩ := b
      exact ⟨dx, vs, p, q, (r.low (List.all_eq_true.mp hc _ hmem)).less (Nat.le_refl _)⟩
    | t ks xs => obtain ⟨vs, p, q, r⟩ := b; exact ⟨vs, p, q, r.less (Nat.le_of_lt hk)⟩
theorem ExtS.e (x : ExtS ls ls' Hk H Hk' H') : Ext ls Hk H Hk' H' := ⟨x.kk, x.fr, x.gr, x.st⟩
theorem start_env {N : List Str} {vs : List V} {ss : List SV} (h : SVs K Hk ls ls.length vs ss) : EnvR K Hk ls (L2.start N vs) (ss.map some ++ List.replicate (N.length - ss.length) none) := by
  unfold L2.start
  rw [← h.length]
  refine ⟨by simp [h.length], fun i s e => ?_⟩
  by_cases hi : i < ss.length
  · rw [List.getElem?_append_left (by simpa using hi), List.getElem?_map] at e
    cases hs : ss[i]? with
    | none => rw [hs] at e; cases e
    | some s' =>
      rw [hs] at e
      cases e
      obtain ⟨v, hv, rv⟩ := h.get hs
      refine ⟨v, ?_, rv⟩
      rw [List.getElem?_append_left (by simpa [h.length] using hi), List.getElem?_map, hv]
      rfl
  · rw [List.getElem?_append_right (by simpa using hi)] at e
    rw [List.getElem?_replicate] at e
    split at e <;> cases e
/-- a def's body keeps the def's word -/
theorem body_go {E : XK} {N : List Str} {b : SM} {n : Nat} {vs : List V} {Q : VK} (h : spM K n (runBody b N.length) vs H Q E) : tS K b { nx := fun _ H' => Q .non H', rt := Q } (L2.start N vs) H := by
  obtain ⟨Hk, ls, M, ss, z, M', w, r, hn, hf, q⟩ := h
  unfold runBody at hf
  cases hb : b (ss.map some ++ List.replicate (N.length - ss.length) none) M with
  | none => rw [hb] at hf; cases hf
  | some o =>
    rw [hb] at hf
    refine ⟨Hk, ls, _, M, o, w, start_env r, hb, ?_⟩
    cases o with
    | bk ρ M1 => cases hf
    | ct ρ M1 => cases hf
    | nx ρ M1 =>
      simp only at hf
      split at hf
      · rename_i hcut
        cases hf
        intro σ' Hk' H' ls' w' x' en'
        obtain ⟨t, rfl⟩ := x'.pre
        rw [w.len] at q hcut
        exact q .non Hk' H' (w'.cut hcut) x'.e Rp.non
      · cases hf
    | rt r1 M1 =>
      intro v Hk' H' ls' w' x' r'
      obtain ⟨t, rfl⟩ := id x'.pre
      simp only at hf
      by_cases hcut : cutOk M1 M.length = true
      case neg => rw [if_neg hcut] at hf; cases hf
      rw [if_pos hcut] at hf
      rw [w.len] at hcut
      unfold close at hf
      rw [w.len] at hf
      have lsin : ∀ l, l ∉ ls ++ t → l ∉ ls := fun l h z => h (List.mem_append_left _ z)
      split at hf
      · cases hf
        exact q v Hk' H' (w'.cut hcut) x'.e r'
      · rename_i k
        split at hf
        · rename_i hk
          cases hf
          obtain ⟨_, l, a, rfl⟩ := r'
          rw [List.getElem?_append_left hk] at a
          exact q _ Hk' H' (w'.cut hcut) x'.e ⟨hk, l, a, rfl⟩
        · rename_i hk
          obtain ⟨hk2, l, a, rfl⟩ := r'
          have hl : l ∉ ls := fun z => by
            obtain ⟨j, hj, ej⟩ := List.getElem_of_mem z
            have ej2 : (ls ++ t)[j]? = some l := by rw [List.getElem?_append_left hj, List.getElem?_eq_getElem hj, ej]
            have := (List.getElem?_eq_some_iff.mp a)
            have this2 := (List.getElem?_eq_some_iff.mp ej2)
            have e := (List.getElem_inj w'.nd).mp (this.2.trans this2.2.symm)
            omega
          have hmem : l ∈ ls ++ t := List.mem_of_getElem? a
          have h0 : H l = none := by
            rcases x'.nw l hmem with z | z
            · exact absurd z hl
            · exact z
          split at hf
          · rename_i xs hM
            split at hf
            · rename_i ds hd
              cases hf
              obtain ⟨l', a', vs', p, qq⟩ := w'.ms k _ hM
              rw [a] at a'
              cases a'
              exact q _ Hk' H' (w'.cut hcut) x'.e ⟨l, vs', rfl, h0, w'.dj l hmem, hl, p, qq.toA hd⟩
            · cases hf
          · rename_i ks xs hM
            split at hf
            · rename_i ds hd
              cases hf
              obtain ⟨l', a', kvs, p, pk, qq⟩ := w'.ms k _ hM
              rw [a] at a'
              cases a'
              exact q _ Hk' H' (w'.cut hcut) x'.e ⟨l, kvs, rfl, h0, w'.dj l hmem, hl, p, pk, qq.toA hd⟩
            · cases hf
          · cases hf
      · cases hf
        obtain ⟨l, vs', rfl, a, b1, c, d, e⟩ := r'
        exact q _ Hk' H' (w'.cut hcut) x'.e ⟨l, vs', rfl, a, b1, lsin l c, d, e⟩
      · cases hf
        obtain ⟨l, vs', rfl, a, b1, c, d, e⟩ := r'
        exact q _ Hk' H' (w'.cut hcut) x'.e ⟨l, vs', rfl, a, b1, lsin l c, d, e⟩
end
theorem spM_len {K : PySem.W.Frag} {n : Nat} {f : Fn} {ps : List Str} (h : ps.length = n) : ∀ vs H Q E, spM K n f vs H Q E → vs.length = ps.length := fun vs H Q E ⟨Hk, ls, M, ss, z, M', w, r, hn, _⟩ => by
  rw [r.length, hn, h]
end Dy

set_option Elab.async false
set_option linter.all false
set_option maxRecDepth 100000
set_option maxHeartbeats 4000000
/-! Layer Dy, part A: enumerate over a tuple. -/
namespace Dy
open PySem PySem.Spec PyProof.Rows L2
set_option maxHeartbeats 8000000 in
theorem meets_enum_one {v : Value} {o : Obj} {H : Heap → Prop} (B : Begins v o H) :
    Meets (Builtin.«enumerate.__new__» ⟨[.type "enumerate", v], []⟩) (fun _ R s => H s.heap ∧
      R (.ok (.ret (.ref (s.heap.push o).objs.size))) { s with heap := (s.heap.push o).push { cls := .type "enumerate", data := .fields #[.none, .bool false, .ref s.heap.objs.size, rawInt 0, .none, .none] } }) :=
  .of_wp fun prog w A R s h => by
    obtain ⟨hp, g, d, tk, os⟩ := s; obtain ⟨h1, h⟩ := h
    have hsub := sub_enumerate
    have q1 : ∀ {A' : Around} {E : Value → Shared → Prop} {Q : Value → Shared → Prop}, Q (.ref hp.objs.size) ⟨hp.push o, g, d, tk, os⟩ → wpAny (model prog w) A' (pyIter v) Q E ⟨hp, g, d, tk, os⟩ :=
      fun q => B.iter prog w _ _ ⟨hp, g, d, tk, os⟩ _ h1 q
    wp_walk using q1
    refine wpAny_stack_any fun st => wpAny_pure ?_
    split
    · rename_i c _ _ _ _ _
      cases (c == Value.type "enumerate")
      · wp_walk using q1
        exact ⟨_, rfl, h⟩
      · wp_walk using q1
        exact ⟨_, rfl, h⟩
    · wp_walk using q1
      exact ⟨_, rfl, h⟩
theorem enum_one {prog : Program} {w : PySem.World} {A : Around} {E : Value → Shared → Prop} {s : Shared} {v : Value} {o : Obj} {H : Heap → Prop} {Q : Value → Shared → Prop} (B : Begins v o H) (h1 : H s.heap)
    (h : ∀ h', IsEnum h' (s.heap.objs.size + 1) s.heap.objs.size 0 .none → h'.get? s.heap.objs.size = some o → h'.objs.size = s.heap.objs.size + 2 →
      (∀ b o, s.heap.get? b = some o → h'.get? b = some o) → Q (.ref (s.heap.objs.size + 1)) { s with heap := h' }) :
    wpAny (model prog w) A (call (.type "enumerate") [v]) Q E s := by
  refine callType_new F.called_enumerate (by decide) (F.typeCall_enumerate_1 _) (F.newCall_enumerate_1 _) (fun obj => F.args_object_init_2 obj _) F.entry_enumerate_new
    (meets_enum_one B) ⟨h1, ?_⟩
  have hz : (s.heap.push o).objs.size = s.heap.objs.size + 1 := Heap.size_push ..
  show _ ∧ _
  rw [hz]
  have he : IsEnum ((s.heap.push o).push { cls := .type "enumerate", data := .fields #[.none, .bool false, .ref s.heap.objs.size, rawInt 0, .none, .none] }) (s.heap.objs.size + 1) s.heap.objs.size 0 .none := by
    have := Heap.get?_push_size (s.heap.push o) (o := { cls := .type "enumerate", data := .fields #[.none, .bool false, .ref s.heap.objs.size, rawInt 0, .none, .none] }) rfl
    rw [hz] at this; exact this
  refine ⟨⟨_, he, rfl⟩, h _ he (Heap.get?_push_of_some _ (Heap.get?_push_size _ B.free)) (by rw [Heap.size_push, hz]) fun b o x => Heap.get?_push_of_some _ (Heap.get?_push_of_some _ x)⟩
theorem enum_endT {prog : Program} {w : PySem.World} {A : Around} {E : Value → Shared → Prop} {s : Shared} {e it a : Addr} {i : Nat} {k : Int} {items : Array Value} {old : Value} {Q : Option Value → Shared → Prop}
    (hh : A.handled = none) (he : IsEnum s.heap e it k old) (hit : s.heap.IsTupleIter it a i) (ht : s.heap.IsTuple a items) (hx : items[i]? = none)
    (hQ : ∀ h', Heap.ExtBut it s.heap h' → Q none { s with heap := h' }) : wpAny (model prog w) A (pyNext (.ref e)) Q E s := by
  have hT : s.TypeIs (.ref e) "enumerate" := ⟨_, he, rfl⟩
  unfold pyNext
  refine wpAny_bind (wpAny_attempt (wpAny_callSpecial?_slot (name := Str.ofString "__next__") hT F.slot_enumerate_next
    (wpAny_call_entry F.slot_enumerate_next hT F.entry_enumerate_next ?_ (F.args_enumerate_next_1 _))))
  show wpAny _ _ (field (.ref e) 2 >>= _) _ _ _
  refine wpAny_bind (wpAny_field he rfl (x := .ref it) rfl ?_)
  refine wpAny_bind (wpAny_nextOf_tuple_end (A := A.in1) hh hit ht hx fun h' x he' hx' => ?_)
  obtain ⟨o, ho, hc⟩ := hx'
  refine wpAny_bind (wpAny_isInstance (T := "StopIteration") (b := true) ⟨o, ho, hc⟩ isSubtype_stop ?_)
  exact wpAny_pure (hQ _ he')
/-- the tuple at a, each item in a new pair -/
def IteT (K : PySem.W.Frag) (a : Addr) : It :=
  ⟨fun i H => ∃ (xs : List V) (x : V), SqT K H a xs ∧ xs[i]? = some x, fun i H v H' => ∃ T x, v = .ref T ∧ H T = none ∧ H' = upd H T (.tup [.int (i : Nat), x]) ∧ ∀ xs, SqT K H a xs → xs[i]? = some x, fun i H => ∃ xs : List V, SqT K H a xs ∧ xs.length ≤ i⟩
theorem turn_enumT {P : Program} {w : PySem.World} {K : PySem.W.Frag} {elts : List Expr} {kk : Nat} {tpos : Pos} (a e it : Addr) :
    Turn P w K (.Tuple elts kk tpos) (IteT K a) [e, it] e (fun i h => (∃ old, IsEnum h e it ((i : Nat) : Int) old) ∧ h.IsTupleIter it a i ∧ e ≠ it) where
  mem := by simp
  obj := fun i h st b hb => by
    obtain ⟨⟨old, he⟩, ⟨o, ho, hc, hd⟩, _⟩ := st
    have e' : b = e ∨ b = it := by simpa using hb
    rcases e' with z | z
    · rw [z]; exact ⟨_, he, fun v q => nomatch q⟩
    · rw [z]; exact ⟨o, ho, fun v q => by rw [hd] at q; cases q⟩
  keep := fun i h h' st k => let ⟨⟨old, he⟩, hi, hne⟩ := st; ⟨⟨old, k e (by simp) _ he⟩, hi.at fun o q => k it (by simp) o q, hne⟩
  item := by
    intro X hP hw hK hc i pins s σ H E I hf st hg
    subst hP hw hK
    obtain ⟨⟨old, he⟩, hit, hne⟩ := st
    obtain ⟨xs, x, hq, hx⟩ := hg
    obtain ⟨its, rv, p, hz⟩ := I.tuple hq
    obtain ⟨u, hu, ru⟩ := rv.get hx
    have hel : e < s.heap.objs.size := Heap.lt_size he
    have hil : it < s.heap.objs.size := by obtain ⟨_, q, _⟩ := hit; exact Heap.lt_size q
    have hta : s.heap.IsTuple a its.toArray := p
    obtain ⟨ot, hot, hct, nt, hdt⟩ := hta
    have hai : a ≠ it := fun z => by
      obtain ⟨oi, q, c, _⟩ := hit
      rw [z, q] at hot
      cases hot
      rw [c] at hct
      exact absurd (Value.type.inj hct) (by decide)
    have hae : a ≠ e := fun z => by
      have q : s.heap.get? e = some _ := he
      rw [z, q] at hot
      cases hot
      exact absurd (Value.type.inj hct) (by decide)
    have D := Draws.tuple (prog := X.prog) (w := X.w) (A := X.A.in1) (I.ok.hd hc) it a hai its.toArray
    have hlt : i < its.toArray.size := by
      have := (List.getElem?_eq_some_iff.mp hu).1
      simpa using this
    refine wpAny_pyNext_enum_itemC D he ⟨hit, p⟩ hlt hne (by simp [hne, Ne.symm hae]) fun x' h' tk hP ho hst hT hsz hk => ?_
    have hx' : x' = u := by
      have h1 : its[i]? = some x' := by simpa using hP
      rw [hu] at h1
      exact (Option.some.inj h1).symm
    subst hx'
    refine ⟨_, rfl, wpAny_letOwnedTupleGo_enum (s := { s with heap := h', toks := tk + 1 }) ho fun h'' he' sb => ?_⟩
    have hT2 : h''.get? s.heap.objs.size = some { cls := .type "tuple", data := .seq #[.int i tk, x'] } := (sb.2 _ (Nat.ne_of_gt hel)).trans hT
    have new : ObjOk X.prog X.w (upd H s.heap.objs.size (.tup [.int (i : Nat), x])) h'' s.heap.objs.size (.tup [.int (i : Nat), x]) :=
      ⟨by show 2 ≤ sizeLine; decide, [.int i tk, x'], .cons ⟨_, rfl⟩ (.cons ru .nil), ⟨_, hT2, rfl, _, rfl⟩⟩
    have I1 : Inv X pins σ (upd H s.heap.objs.size (.tup [.int (i : Nat), x])) { s with heap := h'', toks := tk + 1 } :=
      I.turnedNew (ch := [e, it]) (fun b ob hb q => (sb.2 b (fun z => hb (by simp [z]))).trans (hk b ob (fun z => hb (by simp [z])) (fun z => hb (by simp [z])) q)) hf (Nat.le_refl _) new
    refine ⟨.ref s.heap.objs.size, _, I1, rfl, ⟨_, x, rfl, I.hok.fresh (Nat.le_refl _), rfl, fun ys hy => by rw [I.tuple_inj hy hq]; exact hx⟩, ⟨⟨x', ?_⟩, hst.1.at fun o q => (sb.2 it (Ne.symm hne)).trans q, hne⟩, fun b hb => ?_⟩
    · have e1 : ((i + 1 : Nat) : Int) = (i : Int) + 1 := by omega
      rw [e1]; exact he'
    · have hb' : b < s.heap.objs.size := by
        have e' : b = e ∨ b = it := by simpa using hb
        rcases e' with z | z
        · rw [z]; exact hel
        · rw [z]; exact hil
      rw [upd_ne (Nat.ne_of_lt hb')]
      exact (hf b hb).1
  done := by
    intro X hP hw hK hc i pins s σ H E I hf st hg
    subst hP hw hK
    obtain ⟨⟨old, he⟩, hit, hne⟩ := st
    obtain ⟨xs, hq, hx⟩ := hg
    obtain ⟨its, rv, p, hz⟩ := I.tuple hq
    obtain ⟨f0, f1, f2, f3, f4, f5⟩ := hf it (by simp)
    have hl := rv.length
    exact enum_endT (I.ok.hd hc) he hit (show s.heap.IsTuple a its.toArray from p) (by simp; omega) fun h' eb => ⟨rfl, I.turned (t' := s.toks) (fun b o hb q => eb b o hb q) f0 f1 f3 f4 f5⟩
  self := fun A i s Q E st h => let ⟨⟨_, he⟩, _⟩ := st; wpAny_pyIter_enum he h
def iEnumT (K : PySem.W.Frag) (ta : TA) : TI := fun σ H R => ta σ H fun vs H1 => ∃ a xs, vs = [.ref a] ∧ SqT K H1 a xs ∧ R (IteT K a) H1
theorem pi_enumT {X : Cx} {e : Expr} {ta : TA} {p pos tpos : Pos} {elts : List Expr} {kk : Nat} (hg : Gl X "enumerate") (hm : X.mg "enumerate" = none) (ha : PA X [e] ta) (hs : starEach [e] X.env = [(false, eval e X.env)] := by rfl) :
    PI X (.Tuple elts kk tpos) (.Call (.Name "enumerate" p) [e] [] pos) (iEnumT X.K ta) := by
  refine ⟨fun pins s σ H R I h => ?_⟩
  refine Call_ (ld_blt I hg hm boot_enumerate (PyProof.Rows.callWith_type1 (thn (ha.run pos pins s σ H _ I h) fun us s1 ⟨vs, H1, I1, r1, q1⟩ => ?_) hs rfl))
  obtain ⟨a, xs, ex, hq, q⟩ := q1
  subst ex
  cases r1 with
  | cons r rr =>
    cases rr
    cases r
    obtain ⟨its, rv, p', hz⟩ := I1.tuple hq
    refine enum_one (begins_tuple a its.toArray) p' fun h' he hit hsz hk => wpAny_pyIter_enum he ?_
    have I2 : Inv X pins σ H1 { s1 with heap := h' } := I1.kept (t' := s1.toks) hk
    refine ⟨s1.heap.objs.size + 1, [s1.heap.objs.size + 1, s1.heap.objs.size], _, _, H1, rfl, I2, turn_enumT a (s1.heap.objs.size + 1) s1.heap.objs.size, ⟨⟨.none, he⟩, ⟨_, hit, rfl, rfl⟩, Nat.succ_ne_self _⟩, fun b hb => ?_, q⟩
    have e' : b = s1.heap.objs.size + 1 ∨ b = s1.heap.objs.size := by simpa using hb
    have hle : s1.heap.objs.size ≤ b := by
      rcases e' with z | z
      · rw [z]; exact Nat.le_add_right _ _
      · rw [z]; exact Nat.le_refl _
    exact I1.fpOk hle (I1.hok.fresh hle)
end Dy

set_option Elab.async false
set_option linter.all false
set_option maxRecDepth 100000
set_option maxHeartbeats 4000000
namespace Dy
open PySem L2

/-! ### sources of loops -/
structure Src where
  n : Nat
  get : MS → Nat → Option SV
  stop : MS → Nat → Bool
def SrcR (K : PySem.W.Frag) (ls : List Addr) (Hk : Hp) (J : It) (src : Src) : Prop := ∀ (Hk2 H2 : Hp) (M2 : MS) (ls2 : List Addr), World K Hk2 H2 M2 ls2 → Same Hk Hk2 → (∃ t, ls2 = ls ++ t) →
  (∀ (i : Nat) (x : SV), src.get M2 i = some x → J.go i H2 ∧ ∀ v H3, J.yld i H2 v H3 → ∃ Hk3, World K Hk3 H3 M2 ls2 ∧ Ext ls2 Hk2 H2 Hk3 H3 ∧ SVr K Hk3 ls2 ls2.length v x) ∧ ∀ i, src.stop M2 i = true → J.stop i H2
def tI (K : PySem.W.Frag) (m : EM Src) : TI := fun σ H Rq => ∃ Hk ls ρ M src M', World K Hk H M ls ∧ EnvR K Hk ls σ ρ ∧ m ρ M = some (src, M') ∧ ∀ J Hk' H', World K Hk' H' M' ls → Ext ls Hk H Hk' H' → SrcR K ls Hk' J src → Rq J H'
abbrev PIm (X : Cx) (tg e : Expr) (m : EM Src) : Prop := PI X tg e (tI X.K m)
theorem PI.imp {X : Cx} {tg e : Expr} {t u : TI} (h : PI X tg e t) (i : ∀ σ H Q, u σ H Q → t σ H Q) : PI X tg e u := ⟨fun pins s σ H Q I q => h.run pins s σ H Q I (i σ H Q q)⟩
theorem PI.or {X : Cx} {tg e : Expr} {t u : TI} (h : PI X tg e t) (h' : PI X tg e u) : PI X tg e (fun σ H Q => t σ H Q ∨ u σ H Q) := ⟨fun pins s σ H Q I q => q.elim (h.run pins s σ H Q I) (h'.run pins s σ H Q I)⟩
section
variable {X : Cx} {tg e e2 : Expr} {me me2 : EM R} {pos : Pos}
/-- over a list, a tuple, a text -/
def seqSrc (M : MS) (s : SV) : Option Src := match s with
  | .dt (.str z) => some ⟨z.cps.size, fun _ i => match z.cps[i]? with
    | some c => some (.dt (.str ⟨#[c]⟩))
    | none => none, fun _ i => decide (z.cps.size ≤ i)⟩
  | s => match itemsOf M s with
    | some xs => some ⟨xs.length, fun M' i => match itemsOf M' s with
      | some ys => ys[i]?
      | none => none, fun M' i => match itemsOf M' s with
      | some ys => decide (ys.length ≤ i)
      | none => false⟩
    | none => none
def eSeq (me : EM R) : EM Src := (fz me).seq fun s => fun _ M => match seqSrc M s with
  | some src => some (src, M)
  | none => none
theorem SVs.getV {K : PySem.W.Frag} {Hk : Hp} {ls : List Addr} {n : Nat} : ∀ {vs : List V} {ss : List SV} {i : Nat} {v : V}, SVs K Hk ls n vs ss → vs[i]? = some v → ∃ s, ss[i]? = some s ∧ SVr K Hk ls n v s
  | _, _, _, _, .nil, e => by simp at e
  | _, _, 0, _, .cons r _, e => by simp at e; subst e; exact ⟨_, rfl, r⟩
  | _, _, i + 1, d, .cons _ t, e => by
    obtain ⟨u, h1, h2⟩ := SVs.getV (i := i) (v := d) t (by simpa using e)
    exact ⟨u, by simpa using h1, h2⟩
theorem srcr_list {K : PySem.W.Frag} {ls : List Addr} {Hk H : Hp} {a : Addr} {s : SV} {n : Nat} (r : SVr K Hk ls ls.length (.ref a) s) (hl : ∀ (Hk2 H2 : Hp) (M2 : MS) (ls2 : List Addr), World K Hk2 H2 M2 ls2 → Same Hk Hk2 → (∃ t, ls2 = ls ++ t) → ∀ ys, itemsOf M2 s = some ys → ∃ vs, SqL K H2 a vs ∧ SVs K Hk2 ls2 ls2.length vs ys) :
    SrcR K ls Hk (Itl K a) ⟨n, fun M' i => match itemsOf M' s with
      | some ys => ys[i]?
      | none => none, fun M' i => match itemsOf M' s with
      | some ys => decide (ys.length ≤ i)
      | none => false⟩ := by
  intro Hk2 H2 M2 ls2 w2 k2 p2
  constructor
  · intro i x hx
    dsimp only at hx
    split at hx
    · rename_i ys hy
      obtain ⟨vs, hq, hs⟩ := hl Hk2 H2 M2 ls2 w2 k2 p2 ys hy
      obtain ⟨v, hv, rv⟩ := hs.get hx
      refine ⟨⟨vs, v, hq, hv⟩, fun v' H3 ⟨e3, h3⟩ => ?_⟩
      subst e3
      have := h3 vs hq
      rw [hv] at this
      cases this
      exact ⟨Hk2, w2, Ext.refl _ _ _, rv⟩
    · cases hx
  · intro i hx
    dsimp only at hx
    split at hx
    · rename_i ys hy
      obtain ⟨vs, hq, hs⟩ := hl Hk2 H2 M2 ls2 w2 k2 p2 ys hy
      exact ⟨vs, hq, by rw [hs.length]; exact of_decide_eq_true hx⟩
    · cases hx
theorem srcr_tup {K : PySem.W.Frag} {ls : List Addr} {Hk : Hp} {a : Addr} {ds : List D} {n : Nat} (r : Rp K Hk (.ref a) (.tup ds)) :
    SrcR K ls Hk (Itt K a) ⟨n, fun M' i => match itemsOf M' (.dt (.tup ds)) with
      | some ys => ys[i]?
      | none => none, fun M' i => match itemsOf M' (.dt (.tup ds)) with
      | some ys => decide (ys.length ≤ i)
      | none => false⟩ := by
  intro Hk2 H2 M2 ls2 w2 k2 p2
  cases r with
  | tup hq0 ra =>
    rename_i vs
    have hq : SqT K H2 a vs := same_t w2.sub (same_t k2 hq0)
    have hs : SVs K Hk2 ls2 ls2.length vs (ds.map .dt) := SVs.ofA (ra.mono k2)
    constructor
    · intro i x hx
      have hx : (ds.map SV.dt)[i]? = some x := hx
      obtain ⟨v, hv, rv⟩ := hs.get hx
      refine ⟨⟨vs, v, hq, hv⟩, fun v' H3 ⟨e3, h3⟩ => ?_⟩
      subst e3
      have := h3 vs hq
      rw [hv] at this
      cases this
      exact ⟨Hk2, w2, Ext.refl _ _ _, rv⟩
    · intro i hx
      have hx : decide ((ds.map SV.dt).length ≤ i) = true := hx
      exact ⟨vs, hq, by rw [hs.length]; exact of_decide_eq_true hx⟩
theorem srcr_str {K : PySem.W.Frag} {ls : List Addr} {Hk : Hp} {z : Str} {n : Nat} :
    SrcR K ls Hk (Its z) ⟨n, fun _ i => match z.cps[i]? with
    | some c => some (.dt (.str ⟨#[c]⟩))
    | none => none, fun _ i => decide (z.cps.size ≤ i)⟩ := by
  intro Hk2 H2 M2 ls2 w2 k2 p2
  constructor
  · intro i x hx
    dsimp only at hx
    split at hx
    · rename_i c hc
      cases hx
      have hi : i < z.cps.size := (Array.getElem?_eq_some_iff.mp hc).1
      refine ⟨hi, fun v H3 ⟨e3, c', h3, ev⟩ => ?_⟩
      subst e3
      rw [hc] at h3
      cases h3
      subst ev
      exact ⟨Hk2, w2, Ext.refl _ _ _, Rp.str _⟩
    · cases hx
  · intro i hx
    have hx : decide (z.cps.size ≤ i) = true := hx
    have h : z.cps.size ≤ i := of_decide_eq_true hx
    exact h
theorem SVr.moreS {K : PySem.W.Frag} {Hk Hk2 : Hp} {ls ls2 : List Addr} {v : V} {s : SV} (k : Same Hk Hk2) (p : ∃ t, ls2 = ls ++ t) (h : SVr K Hk ls ls.length v s) : SVr K Hk2 ls2 ls2.length v s := by
  obtain ⟨t, rfl⟩ := p
  exact ((h.mono k).more).up (by simp)
theorem pim_seq (h : PM X e me) : PIm X tg e (eSeq me) := PI.imp (PI.or (pi_list (PM.v h)) (PI.or (pi_tup (PM.v h)) (pi_str (PM.v h)))) fun σ H Rq ⟨Hk, ls, ρ, M, src, M', w, en, hm, q⟩ => by
  obtain ⟨s, M1, h1, h2⟩ := seq_some hm
  unfold seqSrc at h2
  by_cases hs : ∃ z, s = .dt (.str z)
  · obtain ⟨z, rfl⟩ := hs
    cases h2
    exact .inr (.inr ⟨Hk, ls, ρ, M, _, _, w, en, h1, fun v Hk1 H1 w1 x1 r1 => ⟨z, Rp.str_inv r1, q _ Hk1 H1 w1 x1 srcr_str⟩⟩)
  · by_cases ht : ∃ ds, s = .dt (.tup ds)
    · obtain ⟨ds, rfl⟩ := ht
      cases h2
      refine .inr (.inl ⟨Hk, ls, ρ, M, _, _, w, en, h1, fun v Hk1 H1 w1 x1 r1 => ?_⟩)
      cases r1 with
      | tup hq ra => exact ⟨_, rfl, ⟨_, same_t w1.sub hq⟩, q _ Hk1 H1 w1 x1 (srcr_tup (.tup hq ra))⟩
    · have h2' : (match (match itemsOf M1 s with
          | some xs => some (⟨xs.length, fun M' i => match itemsOf M' s with
            | some ys => ys[i]?
            | none => none, fun M' i => match itemsOf M' s with
            | some ys => decide (ys.length ≤ i)
            | none => false⟩ : Src)
          | none => none) with
        | some src => some (src, M1)
        | none => none) = some (src, M') := by
        split at h2
        · rename_i he
          split at he
          · exact absurd ⟨_, rfl⟩ hs
          · rw [he]
            exact h2
        · cases h2
      cases hi : itemsOf M1 s with
      | none => rw [hi] at h2'; cases h2'
      | some xs =>
        rw [hi] at h2'
        cases h2'
        have hlo : ∀ (Mx : MS) ys, itemsOf Mx s = some ys → listOf Mx s = some ys := fun Mx ys e => by
          unfold itemsOf at e
          split at e
          · exact absurd ⟨_, rfl⟩ ht
          · exact e
        refine .inl ⟨Hk, ls, ρ, M, s, _, w, en, h1, fun v Hk1 H1 w1 x1 r1 => ?_⟩
        obtain ⟨a, vs, rfl, hq, hss⟩ := listOf_ok w1 r1 (hlo _ _ hi)
        refine ⟨a, rfl, ⟨vs, SqL.of hq⟩, q _ Hk1 H1 w1 x1 (srcr_list (H := H1) r1 fun Hk2 H2 M2 ls2 w2 k2 p2 ys hy => ?_)⟩
        obtain ⟨a', vs', e1, hq', hs'⟩ := listOf_ok w2 (r1.moreS k2 p2) (hlo _ _ hy)
        cases e1
        exact ⟨vs', SqL.of hq', hs'⟩
/-- over a range -/
def rngSrc (lo : Int) (n : Nat) : Src := ⟨n, fun _ i => if i < n then some (.dt (.int (lo + i))) else none, fun _ i => decide (n ≤ i)⟩
theorem srcr_rng {K : PySem.W.Frag} {ls : List Addr} {Hk : Hp} {lo : Int} {n : Nat} : SrcR K ls Hk (Itr lo n) (rngSrc lo n) := by
  intro Hk2 H2 M2 ls2 w2 k2 p2
  constructor
  · intro i x hx
    unfold rngSrc at hx
    dsimp only at hx
    split at hx
    · rename_i hi
      cases hx
      refine ⟨hi, fun v H3 ⟨e3, ev⟩ => ?_⟩
      subst e3 ev
      exact ⟨Hk2, w2, Ext.refl _ _ _, Rp.int _⟩
    · cases hx
  · intro i hx
    have hx : decide (n ≤ i) = true := hx
    have h : n ≤ i := of_decide_eq_true hx
    exact h
def isRange (i : Int) : Bool := decide (-(2 ^ 62) ≤ i) && !decide (2 ^ 62 ≤ i)
theorem isRange_ok {i : Int} (h : isRange i = true) : -(2 ^ 62) ≤ i ∧ i < 2 ^ 62 := by
  unfold isRange at h
  rw [Bool.and_eq_true] at h
  exact ⟨of_decide_eq_true h.1, by have := h.2; simp at this; omega⟩
def eRng1 (ms : EM (List SV)) : EM Src := ms.seq fun ss => fun _ M => match ss with
  | [.dt (.int j)] => if isRange j then some (rngSrc 0 j.toNat, M) else none
  | _ => none
def eRng2 (ms : EM (List SV)) : EM Src := ms.seq fun ss => fun _ M => match ss with
  | [.dt (.int i), .dt (.int j)] => if isRange i && isRange j then some (rngSrc i (j - i).toNat, M) else none
  | _ => none
variable {ms : EM (List SV)} {p : Pos}
theorem pim_range1 (hg : Gl X "range") (hm : X.mg "range" = none) (ha : PAm X [e] ms) (hs : starEach [e] X.env = [(false, eval e X.env)] := by rfl) : PIm X tg (.Call (.Name "range" p) [e] [] pos) (eRng1 ms) := PI.imp (pi_range1 hg hm ha hs) fun σ H Rq ⟨Hk, ls, ρ, M, src, M', w, en, hm, q⟩ => by
  obtain ⟨ss, M1, h1, h2⟩ := seq_some hm
  refine ⟨Hk, ls, ρ, M, ss, M1, w, en, h1, fun vs Hk1 H1 w1 x1 r1 => ?_⟩
  split at h2
  · rename_i j
    split at h2
    · rename_i hr
      cases h2
      cases r1 with
      | cons r t =>
        cases t
        have := Rp.int_inv r
        subst this
        exact ⟨j, rfl, (isRange_ok hr).1, (isRange_ok hr).2, q _ Hk1 H1 w1 x1 srcr_rng⟩
    · cases h2
  · cases h2
theorem pim_range2 (hg : Gl X "range") (hm : X.mg "range" = none) (ha : PAm X [e, e2] ms) (hs : starEach [e, e2] X.env = [(false, eval e X.env), (false, eval e2 X.env)] := by rfl) (hs2 : starEach [e2] X.env = [(false, eval e2 X.env)] := by rfl) : PIm X tg (.Call (.Name "range" p) [e, e2] [] pos) (eRng2 ms) := PI.imp (pi_range2 hg hm ha hs hs2) fun σ H Rq ⟨Hk, ls, ρ, M, src, M', w, en, hm, q⟩ => by
  obtain ⟨ss, M1, h1, h2⟩ := seq_some hm
  refine ⟨Hk, ls, ρ, M, ss, M1, w, en, h1, fun vs Hk1 H1 w1 x1 r1 => ?_⟩
  split at h2
  · rename_i i j
    split at h2
    · rename_i hr
      cases h2
      rw [Bool.and_eq_true] at hr
      cases r1 with
      | cons r t =>
        cases t with
        | cons r' t' =>
          cases t'
          have := Rp.int_inv r
          subst this
          have := Rp.int_inv r'
          subst this
          exact ⟨i, j, rfl, ⟨(isRange_ok hr.1).1, (isRange_ok hr.1).2, (isRange_ok hr.2).1, (isRange_ok hr.2).2⟩, q _ Hk1 H1 w1 x1 srcr_rng⟩
    · cases h2
  · cases h2
/-- over enumerate(list), zip(list, list): pairs of data -/
theorem Res.pair {K : PySem.W.Frag} {Hk H : Hp} {M : MS} {ls : List Addr} {T : Addr} {x y : V} {d d' : D} (w : World K Hk H M ls) (hT : H T = none) (rx : Rp K Hk x d) (ry : Rp K Hk y d') : ∃ Hk3, World K Hk3 (upd H T (.tup [x, y])) M ls ∧ Ext ls Hk H Hk3 (upd H T (.tup [x, y])) ∧ SVr K Hk3 ls ls.length (.ref T) (.dt (.tup [d, d'])) :=
  ⟨upd Hk T (.tup [x, y]), (w.upd_new hT).freeze (w.fresh hT).2 upd_same (w.fresh hT).1, (Ext.upd_new hT).freeze hT (w.fresh hT).1,
    Rp.tup (SqT.of upd_same) (RpA.mono (same_upd (w.fresh hT).1) (.cons rx (.cons ry .nil)))⟩
def dOf : SV → Option D
  | .dt d => some d
  | .mu _ => none
def enumSrc (s : SV) (n : Nat) : Src := ⟨n, fun M' i => match listOf M' s with
  | some ys => match ys[i]? with
    | some (.dt d) => some (.dt (.tup [.int (i : Nat), d]))
    | _ => none
  | none => none, fun M' i => match listOf M' s with
  | some ys => decide (ys.length ≤ i)
  | none => false⟩
def enumT (ds : List D) : Src := ⟨ds.length, fun _ i => match ds[i]? with
  | some d => some (.dt (.tup [.int (i : Nat), d]))
  | none => none, fun _ i => decide (ds.length ≤ i)⟩
def eEnum (ms : EM (List SV)) : EM Src := ms.seq fun ss => fun _ M => match ss with
  | [.dt (.tup ds)] => some (enumT ds, M)
  | [s] => match listOf M s with
    | some xs => some (enumSrc s xs.length, M)
    | none => none
  | _ => none
theorem pim_enum {elts : List Expr} {kk : Nat} {tpos : Pos} (hg : Gl X "enumerate") (hm : X.mg "enumerate" = none) (ha : PAm X [e] ms) (hs : starEach [e] X.env = [(false, eval e X.env)] := by rfl) : PIm X (.Tuple elts kk tpos) (.Call (.Name "enumerate" p) [e] [] pos) (eEnum ms) := PI.imp (PI.or (pi_enum hg hm ha hs) (pi_enumT hg hm ha hs)) fun σ H Rq ⟨Hk, ls, ρ, M, src, M', w, en, hm, q⟩ => by
  obtain ⟨ss, M1, h1, h2⟩ := seq_some hm
  split at h2
  · rename_i ds
    refine .inr ⟨Hk, ls, ρ, M, _, M1, w, en, h1, fun vs Hk1 H1 w1 x1 r1 => ?_⟩
    cases h2
    cases r1 with
    | cons r t =>
      cases t
      cases r with
      | tup ht ha =>
        rename_i a us
        refine ⟨a, us, rfl, same_t w1.sub ht, q _ Hk1 H1 w1 x1 ?_⟩
        intro Hk2 H2 M2 ls2 w2 k2 p2
        have hq2 : SqT X.K H2 a us := same_t w2.sub (same_t k2 ht)
        have ra := RpA.mono k2 ha
        constructor
        · intro i x hx
          unfold enumT at hx
          dsimp only at hx
          split at hx
          · rename_i d hd
            cases hx
            obtain ⟨v, hv, rv⟩ := ra.get hd
            refine ⟨⟨us, v, hq2, hv⟩, fun v' H3 ⟨T, x', ev, hT, e3, h3⟩ => ?_⟩
            have := h3 us hq2
            rw [hv] at this
            cases this
            subst e3 ev
            exact Res.pair w2 hT (.int _) rv
          · cases hx
        · intro i hx
          exact ⟨us, hq2, by rw [ra.length]; exact of_decide_eq_true hx⟩
  all_goals refine .inl ⟨Hk, ls, ρ, M, _, M1, w, en, h1, fun vs Hk1 H1 w1 x1 r1 => ?_⟩
  · rename_i s
    split at h2
    · rename_i xs hx
      cases h2
      cases r1 with
      | cons r t =>
        cases t
        obtain ⟨a, us, rfl, hq, hss⟩ := listOf_ok w1 r hx
        refine ⟨a, us, rfl, SqL.of hq, q _ Hk1 H1 w1 x1 ?_⟩
        intro Hk2 H2 M2 ls2 w2 k2 p2
        constructor
        · intro i x hx
          unfold enumSrc at hx
          dsimp only at hx
          split at hx
          · rename_i ys hy
            split at hx
            · rename_i d hd
              cases hx
              obtain ⟨a', vs', e1, hq', hs'⟩ := listOf_ok w2 (r.moreS k2 p2) hy
              cases e1
              obtain ⟨v, hv, rv⟩ := hs'.get hd
              refine ⟨⟨vs', v, SqL.of hq', hv⟩, fun v' H3 ⟨T, x', ev, hT, e3, h3⟩ => ?_⟩
              have := h3 vs' (SqL.of hq')
              rw [hv] at this
              cases this
              subst e3 ev
              exact Res.pair w2 hT (.int _) rv
            · cases hx
          · cases hx
        · intro i hx
          unfold enumSrc at hx
          dsimp only at hx
          split at hx
          · rename_i ys hy
            obtain ⟨a', vs', e1, hq', hs'⟩ := listOf_ok w2 (r.moreS k2 p2) hy
            cases e1
            exact ⟨vs', SqL.of hq', by rw [hs'.length]; exact of_decide_eq_true hx⟩
          · cases hx
    · cases h2
  · cases h2
def zipSrc (s t : SV) (n : Nat) : Src := ⟨n, fun M' i => match listOf M' s, listOf M' t with
  | some ys, some zs => match ys[i]?, zs[i]? with
    | some (.dt d), some (.dt d') => some (.dt (.tup [d, d']))
    | _, _ => none
  | _, _ => none, fun M' i => match listOf M' s, listOf M' t with
  | some ys, some zs => decide (ys.length ≤ i) || decide (zs.length ≤ i)
  | _, _ => false⟩
def eZip (ms : EM (List SV)) : EM Src := ms.seq fun ss => fun _ M => match ss with
  | [s, t] => match listOf M s, listOf M t with
    | some xs, some ys => some (zipSrc s t (min xs.length ys.length), M)
    | _, _ => none
  | _ => none
theorem pim_zip {elts : List Expr} {kk : Nat} {tpos : Pos} (hg : Gl X "zip") (hm : X.mg "zip" = none) (ha : PAm X [e, e2] ms) (hs : starEach [e, e2] X.env = (false, eval e X.env) :: starEach [e2] X.env := by rfl) (hpl : (backTo pos (starEach [e2] X.env)).any (·.1) = false := by rfl) : PIm X (.Tuple elts kk tpos) (.Call (.Name "zip" p) [e, e2] [] pos) (eZip ms) := PI.imp (pi_zip hg hm ha hs hpl) fun σ H Rq ⟨Hk, ls, ρ, M, src, M', w, en, hm, q⟩ => by
  obtain ⟨ss, M1, h1, h2⟩ := seq_some hm
  refine ⟨Hk, ls, ρ, M, ss, M1, w, en, h1, fun vs Hk1 H1 w1 x1 r1 => ?_⟩
  split at h2
  · rename_i s t
    split at h2
    · rename_i xs ys hx hy
      cases h2
      cases r1 with
      | cons r t0 =>
        cases t0 with
        | cons r' t' =>
          cases t'
          obtain ⟨a, us, rfl, hq, hss⟩ := listOf_ok w1 r hx
          obtain ⟨b, ws, rfl, hqb, hssb⟩ := listOf_ok w1 r' hy
          refine ⟨a, b, us, ws, rfl, SqL.of hq, SqL.of hqb, q _ Hk1 H1 w1 x1 ?_⟩
          intro Hk2 H2 M2 ls2 w2 k2 p2
          constructor
          · intro i x hx
            unfold zipSrc at hx
            dsimp only at hx
            split at hx
            · rename_i ys zs hy hz
              split at hx
              · rename_i d d' hd hd'
                cases hx
                obtain ⟨a', vs', e1, hq', hs'⟩ := listOf_ok w2 (r.moreS k2 p2) hy
                cases e1
                obtain ⟨b', us', e2, hqb', hsb'⟩ := listOf_ok w2 (r'.moreS k2 p2) hz
                cases e2
                obtain ⟨v, hv, rv⟩ := hs'.get hd
                obtain ⟨u, hu, ru⟩ := hsb'.get hd'
                refine ⟨⟨vs', us', v, u, SqL.of hq', SqL.of hqb', hv, hu⟩, fun v' H3 ⟨T, x', y', ev, hT, e3, h3, h4⟩ => ?_⟩
                have := h3 vs' (SqL.of hq')
                rw [hv] at this
                cases this
                have := h4 us' (SqL.of hqb')
                rw [hu] at this
                cases this
                subst e3 ev
                exact Res.pair w2 hT rv ru
              · cases hx
            · cases hx
          · intro i hx
            unfold zipSrc at hx
            dsimp only at hx
            split at hx
            · rename_i ys zs hy hz
              obtain ⟨a', vs', e1, hq', hs'⟩ := listOf_ok w2 (r.moreS k2 p2) hy
              cases e1
              obtain ⟨b', us', e2, hqb', hsb'⟩ := listOf_ok w2 (r'.moreS k2 p2) hz
              cases e2
              refine ⟨vs', us', SqL.of hq', SqL.of hqb', ?_⟩
              rw [hs'.length, hsb'.length]
              rw [Bool.or_eq_true] at hx
              rcases hx with hx | hx
              · exact .inl (of_decide_eq_true hx)
              · exact .inr (of_decide_eq_true hx)
            · cases hx
    · cases h2
  · cases h2
end
end Dy

set_option Elab.async false
set_option linter.all false
set_option maxRecDepth 100000
set_option maxHeartbeats 4000000
namespace Dy
open PySem L2

/-! ### targets -/
abbrev Bnd := SV → Env → Option Env
def tG (K : PySem.W.Frag) (b : Bnd) (is : List Nat) : TG := fun v σ H Q => ∃ Hk ls ρ M s ρ', World K Hk H M ls ∧ EnvR K Hk ls σ ρ ∧ SVr K Hk ls ls.length v s ∧ b s ρ = some ρ' ∧
  ∀ σ', EnvR K Hk ls σ' ρ' → (∀ vs : List Nat, (∀ i ∈ is, i ∈ vs) → wipe σ' vs = wipe σ vs) → Q σ' H
abbrev PGm (X : Cx) (tg : Expr) (b : Bnd) (is : List Nat) : Prop := PG X tg (tG X.K b is)
def tGs (K : PySem.W.Frag) (b : List D → Env → Option Env) (is : List Nat) : TGs := fun vs σ H Q => ∃ Hk ls ρ M ds ρ', World K Hk H M ls ∧ EnvR K Hk ls σ ρ ∧ RpA K Hk vs ds ∧ b ds ρ = some ρ' ∧
  ∀ σ', EnvR K Hk ls σ' ρ' → (∀ ws : List Nat, (∀ i ∈ is, i ∈ ws) → wipe σ' ws = wipe σ ws) → Q σ' H
abbrev PGsm (X : Cx) (tg : List Expr) (b : List D → Env → Option Env) (is : List Nat) : Prop := PGs X tg (tGs X.K b is)
theorem PG.imp {X : Cx} {tg : Expr} {t u : TG} (h : PG X tg t) (i : ∀ v σ H Q, u v σ H Q → t v σ H Q) : PG X tg u := ⟨fun pins s σ H v uu Q I r q => h.run pins s σ H v uu Q I r (i v σ H Q q)⟩
theorem PGs.imp {X : Cx} {tg : List Expr} {t u : TGs} (h : PGs X tg t) (i : ∀ v σ H Q, u v σ H Q → t v σ H Q) : PGs X tg u := ⟨fun pins s σ H v uu Q I r q => h.run pins s σ H v uu Q I r (i v σ H Q q)⟩
theorem wipe_set {σ : L2.St} {i : Nat} {x : Option V} : ∀ {vs : List Nat}, i ∈ vs → wipe (σ.set i x) vs = wipe σ vs
  | [], h => by cases h
  | v :: vs, h => by
    unfold wipe
    by_cases hv : i ∈ vs
    · rw [wipe_set hv]
    · have e : i = v := by
        rcases List.mem_cons.mp h with h | h
        · exact h
        · exact absurd h hv
      subst e
      apply List.ext_getElem?
      intro j
      by_cases hj : i = j
      · subst hj
        by_cases hl : i < σ.length
        · rw [List.getElem?_set_self (by rw [wipe_length, List.length_set]; exact hl), List.getElem?_set_self (by rw [wipe_length]; exact hl)]
        · rw [List.getElem?_eq_none (by rw [List.length_set, wipe_length, List.length_set]; omega), List.getElem?_eq_none (by rw [List.length_set, wipe_length]; omega)]
      · rw [List.getElem?_set_ne hj, List.getElem?_set_ne hj]
        by_cases hjv : j ∈ vs
        · by_cases hl : j < σ.length
          · have a : ∀ (τ : L2.St), τ.length = σ.length → (wipe τ vs)[j]? = some none := fun τ ht => by
              cases q : (wipe τ vs)[j]? with
              | none =>
                rw [List.getElem?_eq_none_iff, wipe_length, ht] at q
                omega
              | some o =>
                cases o with
                | none => rfl
                | some y => exact absurd hjv (wipe_some q).2
            rw [a σ rfl, a (σ.set i x) (by rw [List.length_set])]
          · rw [List.getElem?_eq_none (by rw [wipe_length, List.length_set]; omega), List.getElem?_eq_none (by rw [wipe_length]; omega)]
        · rw [wipe_out hjv, wipe_out hjv, List.getElem?_set_ne hj]
def bName (i : Nat) : Bnd := fun s ρ => some (ρ.set i (some s))
def bTup (n : Nat) (bs : List D → Env → Option Env) : Bnd := fun s ρ => match s with
  | .dt (.tup ds) => if ds.length = n then bs ds ρ else none
  | _ => none
def bsNil : List D → Env → Option Env := fun ds ρ => match ds with
  | [] => some ρ
  | _ => none
def bsCons (b : Bnd) (bs : List D → Env → Option Env) : List D → Env → Option Env := fun ds ρ => match ds with
  | d :: r => match b (.dt d) ρ with
    | some ρ' => bs r ρ'
    | none => none
  | [] => none
section
variable {X : Cx} {tg : Expr} {es : List Expr} {pos : Pos}
theorem pgm_name {i : Nat} (h : PG X tg (gName i)) : PGm X tg (bName i) [i] := PG.imp h fun v σ H Q ⟨Hk, ls, ρ, M, s, ρ', w, en, r, hb, q⟩ => by
  cases hb
  exact q _ (en.set r) fun vs hv => wipe_set (hv i (by simp))
theorem pgm_nil : PGsm X [] bsNil [] := PGs.imp pgs_nil fun v σ H Q ⟨Hk, ls, ρ, M, ds, ρ', w, en, r, hb, q⟩ => by
  unfold bsNil at hb
  split at hb
  · cases hb
    cases r
    exact ⟨rfl, q σ en fun _ _ => rfl⟩
  · cases hb
theorem pgm_cons {b : Bnd} {bs : List D → Env → Option Env} {is js : List Nat} (h1 : PGm X tg b is) (h2 : PGsm X es bs js) (hs : (assignEach (tg :: es) X.env).map (·.2) = assign tg X.env :: (assignEach es X.env).map (·.2) := by rfl) : PGsm X (tg :: es) (bsCons b bs) (is ++ js) := PGs.imp (pgs_cons h1 h2 hs) fun v σ H Q ⟨Hk, ls, ρ, M, ds, ρ', w, en, r, hb, q⟩ => by
  unfold bsCons at hb
  split at hb
  · rename_i d rest
    split at hb
    · rename_i ρ1 h1
      cases r with
      | cons r1 r2 =>
        refine ⟨_, _, rfl, Hk, ls, ρ, M, _, ρ1, w, en, (show SVr X.K Hk ls ls.length _ (.dt d) from r1), h1, fun σ1 en1 w1 => ?_⟩
        refine ⟨Hk, ls, ρ1, M, rest, ρ', w, en1, r2, hb, fun σ2 en2 w2 => q σ2 en2 fun ws hw => ?_⟩
        rw [w2 ws fun i hi => hw i (List.mem_append_right _ hi), w1 ws fun i hi => hw i (List.mem_append_left _ hi)]
    · cases hb
  · cases hb
theorem pgm_tup {bs : List D → Env → Option Env} {is : List Nat} {k n : Nat} (hc : X.calm = true) (h : PGsm X es bs is) (hn : (assignEach es X.env).length = n := by rfl) (hst : (assignEach es X.env).findIdx? (·.1) = none := by rfl) : PGm X (.Tuple es k pos) (bTup n bs) is := PG.imp (pg_tup hc h hn hst) fun v σ H Q ⟨Hk, ls, ρ, M, s, ρ', w, en, r, hb, q⟩ => by
  unfold bTup at hb
  split at hb
  · rename_i ds
    split at hb
    · rename_i hl
      cases r with
      | tup hq ra => exact ⟨_, _, rfl, same_t w.sub hq, by rw [ra.length]; exact hl, Hk, ls, ρ, M, ds, ρ', w, en, ra, hb, q⟩
    · cases hb
  · cases hb

/-! ### for -/
def forGo (src : Src) (b : Bnd) (body : SM) : Nat → Nat → Env → MS → Option Out
  | 0, i, ρ, M => if src.stop M i = true then some (.nx ρ M) else none
  | k + 1, i, ρ, M => match src.get M i with
    | none => none
    | some x => match b x ρ with
      | none => none
      | some ρ1 => match body ρ1 M with
        | some (.nx ρ2 M2) => forGo src b body k (i + 1) ρ2 M2
        | some (.ct ρ2 M2) => forGo src b body k (i + 1) ρ2 M2
        | some (.bk ρ2 M2) => some (.nx ρ2 M2)
        | some (.rt r M2) => some (.rt r M2)
        | none => none
def sFor (ms : EM Src) (b : Bnd) (body : SM) : SM := fun ρ M => match ms ρ M with
  | some (src, M') => forGo src b body src.n 0 ρ M'
  | none => none
theorem psm_for {iter : Expr} {body : List Stmt} {ms : EM Src} {b : Bnd} {is : List Nat} {mb : SM} (hp : PassesOwn (model X.prog X.w) X.A X.env X.xe) (hc : X.calm = true) (hi : PIm X tg iter ms) (hg : PGm X tg b is) (hb : PSsm X body mb)
    (hs : ∀ x, foldedSetIterable iter X.env x = pure x := by intro _; rfl) : PSm X (.For tg iter body [] pos) (sFor ms b mb) := PS.imp (ps_for hp hc hi hg hb hs) fun E σ H ⟨Hk, ls, ρ, M, o, w, en, hm, q⟩ => by
  unfold sFor at hm
  cases hr : ms ρ M with
  | none => rw [hr] at hm; cases hm
  | some p =>
    obtain ⟨src, M'⟩ := p
    rw [hr] at hm
    refine ⟨Hk, ls, ρ, M, src, M', w, en, hr, fun J Hk1 H1 w1 x1 sr => ?_⟩
    refine ⟨fun i m σ' H' => ∃ Hk2 ls2 ρ2 M2 o2, World X.K Hk2 H' M2 ls2 ∧ Same Hk1 Hk2 ∧ (∃ t, ls2 = ls ++ t) ∧ EnvR X.K Hk2 ls2 σ' ρ2 ∧ forGo src b mb m i ρ2 M2 = some o2 ∧ OutR X.K ls2 Hk2 H' E o2, ?_, ?_⟩
    · exact ⟨src.n, Hk1, ls, ρ, M', o, w1, fun _ _ h => h, ⟨[], by simp⟩, en.mono x1.kk, hm, q.back x1.s⟩
    · rintro i m σ' H' ⟨Hk2, ls2, ρ2, M2, o2, w2, k2, p2, en2, hf, q2⟩
      obtain ⟨sg, ss⟩ := sr Hk2 H' M2 ls2 w2 k2 p2
      cases m with
      | zero =>
        unfold forGo at hf
        split at hf
        · rename_i hst
          cases hf
          exact .inl ⟨ss i hst, q2 σ' Hk2 H' ls2 w2 (ExtS.refl _ _ _) en2⟩
        · cases hf
      | succ m =>
        unfold forGo at hf
        cases hx : src.get M2 i with
        | none => rw [hx] at hf; cases hf
        | some x =>
          rw [hx] at hf
          obtain ⟨go, yl⟩ := sg i x hx
          refine .inr ⟨go, fun σ3 H3 => ∃ Hk2 ls2 ρ2 M2 o2, World X.K Hk2 H3 M2 ls2 ∧ Same Hk1 Hk2 ∧ (∃ t, ls2 = ls ++ t) ∧ EnvR X.K Hk2 ls2 σ3 ρ2 ∧ forGo src b mb m (i + 1) ρ2 M2 = some o2 ∧ OutR X.K ls2 Hk2 H3 E o2, fun σ3 H3 h => ⟨m, Nat.lt_succ_self m, h⟩, fun v H3 hy => ?_⟩
          obtain ⟨Hk3, w3, x3, r3⟩ := yl v H3 hy
          simp only at hf
          cases hbx : b x ρ2 with
          | none => rw [hbx] at hf; cases hf
          | some ρ3 =>
            rw [hbx] at hf
            simp only at hf
            refine ⟨Hk3, ls2, ρ2, M2, x, ρ3, w3, en2.mono x3.kk, r3, hbx, fun σ4 en4 _ => ?_⟩
            cases hbody : mb ρ3 M2 with
            | none => rw [hbody] at hf; cases hf
            | some o3 =>
              rw [hbody] at hf
              refine ⟨Hk3, ls2, ρ3, M2, o3, w3, en4, hbody, ?_⟩
              cases o3 with
              | nx ρ5 M5 => exact fun σ5 Hk5 H5 ls5 w5 x5 en5 => ⟨Hk5, ls5, ρ5, M5, o2, w5, fun a o z => x5.kk a o (x3.kk a o (k2 a o z)), by
                  obtain ⟨t, rfl⟩ := p2
                  obtain ⟨u, rfl⟩ := x5.pre
                  exact ⟨t ++ u, by rw [List.append_assoc]⟩, en5, hf, q2.back (x3.s.trans x5)⟩
              | ct ρ5 M5 => exact fun σ5 Hk5 H5 ls5 w5 x5 en5 => ⟨Hk5, ls5, ρ5, M5, o2, w5, fun a o z => x5.kk a o (x3.kk a o (k2 a o z)), by
                  obtain ⟨t, rfl⟩ := p2
                  obtain ⟨u, rfl⟩ := x5.pre
                  exact ⟨t ++ u, by rw [List.append_assoc]⟩, en5, hf, q2.back (x3.s.trans x5)⟩
              | bk ρ5 M5 =>
                cases hf
                exact fun σ5 Hk5 H5 ls5 w5 x5 en5 => q2 σ5 Hk5 H5 ls5 w5 (x3.s.trans x5) en5
              | rt r5 M5 =>
                cases hf
                exact fun v5 Hk5 H5 ls5 w5 x5 r6 => q2 v5 Hk5 H5 ls5 w5 (x3.s.trans x5) (r6.backS x3.s)

/-! ### while -/
def whileGo (c : EM Bool) (body : SM) : Nat → Env → MS → Option Out
  | 0, _, _ => none
  | k + 1, ρ, M => match c ρ M with
    | none => none
    | some (false, M1) => some (.nx ρ M1)
    | some (true, M1) => match body ρ M1 with
      | some (.nx ρ2 M2) => whileGo c body k ρ2 M2
      | some (.ct ρ2 M2) => whileGo c body k ρ2 M2
      | some (.bk ρ2 M2) => some (.nx ρ2 M2)
      | some (.rt r M2) => some (.rt r M2)
      | none => none
theorem psm_while {c : Expr} {body : List Stmt} {mc : EM Bool} {mb : SM} (n : Nat) (hp : PassesOwn (model X.prog X.w) X.A X.env X.xe) (hc : PTm X c mc) (hb : PSsm X body mb) : PSm X (.While c body [] pos) (whileGo mc mb n) := PS.imp (ps_while hp hc hb) fun E σ H ⟨Hk, ls, ρ, M, o, w, en, hm, q⟩ => by
  refine ⟨fun m σ' H' => ∃ Hk2 ls2 ρ2 M2 o2, World X.K Hk2 H' M2 ls2 ∧ EnvR X.K Hk2 ls2 σ' ρ2 ∧ whileGo mc mb m ρ2 M2 = some o2 ∧ OutR X.K ls2 Hk2 H' E o2, ⟨n, Hk, ls, ρ, M, o, w, en, hm, q⟩, ?_⟩
  rintro m σ' H' ⟨Hk2, ls2, ρ2, M2, o2, w2, en2, hf, q2⟩
  cases m with
  | zero => cases hf
  | succ m =>
    unfold whileGo at hf
    cases hx : mc ρ2 M2 with
    | none => rw [hx] at hf; cases hf
    | some p =>
      obtain ⟨k, M3⟩ := p
      rw [hx] at hf
      refine ⟨Hk2, ls2, ρ2, M2, k, M3, w2, en2, hx, fun Hk3 H3 w3 x3 => ?_⟩
      cases k with
      | false =>
        rw [if_neg Bool.false_ne_true]
        cases hf
        exact q2 σ' Hk3 H3 ls2 w3 x3.s (en2.mono x3.kk)
      | true =>
        rw [if_pos rfl]
        refine ⟨fun σ3 H3 => ∃ Hk2 ls2 ρ2 M2 o2, World X.K Hk2 H3 M2 ls2 ∧ EnvR X.K Hk2 ls2 σ3 ρ2 ∧ whileGo mc mb m ρ2 M2 = some o2 ∧ OutR X.K ls2 Hk2 H3 E o2, fun σ3 H3 h => ⟨m, Nat.lt_succ_self m, h⟩, ?_⟩
        simp only at hf
        cases hbody : mb ρ2 M3 with
        | none => rw [hbody] at hf; cases hf
        | some o3 =>
          rw [hbody] at hf
          refine ⟨Hk3, ls2, ρ2, M3, o3, w3, en2.mono x3.kk, hbody, ?_⟩
          cases o3 with
          | nx ρ5 M5 => exact fun σ5 Hk5 H5 ls5 w5 x5 en5 => ⟨Hk5, ls5, ρ5, M5, o2, w5, en5, hf, q2.back (x3.s.trans x5)⟩
          | ct ρ5 M5 => exact fun σ5 Hk5 H5 ls5 w5 x5 en5 => ⟨Hk5, ls5, ρ5, M5, o2, w5, en5, hf, q2.back (x3.s.trans x5)⟩
          | bk ρ5 M5 =>
            cases hf
            exact fun σ5 Hk5 H5 ls5 w5 x5 en5 => q2 σ5 Hk5 H5 ls5 w5 (x3.s.trans x5) en5
          | rt r5 M5 =>
            cases hf
            exact fun v5 Hk5 H5 ls5 w5 x5 r6 => q2 v5 Hk5 H5 ls5 w5 (x3.s.trans x5) (r6.backS x3.s)

/-! ### list comprehensions -/
def wipeE (ρ : Env) : List Nat → Env
  | [] => ρ
  | v :: vs => (wipeE ρ vs).set v none
theorem EnvR.wipe {K : PySem.W.Frag} {Hk : Hp} {ls : List Addr} {σ : L2.St} {ρ : Env} (h : EnvR K Hk ls σ ρ) : ∀ vs : List Nat, EnvR K Hk ls (L2.wipe σ vs) (wipeE ρ vs)
  | [] => h
  | v :: vs => by
    have ih := EnvR.wipe h vs
    unfold L2.wipe wipeE
    refine ⟨by rw [List.length_set, List.length_set]; exact ih.1, fun j t e => ?_⟩
    by_cases hj : v = j
    · subst hj
      by_cases hl : v < (wipeE ρ vs).length
      · rw [List.getElem?_set_self hl] at e; cases e
      · rw [List.getElem?_eq_none (by rw [List.length_set]; omega)] at e; cases e
    · rw [List.getElem?_set_ne hj] at e ⊢
      exact ih.2 j t e
theorem wipe_wipe {σ : L2.St} (vs : List Nat) : L2.wipe (L2.wipe σ vs) vs = L2.wipe σ vs := by
  have gen : ∀ ws : List Nat, (∀ i ∈ ws, i ∈ vs) → L2.wipe (L2.wipe σ ws) vs = L2.wipe σ vs := by
    intro ws
    induction ws with
    | nil => intro _; rfl
    | cons w ws ih =>
      intro h
      show L2.wipe ((L2.wipe σ ws).set w none) vs = _
      rw [wipe_set (h w (by simp))]
      exact ih fun i hi => h i (List.mem_cons_of_mem _ hi)
  exact gen vs fun _ h => h
def compGo (src : Src) (b : Bnd) (c : EM Bool) (el : EM R) (ρ0 : Env) : Nat → Nat → List D → MS → Option (List D × MS)
  | 0, i, acc, M => if src.stop M i = true then some (acc, M) else none
  | k + 1, i, acc, M => match src.get M i with
    | none => none
    | some x => match b x ρ0 with
      | none => none
      | some ρ1 => match c ρ1 M with
        | none => none
        | some (false, M1) => compGo src b c el ρ0 k (i + 1) acc M1
        | some (true, M1) => match fz el ρ1 M1 with
          | some (.dt d, M2) => if acc.length < sizeLine then compGo src b c el ρ0 k (i + 1) (acc ++ [d]) M2 else none
          | _ => none
def eComp (ms : EM Src) (b : Bnd) (c : EM Bool) (el : EM R) (vs : List Nat) : EM R := fun ρ M => match ms ρ M with
  | some (src, M') => match compGo src b c el (wipeE ρ vs) src.n 0 [] M' with
    | some (ds, M2) => some (.fr ds, M2)
    | none => none
  | none => none
theorem World.upd_other {K : PySem.W.Frag} {Hk H : Hp} {M : MS} {ls : List Addr} {p : Addr} {o : HO} (w : World K Hk H M ls) (h1 : Hk p = none) (h2 : p ∉ ls) : World K Hk (upd H p o) M ls where
  sub := fun b u e => by rw [upd_ne (ne_of_none e h1)]; exact w.sub b u e
  len := w.len
  nd := w.nd
  dj := w.dj
  ms := fun k x e => by
    obtain ⟨l, hl, ho⟩ := w.ms k x e
    refine ⟨l, hl, ?_⟩
    have nl : l ≠ p := fun z => h2 (z ▸ List.mem_of_getElem? hl)
    cases x with
    | l xs => obtain ⟨vs, a, b⟩ := ho; exact ⟨vs, by rw [upd_ne nl]; exact a, b⟩
    | d ks xs => obtain ⟨vs, a, b, c⟩ := ho; exact ⟨vs, by rw [upd_ne nl]; exact a, b, c⟩
    | i C ns xs => obtain ⟨dx, vs, a, b, c⟩ := ho; exact ⟨dx, vs, by rw [upd_ne nl]; exact a, b, c⟩
    | o C ns xs => obtain ⟨dx, vs, a, b, c⟩ := ho; exact ⟨dx, vs, by rw [upd_ne nl]; exact a, b, c⟩
    | t ks xs => obtain ⟨vs, a, b, c⟩ := ho; exact ⟨vs, by rw [upd_ne nl]; exact a, b, c⟩
theorem Ext.upd_other {ls : List Addr} {Hk0 H0 Hk H : Hp} {p : Addr} {o : HO} (x : Ext ls Hk0 H0 Hk H) (h : H0 p = none) : Ext ls Hk0 H0 Hk (upd H p o) where
  kk := x.kk
  fr := fun a u e hn => by rw [upd_ne (ne_of_none e h)]; exact x.fr a u e hn
  gr := x.gr
  st := fun a e => by
    by_cases z : a = p
    · subst z; exact absurd h e
    · rw [upd_ne z]; exact x.st a e
variable {elt iter : Expr} {ifs : List Expr} {scope : Scope} {own : List (Str × Nat)} {ms : EM Src} {b : Bnd} {is : List Nat} {mc : EM Bool} {me : EM R}
theorem ecomp_go {vs : List Nat} (hv : ∀ i ∈ is, i ∈ vs) : ∀ σ H Q, tM X.K (eComp ms b mc me vs) σ H Q → tLc (tI X.K ms) (tG X.K b is) (tT X.K mc) (tV X.K (fz me)) vs σ H Q := fun σ H Q ⟨Hk, ls, ρ, M, r, M', w, en, hm, q⟩ => by
  unfold eComp at hm
  cases hr : ms ρ M with
  | none => rw [hr] at hm; cases hm
  | some p =>
    obtain ⟨src, M1⟩ := p
    rw [hr] at hm
    simp only at hm
    cases hcg : compGo src b mc me (wipeE ρ vs) src.n 0 [] M1 with
    | none => rw [hcg] at hm; cases hm
    | some p2 =>
      obtain ⟨ds, M2⟩ := p2
      rw [hcg] at hm
      cases hm
      refine ⟨Hk, ls, ρ, M, src, M1, w, en, hr, fun J Hk1 H1 w1 x1 sr Dl hD => ?_⟩
      obtain ⟨hD1, hD2⟩ := w1.fresh hD
      refine ⟨fun i m H' => ∃ Hk2 M2 acc vs0, World X.K Hk2 H' M2 ls ∧ Ext ls Hk1 H1 Hk2 H' ∧ H' Dl = some (.lst vs0) ∧ Hk2 Dl = none ∧ RpA X.K Hk2 vs0 acc ∧ compGo src b mc me (wipeE ρ vs) m i acc M2 = some (ds, M'), ?_, ?_⟩
      · exact ⟨src.n, Hk1, M1, [], [], w1.upd_new hD, Ext.upd_new hD, upd_same, hD1, .nil, hcg⟩
      · rintro i m H' ⟨Hk2, M2, acc, vs0, w2, x2, hd2, hk2, ra2, hf⟩
        obtain ⟨sg, ss⟩ := sr Hk2 H' M2 ls w2 x2.kk ⟨[], by simp⟩
        cases m with
        | zero =>
          unfold compGo at hf
          split at hf
          · rename_i hst
            cases hf
            refine .inl ⟨ss i hst, q (.ref Dl) Hk2 H' w2 (x1.trans x2) ⟨Dl, vs0, rfl, ?_, hk2, hD2, hd2, ra2⟩⟩
            cases e : H Dl with
            | none => rfl
            | some o => exact absurd hD (x1.st Dl (by rw [e]; simp))
          · cases hf
        | succ m =>
          unfold compGo at hf
          cases hx : src.get M2 i with
          | none => rw [hx] at hf; cases hf
          | some x =>
            rw [hx] at hf
            simp only at hf
            obtain ⟨go, yl⟩ := sg i x hx
            refine .inr ⟨go, fun H3 => ∃ Hk2 M2 acc vs0, World X.K Hk2 H3 M2 ls ∧ Ext ls Hk1 H1 Hk2 H3 ∧ H3 Dl = some (.lst vs0) ∧ Hk2 Dl = none ∧ RpA X.K Hk2 vs0 acc ∧ compGo src b mc me (wipeE ρ vs) m (i + 1) acc M2 = some (ds, M'), fun H3 h => ⟨m, Nat.lt_succ_self m, h⟩, fun v H3 hy => ?_⟩
            obtain ⟨Hk3, w3, x3, r3⟩ := yl v H3 hy
            have hd3 : H3 Dl = some (.lst vs0) := x3.fr Dl _ hd2 hD2
            have free : ∀ {Hk5 H5 : Hp}, Ext ls Hk2 H' Hk5 H5 → Hk5 Dl = none := fun {Hk5 H5} x5 => by
              cases e : Hk5 Dl with
              | none => rfl
              | some o =>
                rcases x5.gr Dl (by rw [e]; simp) with z | z
                · exact absurd hk2 z
                · rw [hd2] at z; cases z
            cases hbx : b x (wipeE ρ vs) with
            | none => rw [hbx] at hf; cases hf
            | some ρ3 =>
              rw [hbx] at hf
              simp only at hf
              have enw : EnvR X.K Hk3 ls (L2.wipe σ vs) (wipeE ρ vs) := (en.mono fun a o z => x3.kk a o (x2.kk a o (x1.kk a o z))).wipe vs
              refine ⟨Hk3, ls, wipeE ρ vs, M2, x, ρ3, w3, enw, r3, hbx, fun σ4 en4 hw4 => ⟨by rw [hw4 vs hv, wipe_wipe], ?_⟩⟩
              cases hc : mc ρ3 M2 with
              | none => rw [hc] at hf; cases hf
              | some pc =>
                obtain ⟨k, M4⟩ := pc
                rw [hc] at hf
                refine ⟨Hk3, ls, ρ3, M2, k, M4, w3, en4, hc, fun Hk5 H5 w5 x5 => ?_⟩
                have x35 := x3.trans x5
                cases k with
                | false =>
                  refine iteF ?_
                  exact ⟨Hk5, M4, acc, vs0, w5, x2.trans x35, x5.fr Dl _ hd3 hD2, free x35, ra2.mono x35.kk, hf⟩
                | true =>
                  refine iteT ?_
                  simp only at hf
                  cases he : fz me ρ3 M4 with
                  | none => rw [he] at hf; cases hf
                  | some pe =>
                    obtain ⟨s6, M6⟩ := pe
                    rw [he] at hf
                    cases s6 with
                    | mu k => cases hf
                    | dt d =>
                      simp only at hf
                      split at hf
                      · rename_i hz
                        refine ⟨Hk5, ls, ρ3, M4, .dt d, M6, w5, en4.mono x5.kk, he, fun y Hk6 H6 w6 x6 r6 => ?_⟩
                        have x36 := x35.trans x6
                        have hd6 : H6 Dl = some (.lst vs0) := x6.fr Dl _ (x5.fr Dl _ hd3 hD2) hD2
                        refine ⟨vs0, hd6, by rw [ra2.length]; exact hz, Hk6, M6, acc ++ [d], vs0 ++ [y], w6.upd_other (free x36) hD2, (x2.trans x36).upd_other hD, upd_same, free x36, (ra2.mono x36.kk).append (.cons r6 .nil), hf⟩
                      · cases hf
def cYes : EM Bool := EM.ret true
abbrev PTsm (X : Cx) (ifs : List Expr) (m : EM Bool) : Prop := PTs X ifs (tT X.K m)
theorem ptsm_nil : PTsm X [] cYes := ⟨fun pins s σ H Q I ⟨Hk, ls, ρ, M, r, M', w, en, hm, q⟩ => by
  cases hm
  exact pts_nil.run pins s σ H Q I (q Hk H w (Ext.refl _ _ _))⟩
theorem ptsm_one {c : Expr} (h : PTm X c mc) : PTsm X [c] mc := pts_one h
theorem pm_comp (hc : X.calm = true) (hN : X.N.Nodup) (hi : PIm X tg iter ms) (ok : BlkOk X.N X.env.scope scope own) (hv : ∀ i ∈ is, i ∈ own.map (·.2))
    (hg : ∀ (s : Shared) (H : Hp) (C : Addr) (cl : List (Str × Addr)) (fp : List Addr), PGm (X.blk s H scope (compEnvC scope cl C X.env) fp) tg b is) (ht : ∀ (s : Shared) (H : Hp) (C : Addr) (cl : List (Str × Addr)) (fp : List Addr), PTsm (X.blk s H scope (compEnvC scope cl C X.env) fp) ifs mc)
    (he : ∀ (s : Shared) (H : Hp) (C : Addr) (cl : List (Str × Addr)) (fp : List Addr), PM (X.blk s H scope (compEnvC scope cl C X.env) fp) elt me) (hs : ∀ x, foldedSetIterable iter X.env x = pure x := by intro _; rfl) :
    PM X (.ListComp elt [⟨tg, iter, ifs, 0⟩] scope pos) (eComp ms b mc me (own.map (·.2))) :=
  PE.imp (pe_lc hc hN hi ok hg ht (fun s H C cl fp => PM.v (he s H C cl fp)) hs) (ecomp_go hv)
theorem ps_comp {i : Nat} {y : Str} {py spos : Pos} (hc : X.calm = true) (hN : X.N.Nodup) (hy : X.N[i]? = some y) (hyl : X.env.scope.names.lookup y = some .local)
    (hsw : swapsWith (.ListComp elt [⟨tg, iter, ifs, 0⟩] scope pos) (some (.Name y py)) spos.line X.env = pure true) (hi : PIm X tg iter ms) (ok : BlkOk X.N X.env.scope scope own) (hv : ∀ i ∈ is, i ∈ own.map (·.2))
    (hg : ∀ (s : Shared) (H : Hp) (C : Addr) (cl : List (Str × Addr)) (fp : List Addr), PGm (X.blk s H scope (compEnvC scope cl C X.env) fp) tg b is) (ht : ∀ (s : Shared) (H : Hp) (C : Addr) (cl : List (Str × Addr)) (fp : List Addr), PTsm (X.blk s H scope (compEnvC scope cl C X.env) fp) ifs mc)
    (he : ∀ (s : Shared) (H : Hp) (C : Addr) (cl : List (Str × Addr)) (fp : List Addr), PM (X.blk s H scope (compEnvC scope cl C X.env) fp) elt me) (hs : ∀ x, foldedSetIterable iter X.env x = pure x := by intro _; rfl) :
    PS X (.Assign [.Name y py] (.ListComp elt [⟨tg, iter, ifs, 0⟩] scope pos) spos) (tAsg (tM X.K (eComp ms b mc me (own.map (·.2)))) (gName i)) :=
  PS.imp (ps_setLc hc hN hy hyl hsw hi ok hg ht (fun s H C cl fp => PM.v (he s H C cl fp)) hs) fun E σ H h => ecomp_go hv σ H _ h
end
end Dy

set_option Elab.async false
set_option linter.all false
set_option maxRecDepth 100000
set_option maxHeartbeats 4000000
/-! Layer Dy, part 8: defs called where no repr runs around (guards are empty); the law's end. -/
namespace Dy
open PySem L2 PySem.Spec PyProof.Rows
/-- a def keeps a promise wherever no guard stands around -/
structure FnG (P : Program) (w : PySem.World) (K : PySem.W.Frag) (mg : Str → Option Value) (base : Heap) (CX : CXT) (k : Nat) (f : Addr) (fd : FuncData) (ps : List Str) (sp : Sp) : Prop where
  ln : ∀ vs H Q E, sp vs H Q E → vs.length = ps.length
  go : ∀ (A : Around) (outer : List PySem.Env) (s : Shared) (H : Hp) (args : Args) (us : List Value) (vs : List V) (Q : VK) (E : XK), A.guards = some [] → Room k A → Env0 P w K mg base A outer s H →
    BindsTo s fd args (ps.zip us) → Vals vs us → sp vs H Q E → codeAny (model P w) A (.call (.ref f) args) (CR CX outer P w H s Q E) s
section
variable {P : Program} {w : PySem.World} {K : PySem.W.Frag} {mg : Str → Option Value} {base : Heap} {CX : CXT} {k : Nat} {f : Addr} {fd : FuncData} {ps : List Str} {sp sp' : Sp}
theorem FnG.up {j : Nat} (F : FnG P w K mg base CX j f fd ps sp) (h : j ≤ k) : FnG P w K mg base CX k f fd ps sp := ⟨F.ln, fun A outer s H args us vs Q E hg hr => F.go A outer s H args us vs Q E hg (hr.mono h)⟩
theorem FnG.imp (F : FnG P w K mg base CX k f fd ps sp) (h : ∀ vs H Q E, sp' vs H Q E → sp vs H Q E) : FnG P w K mg base CX k f fd ps sp' :=
  ⟨fun vs H Q E q => F.ln vs H Q E (h _ _ _ _ q), fun A outer s H args us vs Q E hg hr e b v q => F.go A outer s H args us vs Q E hg hr e b v (h _ _ _ _ q)⟩
theorem FnOk.g (F : FnOk P w K mg base CX k f fd ps sp) : FnG P w K mg base CX k f fd ps sp := ⟨F.len, fun A outer s H args us vs Q E _ hr e b v q => F.run A outer s H args us vs Q E hr e b v q⟩
/-- nothing is promised -/
theorem FnG.no : FnG P w K mg base CX k f fd ps (fun _ _ _ _ => False) := ⟨fun _ _ _ _ h => h.elim, fun _ _ _ _ _ _ _ _ _ _ _ _ _ _ h => h.elim⟩

/-- from the body to the promise -/
theorem fng_of {name qual : Str} {params : Arguments} {body : List Stmt} {scope : Scope} {dV kV doc pm cdv ct oc : Value} {an od : Option Addr} {osl : Array (Option Value)} {N : List Str}
    (lk : K.lookup f = some ⟨oc, od, .func (PySem.W.fnOf name qual params body scope dV kV doc pm an cdv ct), osl⟩) (hcd : PySem.W.codeIn K cdv qual = true) (S : FnScope N ps scope) (ln : ∀ vs H Q E, sp vs H Q E → vs.length = ps.length)
    (hbody : ∀ (A : Around) (outer : List PySem.Env) (s : Shared) (H : Hp) (vs : List V) (Q : VK) (E : XK), A.guards = some [] → Room k (A.deeper (envOfC qual scope s.heap.objs.size f cdv)) → sp vs H Q E →
      ∃ t, PSs (cxOf CX P w K mg base N qual scope f cdv A outer s H E) body t ∧ t { nx := fun _ H' => Q .non H', rt := Q } (L2.start N vs) H) :
    FnG P w K mg base CX (k + 1) f (PySem.W.fnOf name qual params body scope dV kV doc pm an cdv ct) ps sp := by
  constructor
  · exact ln
  · intro A outer s H args us vs Q E hgd hr e0 hb r hsp
    have old : ∀ b o, base.get? b = some o → s.heap.get? b = some o := fun b o e => (e0.bs b o e).1
    have KX := e0.mod.kin.keeps old
    have lim := e0.mod.nolimit.keeps old
    refine codeAny_call_function hr.depth (KX _ _ lk) rfl S.co S.gen rfl (PySem.W.codeRec_of KX hcd) (hb _ _ _ _ ?_)
    refine wpAny_newFunctionEnv_cells S.kind ?_ fun env he s1 x => ?_
    · rintro ⟨n, v⟩ hy
      rcases S.par n (List.of_mem_zip hy).1 with q | q
      · left; exact q
      · right; exact ⟨q, PySem.W.cellsFrom_some _ _ _ (.inl q)⟩
    · cases he
      refine ⟨lim.keeps x.toInCall.keep, codeAny_func ?_⟩
      obtain ⟨t, ht, hq⟩ := hbody A outer s H vs Q E hgd (hr.deeper _) hsp
      have I := inv_start (CX := CX) (E := E) (qual := qual) (f := f) (cd := cdv) S hr.hd e0 (ln _ _ _ _ hsp) r x
      refine wpAny_mono (ht.run [] s1 (L2.start N vs) H _ I hq) (fun fl s' hs => ?_) fun _ _ hs => hs
      cases fl with
      | brk => obtain ⟨_, _, _, z⟩ := hs; exact z.elim
      | cont => obtain ⟨_, _, _, z⟩ := hs; exact z.elim
      | next => obtain ⟨σ', H', J, z⟩ := hs; exact ⟨.non, H', J.os, J.bare, J.base, J.hok, rfl, z⟩
      | ret u => obtain ⟨v, σ', H', J, rv, z⟩ := hs; exact ⟨v, H', J.os, J.bare, J.base, J.hok, rv, z⟩
theorem FunG.ok {x qual : Str} {st : Stmt} {N : List Str} (F : Fun K x qual st f fd) (S : FnScope N ps (defScope st)) (ln : ∀ vs H Q E, sp vs H Q E → vs.length = ps.length)
    (hbody : ∀ (cdv : Value) (A : Around) (outer : List PySem.Env) (s : Shared) (H : Hp) (vs : List V) (Q : VK) (E : XK), A.guards = some [] → Room k (A.deeper (envOfC qual (defScope st) s.heap.objs.size f cdv)) → sp vs H Q E →
      ∃ t, PSs (cxOf CX0 P w K mg base N qual (defScope st) f cdv A outer s H E).nox (defBody st) t ∧ t { nx := fun _ H' => Q .non H', rt := Q } (L2.start N vs) H) : FnG P w K mg base CX0 (k + 1) f fd ps sp := by
  obtain ⟨oc, od, kV, doc, pm, an, cdv, ct, osl, rfl, lk, hcd⟩ := F.ex
  refine fng_of lk hcd S ln fun A outer s H vs Q E hgd hr h => ?_
  obtain ⟨t, ht, q⟩ := hbody cdv A outer s H vs Q E hgd hr h
  exact ⟨t, ht.nox, q⟩
end
section
variable {X : Cx} {CX : CXT} {k : Nat} {f : Addr} {fd : FuncData} {ps : List Str} {sp : Sp} {dvs : List V} {ds : List Value} {E : XK} {x : Str} {p pos : Pos} {e : Expr} {es : List Expr} {t : TA}
theorem run_fng {pins : List (Addr × Obj)} {σ : L2.St} {H : Hp} {s : Shared} {Q : VK} {us : List Value} {vs : List V} (F : FnG X.prog X.w X.K X.mg X.base CX k f fd ps sp) (hgd : X.A.guards = some []) (hr : Room k X.A) (hb : Binds X.K fd ps ds) (hd : Vals dvs ds) (hx : Passes CX X E)
    (I : Inv X pins σ H s) (r : Vals vs us) (h : sp (vs ++ dvs) H Q E) : wpAny (model X.prog X.w) X.A (call (.ref f) us) (EP X pins σ Q) X.xe s := by
  have r2 := r.append hd
  have hl : (us ++ ds).length = ps.length := r2.length.symm.trans (F.ln _ _ _ _ h)
  refine wpAny_call (codeAny_mono (F.go X.A X.stack s H ⟨us, []⟩ (us ++ ds) (vs ++ dvs) Q E hgd hr I.env0 (hb s us I.kIn hl) r2 h) ?_)
  rintro (e | (_ | _ | _ | u)) s' hq
  · exact hx pins σ H s e s' I hq
  all_goals first | exact I.after hq | exact hq.elim
theorem pe_callG (F : FnG X.prog X.w X.K X.mg X.base CX k f fd ps sp) (hgd : X.A.guards = some []) (hr : Room k X.A) (hg : Gl X x) (hm : X.mg x = some (.ref f)) (hk : PySem.W.keepIn X.K (.ref f) = true) (hb : Binds X.K fd ps ds) (hd : Vals dvs ds) (hx : Passes CX X E)
    (ha : PA X (e :: es) t) (hdb : (x == ("__debug__" : Str)) = false := by decide) (he : starEach (e :: es) X.env = (false, eval e X.env) :: starEach es X.env := by rfl) (hpl : (backTo pos (starEach es X.env)).any (·.1) = false := by rfl) :
    PE X (.Call (.Name x p) (e :: es) [] pos) (tCall sp dvs E t) := by
  constructor
  intro pins s σ H Q I h
  refine wpAny_Call_Name_kw (ld_glob I hg hm (PySem.W.callWith_K (h₀ := X.base) I.ok.mod.kin hk ?_ he hpl) hdb)
  exact thn (ha.run pos pins s σ H _ I h) fun us s1 ⟨vs, H1, I1, r, q⟩ => ⟨I1.kIn, run_fng F hgd hr hb hd hx I1 r q⟩
theorem pe_callG0 (F : FnG X.prog X.w X.K X.mg X.base CX k f fd ps sp) (hgd : X.A.guards = some []) (hr : Room k X.A) (hg : Gl X x) (hm : X.mg x = some (.ref f)) (hk : PySem.W.keepIn X.K (.ref f) = true) (hb : Binds X.K fd ps ds) (hd : Vals dvs ds) (hx : Passes CX X E)
    (hdb : (x == ("__debug__" : Str)) = false := by decide) : PE X (.Call (.Name x p) [] [] pos) (tCall sp dvs E tNil) := by
  constructor
  intro pins s σ H Q I h
  exact wpAny_Call_Name_kw (ld_glob I hg hm (PySem.W.callWith_K0 I.kIn hk (run_fng (us := []) F hgd hr hb hd hx I .nil h)) hdb)
/-- a call of a def by its mirror -/
theorem pm_call {n : Nat} {g : Fn} {ms : EM (List SV)} (F : FnG X.prog X.w X.K X.mg X.base CX0 k f fd ps (spM X.K n g)) (hgd : X.A.guards = some []) (hr : Room k X.A) (hg : Gl X x) (hm : X.mg x = some (.ref f)) (hk : PySem.W.keepIn X.K (.ref f) = true) (hb : Binds X.K fd ps [])
    (ha : PAm X (e :: es) ms) (hn : ∀ ρ M ss M', ms ρ M = some (ss, M') → ss.length = n) (hdb : (x == ("__debug__" : Str)) = false := by decide) (he : starEach (e :: es) X.env = (false, eval e X.env) :: starEach es X.env := by rfl) (hpl : (backTo pos (starEach es X.env)).any (·.1) = false := by rfl) :
    PM X (.Call (.Name x p) (e :: es) [] pos) (eFn g ms) := PE.imp (pe_callG F hgd hr hg hm hk hb .nil pass0 ha hdb he hpl) (efn_go hn)
end

/-! ### the law's end -/
theorem law_end {P : Program} {w : PySem.World} {K : PySem.W.Frag} {mg mb : Str → Option Value} {CX : CXT} {k : Nat} {fa a : Addr} {fd : FuncData} {x : Str} {sp : Sp} {t : Shared} {vs : List Value} {ns : List Int} (KX : K.In t.heap) (hns : t.heap.Ns mainGlobals mg) (hb : t.heap.Ns builtinsNs mb)
    (hbb : ∀ x : Str, x ≠ "__name__" → mb x = bootBuiltins x) (hlim : t.heap.NoLimit) (hg : t.gens = #[]) (ha : t.heap.get? a = some { cls := .type "list", data := .seq vs.toArray }) (hi : IntsAre vs ns) (hl : ns.length ≤ sizeLine) (hr : Room k callerA)
    (F : ∀ base : Heap, K.In base → base.Ns mainGlobals mg → FnG P w K mg base CX k fa fd [x] sp) (hbind : ∀ (s : Shared) (u : Value), BindsTo s fd ⟨[u], []⟩ [(x, u)])
    (hsp : ∀ H : Hp, Only H → SqL K H a (ns.map V.int) → sp [.ref a] H (fun v _ => v = .bl true) fun _ _ _ => False) (hCX : ∀ H e s', CX [] H t (fun _ _ _ => False) e s' → False) :
    codeAny (model P w) callerA (.call (.ref fa) ⟨[.ref a], []⟩) (fun r s' => r = .ok (.ret (.bool true)) ∧ OldK t.heap s'.heap ∧ s'.os = t.os ∧ AllBare s'.gens) t := by
  have rv := vals_ints hi
  have lv := hi.length
  have main : ∀ H : Hp, Only H → SqL K H a (ns.map V.int) → HOk P w H t.heap → (∀ b u, H b = some u → b = a ∧ K.lookup a = none) →
      codeAny (model P w) callerA (.call (.ref fa) ⟨[.ref a], []⟩) (fun r s' => r = .ok (.ret (.bool true)) ∧ OldK t.heap s'.heap ∧ s'.os = t.os ∧ AllBare s'.gens) t := by
    intro H hO hS hok hA
    have dictFree : ∀ {b : Addr} {o : Obj} {es : Array DictEntry} {ep : Nat}, t.heap.get? b = some o → o.data = .dict es ep → H b = none := by
      intro b o es ep e d
      cases q : H b with
      | none => rfl
      | some u =>
        obtain ⟨rfl, _⟩ := hA b u q
        rw [ha] at e
        cases e
        cases (show Data.seq vs.toArray _ = Data.dict es ep from d)
    have nsB : ∀ {b : Addr} {m : Str → Option Value}, t.heap.Ns b m → (hidT t.heap H).Ns b m := fun ⟨o, es, ep, e, d, r⟩ => ⟨o, es, ep, hidT_get e (dictFree e d), d, r⟩
    have KB : K.In (hidT t.heap H) := by
      intro b o e
      refine hidT_get (KX b o e) ?_
      cases q : H b with
      | none => rfl
      | some u =>
        obtain ⟨rfl, z⟩ := hA b u q
        rw [z] at e
        cases e
    have env : Env0 P w K mg (hidT t.heap H) callerA [] t H :=
      { frames := rfl
        mod := ⟨KB, nsB hns, ⟨mb, nsB hb, hbb⟩, let ⟨mc, h1, h2⟩ := hlim; ⟨mc, nsB h1, h2⟩⟩
        bs := fun b o e => of_hidT e
        bsz := Nat.le_of_eq (hidT_size _ _)
        funs := trivial
        frf := fun b z => nomatch (show b ∈ ([] : List Addr) from z)
        hok := hok
        bare := .of_eq hg }
    refine codeAny_mono ((F _ KB (nsB hns)).go callerA [] t H ⟨[.ref a], []⟩ [.ref a] [.ref a] _ _ rfl hr env (hbind t (.ref a)) (.cons rfl .nil) (hsp H hO hS)) ?_
    rintro (e | (_ | _ | _ | u)) s' h
    · exact (hCX H e s' h).elim
    · exact h.elim
    · exact h.elim
    · exact h.elim
    · obtain ⟨v, H', os, bare, un, hok', r', q⟩ := h
      cases (show v = .bl true from q)
      cases (show u = Value.bool true from r')
      refine ⟨rfl, OldK.of_keep fun b o e => ?_, os, bare⟩
      cases q : H b with
      | none => exact un.keep b o e q (fun z => nomatch (show b ∈ ([] : List Addr) from z)) (by simp)
      | some u =>
        rcases hO b with z | ⟨ob, xs, z⟩
        · rw [q] at z
          cases z
        · obtain ⟨e1, _⟩ := hok b _ z
          obtain ⟨e2, _⟩ := hok' b _ (un.frzs b ob _ z)
          rw [e] at e1
          cases e1
          exact e2
  cases hk : K.lookup a with
  | some o =>
    have e := KX a o hk
    rw [ha] at e
    cases e
    refine main (fun _ => none) (fun _ => .inl rfl) ?_ (fun b u z => nomatch z) fun b u z => nomatch z
    exact .inr ⟨_, vs.toArray, _, hk, rfl, rfl, rfl, by rw [List.size_toArray, lv]; exact hl, by simpa using rv⟩
  | none =>
    have at1 : ∀ {b : Addr} {u : HO}, (if b = a then some (HO.frz { cls := .type "list", data := .seq vs.toArray } (.lst (ns.map V.int))) else none) = some u → b = a ∧ u = HO.frz { cls := .type "list", data := .seq vs.toArray } (.lst (ns.map V.int)) := by
      intro b u z
      split at z
      · rename_i hb
        cases z
        exact ⟨hb, rfl⟩
      · cases z
    refine main (fun b => if b = a then some (.frz { cls := .type "list", data := .seq vs.toArray } (.lst (ns.map V.int))) else none) (fun b => ?_) (.inl (.inr ⟨_, if_pos rfl⟩)) (fun b u z => ?_) fun b u z => ⟨(at1 z).1, hk⟩
    · by_cases hb : b = a
      · exact .inr ⟨_, _, if_pos hb⟩
      · exact .inl (if_neg hb)
    · obtain ⟨rfl, rfl⟩ := at1 z
      exact ⟨ha, by rw [List.length_map]; exact hl, vs, _, rv, ha⟩
theorem walk_end {l : PySem.W.OpenLaw} {n k : Nat} {q : Program} {loose : List Str} {XP : (Str → Option Value) → Heap → Prop} {YP : PySem.World → Heap → Prop} {d : DefRec} {CX : CXT} {x : Str}
    (hn : l.most = some n) (hn2 : n ≤ sizeLine) (hdf : d.params.defaults = []) (hr : Room k callerA)
    (F : ∀ (w : PySem.World) (mg : Str → Option Value) (fa : Addr) (h : Heap), YP w h → h.Ns mainGlobals mg → mg d.name = some (.ref fa) → ∃ (K : PySem.W.Frag) (fd : FuncData) (sp : Sp), K.In h ∧ (∀ (s : Shared) (u : Value), BindsTo s fd ⟨[u], []⟩ [(x, u)]) ∧
        (∀ (H : Hp) (a : Addr) (ns : List Int), ns.length ≤ n → Only H → SqL K H a (ns.map V.int) → sp [.ref a] H (fun v _ => v = .bl true) fun _ _ _ => False) ∧
        ∀ base : Heap, K.In base → base.Ns mainGlobals mg → FnG l.prog w K mg base CX k fa fd [x] sp)
    (hCX : ∀ (H : Hp) (s : Shared) (e : Value) (s' : Shared), CX [] H s (fun _ _ _ => False) e s' → False) :
    PySem.W.WalkO q loose XP YP l.row.toRowW d [] (fun f vs => PySem.call f vs) := by
  refine Att.attach_call hn hdf ?_
  intro w s0 t mg mb fa o pm cd doc a vs ns G Y ho hd hcd hmg hobj hints hlen hg
  obtain ⟨K, fd, sp, KX, hb, hsp, hF⟩ := F w mg fa _ Y G.T.g hmg
  exact law_end KX G.T.g G.T.b G.T.builtins G.T.nolimit hg hobj hints (Nat.le_trans hlen hn2) hr hF hb (fun H hO hS => hsp H a ns hlen hO hS) fun H e s' => hCX H t e s'
end Dy

set_option Elab.async false
set_option linter.all false
set_option maxRecDepth 100000
set_option maxHeartbeats 4000000
/-! Layer Dy, part 9: built-ins. -/
namespace Dy
open PySem L2

/-! ### calls of built-ins by values -/
def CallD (K : PySem.W.Frag) (r : List V → Hp → VK → Prop) (g : MS → List SV → Option R) : Prop := ∀ (Hk H : Hp) (M : MS) (ls : List Addr) (vs : List V) (ss : List SV) (z : R) (Q : VK), World K Hk H M ls → SVs K Hk ls ls.length vs ss → g M ss = some z → Res K ls Hk H z M Q → r vs H Q
def eCall (g : MS → List SV → Option R) (ms : EM (List SV)) : EM R := ms.seq fun ss => fun _ M => match g M ss with
  | some z => some (z, M)
  | none => none
theorem ecall_go {X : Cx} {r : List V → Hp → VK → Prop} {g : MS → List SV → Option R} {ms : EM (List SV)} (hd : CallD X.K r g) : ∀ σ H Q, tM X.K (eCall g ms) σ H Q → tCB r (tA X.K ms) σ H Q := fun σ H Q ⟨Hk, ls, ρ, M, z, M', w, en, hm, q⟩ => by
  obtain ⟨ss, M1, h1, h2⟩ := seq_some hm
  refine ⟨Hk, ls, ρ, M, ss, M1, w, en, h1, fun vs Hk1 H1 w1 x1 r1 => ?_⟩
  cases hg : g M1 ss with
  | none => rw [hg] at h2; cases h2
  | some z' =>
    rw [hg] at h2
    cases h2
    exact hd Hk1 H1 _ ls vs ss _ Q w1 r1 hg (q.back x1)
/-- one argument -/
def g1 (g : MS → SV → Option R) : MS → List SV → Option R := fun M ss => match ss with
  | [s] => g M s
  | _ => none
def g2 (g : MS → SV → SV → Option R) : MS → List SV → Option R := fun M ss => match ss with
  | [s, t] => g M s t
  | _ => none
theorem CallD.one {K : PySem.W.Frag} {r : List V → Hp → VK → Prop} {g : MS → SV → Option R} (h : ∀ (Hk H : Hp) (M : MS) (ls : List Addr) (v : V) (s : SV) (z : R) (Q : VK), World K Hk H M ls → SVr K Hk ls ls.length v s → g M s = some z → Res K ls Hk H z M Q → r [v] H Q) : CallD K r (g1 g) := by
  intro Hk H M ls vs ss z Q w rs e q
  unfold g1 at e
  split at e
  · cases rs with
    | cons r1 t => cases t; exact h Hk H M ls _ _ z Q w r1 e q
  · cases e
section
variable {X : Cx} {x : Str} {p pos : Pos} {e : Expr} {es : List Expr} {ms : EM (List SV)} {id T : String} {r : List V → Hp → VK → Prop} {g : MS → List SV → Option R}
theorem pm_callB (hc : CallR X (.builtin id) r) (hd : CallD X.K r g) (hg : Gl X x) (hm : X.mg x = none) (hv : bootBuiltins x = some (.builtin id)) (ha : PAm X (e :: es) ms) (hn : x ≠ "__name__" := by decide) (hdb : (x == ("__debug__" : Str)) = false := by decide)
    (he : starEach (e :: es) X.env = (false, eval e X.env) :: starEach es X.env := by rfl) (hpl : (backTo pos (starEach es X.env)).any (·.1) = false := by rfl) : PM X (.Call (.Name x p) (e :: es) [] pos) (eCall g ms) := PE.imp (pe_callB hc hg hm hv ha hn hdb he hpl) (ecall_go hd)
theorem pm_callTy (hc : CallR X (.type T) r) (hd : CallD X.K r g) (hg : Gl X x) (hm : X.mg x = none) (hv : bootBuiltins x = some (.type T)) (ha : PAm X (e :: es) ms) (hn : x ≠ "__name__" := by decide) (hdb : (x == ("__debug__" : Str)) = false := by decide)
    (he : starEach (e :: es) X.env = (false, eval e X.env) :: starEach es X.env := by rfl) (hpl : (backTo pos (starEach es X.env)).any (·.1) = false := by rfl) : PM X (.Call (.Name x p) (e :: es) [] pos) (eCall g ms) := PE.imp (pe_callTy hc hg hm hv ha hn hdb he hpl) (ecall_go hd)
end

/-! ### len -/
def lenS (M : MS) (s : SV) : Option R := match s with
  | .dt (.str z) => if z.length ≤ sizeLine then some (.sv (.dt (.int z.length))) else none
  | s => match itemsOf M s with
    | some xs => some (.sv (.dt (.int xs.length)))
    | none => none
theorem calld_len {K : PySem.W.Frag} : CallD K (rLen K) (g1 lenS) := CallD.one fun Hk H M ls v s z Q w r e q => by
  unfold lenS at e
  split at e
  · split at e
    · rename_i hz
      cases e
      have := Rp.str_inv r
      subst this
      exact ⟨_, _, rfl, ⟨hz, rfl⟩, q.dt w (.int _)⟩
    · cases e
  · split at e
    · rename_i xs hx
      cases e
      obtain ⟨a, vs, rfl, hq, hs⟩ := itemsOf_ok w r hx
      rcases hq with hq | hq
      · exact ⟨_, vs.length, rfl, .inl ⟨vs, hq, rfl⟩, q.dt w (by rw [hs.length]; exact .int _)⟩
      · exact ⟨_, vs.length, rfl, .inr ⟨vs, hq, rfl⟩, q.dt w (by rw [hs.length]; exact .int _)⟩
    · cases e
/-! ### abs, int -/
def absS (_ : MS) (s : SV) : Option R := match s with
  | .dt (.int i) => some (.sv (.dt (.int (if i < 0 then -i else i))))
  | _ => none
theorem calld_abs {K : PySem.W.Frag} : CallD K (fun xs H Q => ∃ i, xs = [.int i] ∧ Q (.int (if i < 0 then -i else i)) H) (g1 absS) := CallD.one fun Hk H M ls v s z Q w r e q => by
  unfold absS at e
  split at e
  · cases e
    have := Rp.int_inv r
    subst this
    exact ⟨_, rfl, q.dt w (.int _)⟩
  · cases e
def intS (_ : MS) (s : SV) : Option R := match s with
  | .dt (.int i) => some (.sv (.dt (.int i)))
  | .dt (.bl k) => some (.sv (.dt (.int (if k then 1 else 0))))
  | _ => none
theorem calld_int {K : PySem.W.Frag} : CallD K (fun xs H Q => (∃ i, xs = [.int i] ∧ Q (.int i) H) ∨ ∃ k, xs = [.bl k] ∧ Q (.int (if k then 1 else 0)) H) (g1 intS) := CallD.one fun Hk H M ls v s z Q w r e q => by
  unfold intS at e
  split at e
  · cases e
    have := Rp.int_inv r
    subst this
    exact .inl ⟨_, rfl, q.dt w (.int _)⟩
  · cases e
    have := Rp.bl_inv r
    subst this
    exact .inr ⟨_, rfl, q.dt w (.int _)⟩
  · cases e
/-! ### all, any, sum -/
def dBools : List D → Option (List Bool)
  | [] => some []
  | .bl b :: r => match dBools r with
    | some bs => some (b :: bs)
    | none => none
  | _ => none
theorem dBools_ok {K : PySem.W.Frag} {H : Hp} : ∀ {vs : List V} {ds : List D} {bs : List Bool}, RpA K H vs ds → dBools ds = some bs → vs = bs.map V.bl
  | _, _, _, .nil, e => by cases e; rfl
  | _, _, _, .cons (d := d) (ds := ds) r t, e => by
    cases d with
    | bl b =>
      unfold dBools at e
      cases h : dBools ds with
      | none => rw [h] at e; cases e
      | some bs =>
        rw [h] at e
        cases e
        rw [Rp.bl_inv r, dBools_ok t h]
        rfl
    | _ => cases e
def allS (M : MS) (s : SV) : Option R := match listD M s with
  | some ds => match dBools ds with
    | some bs => rB (bs.all id)
    | none => none
  | none => none
theorem calld_all {K : PySem.W.Frag} : CallD K (rAll K) (g1 allS) := CallD.one fun Hk H M ls v s z Q w r e q => by
  unfold allS at e
  split at e
  · rename_i ds hd
    split at e
    · rename_i bs hb
      cases e
      obtain ⟨a, vs, rfl, hq, ra⟩ := listD_ok w r hd
      have := dBools_ok ra hb
      subst this
      exact ⟨a, bs, rfl, SqL.of hq, q.dt w (.bl _)⟩
    · cases e
  · cases e
def dInts : List D → Option (List Int)
  | [] => some []
  | .int b :: r => match dInts r with
    | some bs => some (b :: bs)
    | none => none
  | _ => none
theorem dInts_ok {K : PySem.W.Frag} {H : Hp} : ∀ {vs : List V} {ds : List D} {bs : List Int}, RpA K H vs ds → dInts ds = some bs → vs = bs.map V.int
  | _, _, _, .nil, e => by cases e; rfl
  | _, _, _, .cons (d := d) (ds := ds) r t, e => by
    cases d with
    | int b =>
      unfold dInts at e
      cases h : dInts ds with
      | none => rw [h] at e; cases e
      | some bs =>
        rw [h] at e
        cases e
        rw [Rp.int_inv r, dInts_ok t h]
        rfl
    | _ => cases e
def sumS (M : MS) (s : SV) : Option R := match listD M s with
  | some ds => match dInts ds with
    | some bs => some (.sv (.dt (.int bs.sum)))
    | none => none
  | none => none
theorem calld_sum {K : PySem.W.Frag} : CallD K (rSum K) (g1 sumS) := CallD.one fun Hk H M ls v s z Q w r e q => by
  unfold sumS at e
  split at e
  · rename_i ds hd
    split at e
    · rename_i bs hb
      cases e
      obtain ⟨a, vs, rfl, hq, ra⟩ := listD_ok w r hd
      have := dInts_ok ra hb
      subst this
      exact ⟨a, bs, rfl, SqL.of hq, q.dt w (.int _)⟩
    · cases e
  · cases e
def dStrs : List D → Option (List Str)
  | [] => some []
  | .str b :: r => match dStrs r with
    | some bs => some (b :: bs)
    | none => none
  | _ => none
theorem dStrs_ok {K : PySem.W.Frag} {H : Hp} : ∀ {vs : List V} {ds : List D} {bs : List Str}, RpA K H vs ds → dStrs ds = some bs → vs = bs.map V.str
  | _, _, _, .nil, e => by cases e; rfl
  | _, _, _, .cons (d := d) (ds := ds) r t, e => by
    cases d with
    | str b =>
      unfold dStrs at e
      cases h : dStrs ds with
      | none => rw [h] at e; cases e
      | some bs =>
        rw [h] at e
        cases e
        rw [Rp.str_inv r, dStrs_ok t h]
        rfl
    | _ => cases e
/-! ### list, tuple -/
def listS (M : MS) (s : SV) : Option R := match itemsD M s with
  | some ds => some (.fr ds)
  | none => none
theorem calld_list {K : PySem.W.Frag} : CallD K (fun xs H Q => ∃ p ys, xs = [.ref p] ∧ (SqL K H p ys ∨ SqT K H p ys) ∧ ∀ l, H l = none → Q (.ref l) (upd H l (.lst ys))) (g1 listS) := CallD.one fun Hk H M ls v s z Q w r e q => by
  unfold listS at e
  split at e
  · rename_i ds hd
    cases e
    obtain ⟨a, vs, rfl, hq, ra⟩ := itemsD_ok w r hd
    exact ⟨a, vs, rfl, hq, fun l hl => q.newL w hl ra⟩
  · cases e
def tupleS (M : MS) (s : SV) : Option R := match s with
  | .dt (.tup ds) => some (.sv (.dt (.tup ds)))
  | s => match listD M s with
    | some ds => some (.sv (.dt (.tup ds)))
    | none => none
theorem calld_tuple {K : PySem.W.Frag} : CallD K (fun xs H Q => ∃ p ys, xs = [.ref p] ∧ ((SqL K H p ys ∧ ∀ l, H l = none → Q (.ref l) (upd H l (.tup ys))) ∨ (SqT K H p ys ∧ Q (.ref p) H))) (g1 tupleS) := CallD.one fun Hk H M ls v s z Q w r e q => by
  unfold tupleS at e
  split at e
  · cases e
    cases r with
    | tup h a => exact ⟨_, _, rfl, .inr ⟨same_t w.sub h, q.dt w (.tup h a)⟩⟩
  · split at e
    · rename_i ds hd
      cases e
      obtain ⟨a, vs, rfl, hq, ra⟩ := listD_ok w r hd
      exact ⟨a, vs, rfl, .inl ⟨SqL.of hq, fun l hl => q.newT w hl ra⟩⟩
    · cases e
/-! ### isinstance -/
def tyS (M : MS) : SV → Option String
  | .dt .non => some "NoneType"
  | .dt (.bl _) => some "bool"
  | .dt (.int _) => some "int"
  | .dt (.str _) => some "str"
  | .dt (.lst _) => some "list"
  | .dt (.tup _) => some "tuple"
  | .dt (.dct _ _) => some "dict"
  | .mu k => match M[k]? with
    | some (.l _) => some "list"
    | some (.d _ _) => some "dict"
    | _ => none
  | _ => none
theorem tyS_ok {K : PySem.W.Frag} {Hk H : Hp} {M : MS} {ls : List Addr} {v : V} {s : SV} {T : String} (w : World K Hk H M ls) (r : SVr K Hk ls ls.length v s) (e : tyS M s = some T) : TyX K H v (.type T) := by
  unfold tyS at e
  split at e
  · cases e; cases r; exact .base .non
  · cases e; cases r; exact .base (.bl _)
  · cases e; cases r; exact .base (.int _)
  · cases e; cases r; exact .base (.str _)
  · cases e
    cases r with
    | lst h a => exact .base (.lst (w.sub _ _ h))
  · cases e
    cases r with
    | tup h a =>
      rcases same_t w.sub h with (h | ⟨o, h⟩) | ⟨o, its, n, hk, hc, _⟩
      · exact .base (.tup h)
      · exact .fTuple h
      · exact .kTuple hk hc
  · cases e
    cases r with
    | dct h _ _ _ => exact .base (.dK (w.sub _ _ h))
  · rename_i k
    obtain ⟨_, l, hl, rfl⟩ := r
    split at e
    · rename_i xs hM
      cases e
      obtain ⟨l', hl', vs, h, _⟩ := w.ms k _ hM
      rw [hl] at hl'; cases hl'
      exact .base (.lst h)
    · rename_i ks xs hM
      cases e
      obtain ⟨l', hl', vs, h, _⟩ := w.ms k _ hM
      rw [hl] at hl'; cases hl'
      exact .base (.dK h)
    · cases e
  · cases e
def tysN : List String := "NoneType" :: tysB
def isi1 (a T : String) : Bool := a == T || (a == "bool" && T == "int")
theorem kit_all : ∀ a ∈ tysN, ∀ T ∈ tysB, kitB a T = some (isi1 a T) := by decide +kernel
theorem tyS_mem {M : MS} {s : SV} {T : String} (e : tyS M s = some T) : T ∈ tysN := by
  unfold tyS at e
  split at e <;> first | (cases e; decide) | cases e | skip
  split at e <;> first | (cases e; decide) | cases e
def isiS (T : String) (M : MS) (s : SV) : Option Bool := match s with
  | .dt (.obj _) => some false
  | s => match tyS M s with
    | some a => some (isi1 a T)
    | none => none
theorem isiS_ok {K : PySem.W.Frag} {Hk H : Hp} {M : MS} {ls : List Addr} {v : V} {s : SV} {T : String} {b : Bool} (hT : T ∈ tysB) (w : World K Hk H M ls) (r : SVr K Hk ls ls.length v s) (e : isiS T M s = some b) : ∃ t, TyX K H v t ∧ PySem.W.kitOne K t (.type T) = some b := by
  unfold isiS at e
  split at e
  · cases e
    cases r with
    | obj h c => exact ⟨_, .base (.ins (w.sub _ _ h) c.cl c.ha c.hn c.htk c.hm), c.no T hT⟩
  · split at e
    · rename_i a ha
      cases e
      exact ⟨_, tyS_ok w r ha, kit_ty (kit_all a (tyS_mem ha) T hT)⟩
    · cases e
theorem isiS_ok2 {K : PySem.W.Frag} {Hk H : Hp} {M : MS} {ls : List Addr} {v : V} {s : SV} {T U : String} {b c : Bool} (hT : T ∈ tysB) (hU : U ∈ tysB) (w : World K Hk H M ls) (r : SVr K Hk ls ls.length v s) (e : isiS T M s = some b) (e2 : isiS U M s = some c) :
    ∃ t, TyX K H v t ∧ PySem.W.kitOne K t (.type T) = some b ∧ PySem.W.kitOne K t (.type U) = some c := by
  unfold isiS at e e2
  split at e
  · cases e
    cases e2
    cases r with
    | obj h c => exact ⟨_, .base (.ins (w.sub _ _ h) c.cl c.ha c.hn c.htk c.hm), c.no T hT, c.no U hU⟩
  · split at e
    · rename_i a ha
      simp only [ha] at e2
      cases e
      cases e2
      exact ⟨_, tyS_ok w r ha, kit_ty (kit_all a (tyS_mem ha) T hT), kit_ty (kit_all a (tyS_mem ha) U hU)⟩
    · cases e
def eIsi (T : String) (m : EM R) : EM R := (fz m).seq fun s => fun _ M => match isiS T M s with
  | some b => some (.sv (.dt (.bl b)), M)
  | none => none
def eIsi2 (T U : String) (m : EM R) : EM R := (fz m).seq fun s => fun _ M => match isiS T M s, isiS U M s with
  | some b, some c => some (.sv (.dt (.bl (b || c))), M)
  | _, _ => none
section
variable {X : Cx} {e : Expr} {m : EM R} {p p1 p2 p3 pos : Pos} {T U : String} {t u : Str}
theorem pm_isi (hT : T ∈ tysB) (hg : Gl X "isinstance") (hm : X.mg "isinstance" = none) (hgt : Gl X t) (hmt : X.mg t = none) (hvt : bootBuiltins t = some (.type T)) (h : PM X e m) (hnt : t ≠ "__name__" := by decide) (hdt : (t == ("__debug__" : Str)) = false := by decide)
    (he : starEach (e :: [.Name t p1]) X.env = (false, eval e X.env) :: starEach [.Name t p1] X.env := by rfl) (hpl : (backTo pos (starEach [.Name t p1] X.env)).any (·.1) = false := by rfl) (hs1 : starEach (.Name t p1 :: []) X.env = (false, eval (.Name t p1) X.env) :: starEach [] X.env := by rfl) :
    PM X (.Call (.Name "isinstance" p) [e, .Name t p1] [] pos) (eIsi T m) := PE.imp (pe_callB call_isi hg hm PyProof.Rows.boot_isinstance (pa_cons (PM.v h) (pa_cons (pe_bltn (v := .ty T) hgt hmt hvt rfl hnt hdt) pa_nil hs1) he) (by decide) (by decide) he hpl) fun σ H Q ⟨Hk, ls, ρ, M, r, M', w, en, hm, q⟩ => by
  obtain ⟨s, M1, h1, h2⟩ := seq_some hm
  refine ⟨Hk, ls, ρ, M, s, M1, w, en, h1, fun v Hk1 H1 w1 x1 r1 => ?_⟩
  split at h2
  · rename_i b hb
    cases h2
    obtain ⟨ty, h3, h4⟩ := isiS_ok hT w1 r1 hb
    exact ⟨v, .ty T, ty, .type T, b, rfl, .ty T, h3, h4, q _ Hk1 H1 w1 x1 (Rp.bl _)⟩
  · cases h2
theorem pm_isi2 {kk : Nat} (hT : T ∈ tysB) (hU : U ∈ tysB) (hg : Gl X "isinstance") (hm : X.mg "isinstance" = none) (hgt : Gl X t) (hmt : X.mg t = none) (hvt : bootBuiltins t = some (.type T)) (hgu : Gl X u) (hmu : X.mg u = none) (hvu : bootBuiltins u = some (.type U)) (h : PM X e m)
    (hnt : t ≠ "__name__" := by decide) (hdt : (t == ("__debug__" : Str)) = false := by decide) (hnu : u ≠ "__name__" := by decide) (hdu : (u == ("__debug__" : Str)) = false := by decide)
    (he : starEach (e :: [.Tuple [.Name t p1, .Name u p2] kk p3]) X.env = (false, eval e X.env) :: starEach [.Tuple [.Name t p1, .Name u p2] kk p3] X.env := by rfl) (hpl : (backTo pos (starEach [.Tuple [.Name t p1, .Name u p2] kk p3] X.env)).any (·.1) = false := by rfl)
    (hs1 : starEach (.Tuple [.Name t p1, .Name u p2] kk p3 :: []) X.env = (false, eval (.Tuple [.Name t p1, .Name u p2] kk p3) X.env) :: starEach [] X.env := by rfl) (hs2 : starEach (.Name t p1 :: [.Name u p2]) X.env = (false, eval (.Name t p1) X.env) :: starEach [.Name u p2] X.env := by rfl) (hs3 : starEach (.Name u p2 :: []) X.env = (false, eval (.Name u p2) X.env) :: starEach [] X.env := by rfl) :
    PM X (.Call (.Name "isinstance" p) [e, .Tuple [.Name t p1, .Name u p2] kk p3] [] pos) (eIsi2 T U m) := PE.imp (pe_callB call_isiT hg hm PyProof.Rows.boot_isinstance (pa_cons (PM.v h) (pa_cons (pe_tup (pa_cons (pe_bltn (v := .ty T) hgt hmt hvt rfl hnt hdt) (pa_cons (pe_bltn (v := .ty U) hgu hmu hvu rfl hnu hdu) pa_nil hs3) hs2)) pa_nil hs1) he) (by decide) (by decide) he hpl) fun σ H Q ⟨Hk, ls, ρ, M, r, M', w, en, hm, q⟩ => by
  obtain ⟨s, M1, h1, h2⟩ := seq_some hm
  refine ⟨Hk, ls, ρ, M, s, M1, w, en, h1, fun v Hk1 H1 w1 x1 r1 => ⟨by show 2 ≤ sizeLine; decide, fun pp hp => ?_⟩⟩
  split at h2
  · rename_i b c hb hc
    cases h2
    have w2 := w1.upd_new (o := .tup [.ty T, .ty U]) hp
    obtain ⟨ty, h3, h4, h5⟩ := isiS_ok2 hT hU w2 r1 hb hc
    refine ⟨v, pp, [.ty T, .ty U], ty, [.type T, .type U], b || c, rfl, upd_same, .cons (.ty T) (.cons (.ty U) .nil), h3, ?_, q _ Hk1 _ w2 (x1.trans (Ext.upd_new hp)) (Rp.bl _)⟩
    refine kitAny_cons h4 (fun hb => ?_) fun hb => by rw [hb]; rfl
    refine kitAny_cons h5 (fun hc => ?_) fun hc => by rw [hc]; exact Bool.or_true _
    rw [hb, hc]
    rfl
  · cases h2
end
end Dy

set_option Elab.async false
set_option linter.all false
set_option maxRecDepth 100000
set_option maxHeartbeats 4000000
/-! Layer Dy, part 10: methods, stores, repr, dict displays. -/
namespace Dy
open PySem L2 PySem.Spec PyProof.Rows

/-! ### methods -/
def MtD (K : PySem.W.Frag) (r : V → List V → Hp → VK → Prop) (g : MS → SV → List SV → Option (R × MS)) : Prop := ∀ (Hk H : Hp) (M : MS) (ls : List Addr) (v : V) (s : SV) (vs : List V) (ss : List SV) (z : R) (M' : MS) (Q : VK), World K Hk H M ls → SVr K Hk ls ls.length v s → SVs K Hk ls ls.length vs ss → g M s ss = some (z, M') → Res K ls Hk H z M' Q → r v vs H Q
/-- the receiver's type -/
def isTyS (T : String) (M : MS) (s : SV) : Bool := match s with
  | .dt (.str _) => T == "str"
  | .dt (.lst _) => T == "list"
  | .dt (.dct _ _) => T == "dict"
  | .mu k => match M[k]? with
    | some (.l _) => T == "list"
    | some (.d _ _) => T == "dict"
    | _ => false
  | _ => false
theorem isTyS_ok {K : PySem.W.Frag} {Hk H : Hp} {M : MS} {ls : List Addr} {v : V} {s : SV} {T : String} (w : World K Hk H M ls) (r : SVr K Hk ls ls.length v s) (e : isTyS T M s = true) : tyV K T v H := by
  unfold isTyS at e
  split at e
  · rw [Rp.str_inv r]; exact beq_iff_eq.mp e
  · cases r with
    | lst h a => exact .inl ⟨beq_iff_eq.mp e, _, SqL.of (w.sub _ _ h)⟩
  · cases r with
    | dct h _ _ _ => exact .inr (.inr (.inl ⟨beq_iff_eq.mp e, .inl ⟨_, w.sub _ _ h⟩⟩))
  · rename_i k
    obtain ⟨_, l, hl, rfl⟩ := r
    split at e
    · rename_i xs hM
      obtain ⟨l', hl', vs, h, _⟩ := w.ms k _ hM
      rw [hl] at hl'; cases hl'
      exact .inl ⟨beq_iff_eq.mp e, _, SqL.of h⟩
    · rename_i ks xs hM
      obtain ⟨l', hl', vs, h, _⟩ := w.ms k _ hM
      rw [hl] at hl'; cases hl'
      exact .inr (.inr (.inl ⟨beq_iff_eq.mp e, .inl ⟨_, h⟩⟩))
    · cases e
  · cases e
def eMt (T : String) (g : MS → SV → List SV → Option (R × MS)) (m : EM R) (ms : EM (List SV)) : EM R := (fz m).seq fun s => fun ρ M => if isTyS T M s = true then ms.seq (fun ss => fun _ M' => g M' s ss) ρ M else none
section
variable {X : Cx} {o e : Expr} {es : List Expr} {m : EM R} {ms : EM (List SV)} {name : Str} {apos cpos pos : Pos} {T id : String} {r : V → List V → Hp → VK → Prop} {g : MS → SV → List SV → Option (R × MS)}
theorem emt_go (hd : MtD X.K r g) : ∀ σ H Q, tM X.K (eMt T g m ms) σ H Q → tBM X.K T r (tV X.K (fz m)) (tA X.K ms) σ H Q := fun σ H Q ⟨Hk, ls, ρ, M, z, M', w, en, hm, q⟩ => by
  obtain ⟨s, M1, h1, h2⟩ := seq_some hm
  refine ⟨Hk, ls, ρ, M, s, M1, w, en, h1, fun v Hk1 H1 w1 x1 r1 => ?_⟩
  split at h2
  · rename_i ht
    refine ⟨isTyS_ok w1 r1 ht, ?_⟩
    obtain ⟨ss, M2, h3, h4⟩ := seq_some h2
    refine ⟨Hk1, ls, ρ, M1, ss, M2, w1, en.mono x1.kk, h3, fun vs Hk2 H2 w2 x2 r2 => ?_⟩
    exact hd Hk2 H2 M2 ls v s vs ss z M' Q w2 (r1.mono x2.kk) r2 h4 (q.back (x1.trans x2))
  · cases h2
theorem emt0_go (hd : MtD X.K r g) : ∀ σ H Q, tM X.K (eMt T g m eNil) σ H Q → tBM0 X.K T r (tV X.K (fz m)) σ H Q := fun σ H Q ⟨Hk, ls, ρ, M, z, M', w, en, hm, q⟩ => by
  obtain ⟨s, M1, h1, h2⟩ := seq_some hm
  refine ⟨Hk, ls, ρ, M, s, M1, w, en, h1, fun v Hk1 H1 w1 x1 r1 => ?_⟩
  split at h2
  · rename_i ht
    refine ⟨isTyS_ok w1 r1 ht, ?_⟩
    obtain ⟨ss, M2, h3, h4⟩ := seq_some h2
    cases h3
    exact hd Hk1 H1 _ ls v s [] [] z M' Q w1 r1 .nil h4 (q.back x1)
  · cases h2
theorem pm_mt (pa : PlainAttrs T) (slot : Slot T name id) (hty : typeOf (.builtin id) = pure (.type "method_descriptor")) (hm : MtR X id r) (hd : MtD X.K r g) (ho : PM X o m) (ha : PAm X (e :: es) ms)
    (hbase : attributeBase o name X.env (eval o X.env) = eval o X.env := by rfl)
    (hfew : ((backTo cpos (starEach (e :: es) X.env)).all (fun x => !x.1) && (backToKw cpos (keywordEach [] X.env)).all (fun x => x.1.isSome) && decide ((e :: es).length + ([] : List Keyword).length + (if ([] : List Keyword).isEmpty then 0 else 1) < 30)) = true := by rfl)
    (hline : (apos.endLine == cpos.line) = true := by rfl) (hs : starEach (e :: es) X.env = (false, eval e X.env) :: starEach es X.env := by rfl) (hplain : (backTo cpos (starEach es X.env)).any (·.1) = false := by rfl) :
    PM X (.Call (.Attribute o name apos) (e :: es) [] cpos) (eMt T g m ms) := PE.imp (pe_bm pa slot hty hm (PM.v ho) ha hbase hfew hline hs hplain) (emt_go hd)
theorem pm_mt0 (pa : PlainAttrs T) (slot : Slot T name id) (hty : typeOf (.builtin id) = pure (.type "method_descriptor")) (hm : MtR X id r) (hd : MtD X.K r g) (ho : PM X o m)
    (hbase : attributeBase o name X.env (eval o X.env) = eval o X.env := by rfl) (hline : (apos.endLine == cpos.line) = true := by rfl) : PM X (.Call (.Attribute o name apos) [] [] cpos) (eMt T g m eNil) := PE.imp (pe_bm0 pa slot hty hm (PM.v ho) hbase hline) (emt0_go hd)
end

/-! ### a list that has a handle is changed -/
section
variable {K : PySem.W.Frag} {Hk H : Hp} {M : MS} {ls : List Addr}
theorem World.setM {k : Nat} {l : Addr} {o : HO} {x x' : MO} (w : World K Hk H M ls) (hl : ls[k]? = some l) (hM : M[k]? = some x) (hn : MOr K Hk (upd H l o) ls k l x') : World K Hk (upd H l o) (M.set k x') ls := by
  have hmem : l ∈ ls := List.mem_of_getElem? hl
  have hkl : k < M.length := (List.getElem?_eq_some_iff.mp hM).1
  refine ⟨fun b u e => ?_, by rw [List.length_set]; exact w.len, w.nd, w.dj, fun j y e => ?_⟩
  · have : b ≠ l := fun z => by rw [z, w.dj l hmem] at e; cases e
    rw [upd_ne this]
    exact w.sub b u e
  · by_cases hj : k = j
    · subst hj
      rw [List.getElem?_set_self hkl] at e
      cases e
      exact ⟨l, hl, hn⟩
    · rw [List.getElem?_set_ne hj] at e
      obtain ⟨l', a, b⟩ := w.ms j y e
      have nl : l' ≠ l := fun z => by
        subst z
        have h1 := List.getElem?_eq_some_iff.mp hl
        have h2 := List.getElem?_eq_some_iff.mp a
        exact hj ((List.getElem_inj w.nd).mp (h1.2.trans h2.2.symm))
      refine ⟨l', a, ?_⟩
      cases y with
      | l xs => obtain ⟨vs, p, q⟩ := b; exact ⟨vs, by rw [upd_ne nl]; exact p, q⟩
      | d ks xs => obtain ⟨vs, p, q, r⟩ := b; exact ⟨vs, by rw [upd_ne nl]; exact p, q, r⟩
      | i C ns xs => obtain ⟨dx, vs, p, q, r⟩ := b; exact ⟨dx, vs, by rw [upd_ne nl]; exact p, q, r⟩
      | o C ns xs => obtain ⟨dx, vs, p, q, r⟩ := b; exact ⟨dx, vs, by rw [upd_ne nl]; exact p, q, r⟩
      | t ks xs => obtain ⟨vs, p, q, r⟩ := b; exact ⟨vs, by rw [upd_ne nl]; exact p, q, r⟩
theorem Ext.setM {l : Addr} {o : HO} (hl : l ∈ ls) : Ext ls Hk H Hk (upd H l o) where
  kk := fun _ _ e => e
  fr := fun a u e hn => by
    have : a ≠ l := fun z => hn (z ▸ hl)
    rw [upd_ne this]
    exact e
  gr := fun a e => .inl e
  st := fun a e => by
    by_cases z : a = l
    · subst z; rw [upd_same]; simp
    · rw [upd_ne z]; exact e
/-- the list behind a handle -/
def muL (M : MS) : SV → Option (Nat × List SV)
  | .mu k => match M[k]? with
    | some (.l xs) => some (k, xs)
    | _ => none
  | _ => none
theorem muL_ok {v : V} {s : SV} {k : Nat} {xs : List SV} (w : World K Hk H M ls) (r : SVr K Hk ls ls.length v s) (e : muL M s = some (k, xs)) : ∃ l vs, v = .ref l ∧ ls[k]? = some l ∧ M[k]? = some (.l xs) ∧ H l = some (.lst vs) ∧ SVs K Hk ls k vs xs := by
  unfold muL at e
  split at e
  · rename_i j
    split at e
    · rename_i ys hM
      cases e
      obtain ⟨_, l, hl, rfl⟩ := r
      obtain ⟨l', hl', vs, h, hs⟩ := w.ms _ _ hM
      rw [hl] at hl'; cases hl'
      exact ⟨l, vs, rfl, hl, hM, h, hs⟩
    · cases e
  · cases e
end
def gAppend (M : MS) (s : SV) (ss : List SV) : Option (R × MS) := match muL M s, ss with
  | some (k, xs), [.dt d] => if xs.length < sizeLine then some (.sv (.dt .non), M.set k (.l (xs ++ [.dt d]))) else none
  | _, _ => none
theorem mtd_append {K : PySem.W.Frag} : MtD K rAppend gAppend := by
  intro Hk H M ls v s vs ss z M' Q w rv rs e q
  unfold gAppend at e
  split at e
  · rename_i k xs d hm
    split at e
    · rename_i hz
      cases e
      obtain ⟨l, us, rfl, hl, hM, hH, hs⟩ := muL_ok w rv hm
      cases rs with
      | cons r1 t =>
        cases t
        refine ⟨l, us, _, rfl, rfl, hH, by rw [hs.length]; exact hz, q .non Hk _ (w.setM hl hM ⟨_, upd_same, hs.append (.cons (show SVr K Hk ls k _ (.dt d) from r1) .nil)⟩) (Ext.setM (List.mem_of_getElem? hl)) Rp.non⟩
    · cases e
  · cases e
def gPop (M : MS) (s : SV) (ss : List SV) : Option (R × MS) := match muL M s, ss with
  | some (k, xs), [] => match xs[xs.length - 1]? with
    | some (.dt d) => some (.sv (.dt d), M.set k (.l xs.dropLast))
    | _ => none
  | _, _ => none
theorem mtd_pop {K : PySem.W.Frag} : MtD K rPop gPop := by
  intro Hk H M ls v s vs ss z M' Q w rv rs e q
  unfold gPop at e
  split at e
  · rename_i k xs hm
    split at e
    · rename_i d hd
      cases e
      obtain ⟨l, us, rfl, hl, hM, hH, hs⟩ := muL_ok w rv hm
      cases rs
      obtain ⟨u, hu, ru⟩ := hs.get hd
      refine ⟨l, us, u, rfl, rfl, hH, by rw [hs.length]; exact hu, q u Hk _ (w.setM hl hM ⟨_, upd_same, hs.dropLast⟩) (Ext.setM (List.mem_of_getElem? hl)) ru⟩
    · cases e
  · cases e
def gPopAt (M : MS) (s : SV) (ss : List SV) : Option (R × MS) := match muL M s, ss with
  | some (k, xs), [.dt (.int i)] => if -(2 ^ 63) ≤ i ∧ i < 2 ^ 63 then match seqIndex? i xs.length with
      | some j => match xs[j]? with
        | some (.dt d) => some (.sv (.dt d), M.set k (.l (xs.eraseIdx j)))
        | _ => none
      | none => none
    else none
  | _, _ => none
theorem mtd_popAt {K : PySem.W.Frag} : MtD K rPopAt gPopAt := by
  intro Hk H M ls v s vs ss z M' Q w rv rs e q
  unfold gPopAt at e
  split at e
  · rename_i k xs i hm
    split at e
    · rename_i hz
      split at e
      · rename_i j hj
        split at e
        · rename_i d hd
          cases e
          obtain ⟨l, us, rfl, hl, hM, hH, hs⟩ := muL_ok w rv hm
          cases rs with
          | cons r1 t =>
            cases t
            have := Rp.int_inv r1
            subst this
            obtain ⟨u, hu, ru⟩ := hs.get hd
            refine ⟨l, us, i, j, u, rfl, rfl, hH, hz.1, hz.2, by rw [hs.length]; exact hj, hu, q u Hk _ (w.setM hl hM ⟨_, upd_same, hs.eraseIdx j⟩) (Ext.setM (List.mem_of_getElem? hl)) ru⟩
        · cases e
      · cases e
    · cases e
  · cases e
def gClear (M : MS) (s : SV) (ss : List SV) : Option (R × MS) := match muL M s, ss with
  | some (k, _), [] => some (.sv (.dt .non), M.set k (.l []))
  | _, _ => none
theorem mtd_clear {K : PySem.W.Frag} : MtD K rClear gClear := by
  intro Hk H M ls v s vs ss z M' Q w rv rs e q
  unfold gClear at e
  split at e
  · rename_i k xs hm
    cases e
    obtain ⟨l, us, rfl, hl, hM, hH, hs⟩ := muL_ok w rv hm
    cases rs
    exact ⟨l, us, rfl, rfl, hH, q .non Hk _ (w.setM hl hM ⟨_, upd_same, .nil⟩) (Ext.setM (List.mem_of_getElem? hl)) Rp.non⟩
  · cases e
def gExtend (M : MS) (s : SV) (ss : List SV) : Option (R × MS) := match muL M s, ss with
  | some (k, xs), [t] => match listD M t with
    | some ds => if xs.length + ds.length ≤ sizeLine then some (.sv (.dt .non), M.set k (.l (xs ++ ds.map .dt))) else none
    | none => none
  | _, _ => none
theorem mtd_extend {K : PySem.W.Frag} : MtD K rExtend gExtend := by
  intro Hk H M ls v s vs ss z M' Q w rv rs e q
  unfold gExtend at e
  split at e
  · rename_i k xs t hm
    split at e
    · rename_i ds hd
      split at e
      · rename_i hz
        cases e
        obtain ⟨l, us, rfl, hl, hM, hH, hs⟩ := muL_ok w rv hm
        cases rs with
        | cons r1 t0 =>
          cases t0
          obtain ⟨b, ws, rfl, hb, ra⟩ := listD_ok w r1 hd
          refine ⟨l, b, us, ws, rfl, rfl, hH, hb, by rw [hs.length, ra.length]; exact hz, q .non Hk _ (w.setM hl hM ⟨_, upd_same, hs.append (SVs.ofA ra)⟩) (Ext.setM (List.mem_of_getElem? hl)) Rp.non⟩
      · cases e
    · cases e
  · cases e
theorem SVs.take {K : PySem.W.Frag} {Hk : Hp} {ls : List Addr} {n : Nat} : ∀ {vs : List V} {ds : List SV} (i : Nat), SVs K Hk ls n vs ds → SVs K Hk ls n (vs.take i) (ds.take i)
  | _, _, 0, _ => .nil
  | _, _, _ + 1, .nil => .nil
  | _, _, n + 1, .cons r t => .cons r (SVs.take n t)
theorem SVs.drop {K : PySem.W.Frag} {Hk : Hp} {ls : List Addr} {n : Nat} : ∀ {vs : List V} {ds : List SV} (i : Nat), SVs K Hk ls n vs ds → SVs K Hk ls n (vs.drop i) (ds.drop i)
  | _, _, 0, r => r
  | _, _, _ + 1, .nil => .nil
  | _, _, n + 1, .cons _ t => SVs.drop n t
def gInsert (M : MS) (s : SV) (ss : List SV) : Option (R × MS) := match muL M s, ss with
  | some (k, xs), [.dt (.int i), .dt d] => if xs.length < sizeLine ∧ 0 ≤ i ∧ i < 2 ^ 63 then some (.sv (.dt .non), M.set k (.l (xs.take i.toNat ++ [.dt d] ++ xs.drop i.toNat))) else none
  | _, _ => none
theorem mtd_insert {K : PySem.W.Frag} : MtD K (fun x vs H Q => ∃ (l : Addr) (xs : List V) (i : Int) (y : V), x = .ref l ∧ vs = [.int i, y] ∧ H l = some (.lst xs) ∧ xs.length < sizeLine ∧ 0 ≤ i ∧ i < 2 ^ 63 ∧ Q .non (upd H l (.lst (xs.take i.toNat ++ [y] ++ xs.drop i.toNat)))) gInsert := by
  intro Hk H M ls v s vs ss z M' Q w rv rs e q
  unfold gInsert at e
  split at e
  · rename_i k xs i d hm
    split at e
    · rename_i hz
      cases e
      obtain ⟨l, us, rfl, hl, hM, hH, hs⟩ := muL_ok w rv hm
      cases rs with
      | cons r1 t =>
        cases t with
        | cons r2 t2 =>
          cases t2
          have := Rp.int_inv r1
          subst this
          refine ⟨l, us, i, _, rfl, rfl, hH, by rw [hs.length]; exact hz.1, hz.2.1, hz.2.2, q .non Hk _ (w.setM hl hM ⟨_, upd_same, ((hs.take _).append (.cons (show SVr K Hk ls k _ (.dt d) from r2) .nil)).append (hs.drop _)⟩) (Ext.setM (List.mem_of_getElem? hl)) Rp.non⟩
    · cases e
  · cases e
/-! ### texts -/
def gUpper (M : MS) (s : SV) (ss : List SV) : Option (R × MS) := match s, ss with
  | .dt (.str a), [] => if a.length ≤ 5592405 then some (.sv (.dt (.str (Txt.upper a))), M) else none
  | _, _ => none
theorem mtd_upper {K : PySem.W.Frag} : MtD K (fun x xs H Q => ∃ a, x = .str a ∧ xs = [] ∧ a.length ≤ 5592405 ∧ Q (.str (Txt.upper a)) H) gUpper := by
  intro Hk H M ls v s vs ss z M' Q w rv rs e q
  unfold gUpper at e
  split at e
  · split at e
    · rename_i hz
      cases e
      cases rs
      exact ⟨_, Rp.str_inv rv, rfl, hz, q.dt w (.str _)⟩
    · cases e
  · cases e
def gJoin (M : MS) (s : SV) (ss : List SV) : Option (R × MS) := match s, ss with
  | .dt (.str a), [t] => match itemsD M t with
    | some ds => match dStrs ds with
      | some ys => if (ys.map (·.length)).sum + ys.length * a.length ≤ 16777216 then some (.sv (.dt (.str (Txt.join a ys))), M) else none
      | none => none
    | none => none
  | _, _ => none
theorem mtd_join {K : PySem.W.Frag} : MtD K (fun x xs H Q => ∃ a p, ∃ ys : List Str, x = .str a ∧ xs = [.ref p] ∧ (SqL K H p (ys.map V.str) ∨ SqT K H p (ys.map V.str)) ∧ (ys.map (·.length)).sum + ys.length * a.length ≤ 16777216 ∧ Q (.str (Txt.join a ys)) H) gJoin := by
  intro Hk H M ls v s vs ss z M' Q w rv rs e q
  unfold gJoin at e
  split at e
  · split at e
    · rename_i ds hd
      split at e
      · rename_i ys hy
        split at e
        · rename_i hz
          cases e
          cases rs with
          | cons r1 t =>
            cases t
            obtain ⟨b, ws, rfl, hb, ra⟩ := itemsD_ok w r1 hd
            have := dStrs_ok ra hy
            subst this
            exact ⟨_, b, ys, Rp.str_inv rv, rfl, hb, hz, q.dt w (.str _)⟩
        · cases e
      · cases e
    · cases e
  · cases e

/-! ### o[i] = e, o[i] += e on a list that has a handle -/
def setAt (M : MS) (s t : SV) (d : SV) : Option MS := match muL M s, t, d with
  | some (k, xs), .dt (.int i), .dt d => match ixN xs.length i with
    | some j => some (M.set k (.l (xs.set j (.dt d))))
    | none => none
  | _, _, _ => none
theorem setAt_ok {K : PySem.W.Frag} {Hk H : Hp} {M M' : MS} {ls : List Addr} {o i v : V} {s t d : SV} {Q : Hp → Prop} (w : World K Hk H M ls) (ro : SVr K Hk ls ls.length o s) (ri : SVr K Hk ls ls.length i t) (rv : SVr K Hk ls ls.length v d) (e : setAt M s t d = some M')
    (q : ∀ H', World K Hk H' M' ls → Ext ls Hk H Hk H' → Q H') : rSetL o i v H Q := by
  unfold setAt at e
  split at e
  · rename_i k xs i' d' hm
    split at e
    · rename_i j hj
      cases e
      obtain ⟨l, us, rfl, hl, hM, hH, hs⟩ := muL_ok w ro hm
      have := Rp.int_inv ri
      subst this
      exact ⟨l, us, i', j, rfl, rfl, hH, by rw [hs.length]; exact hj, q _ (w.setM hl hM ⟨_, upd_same, hs.set (show SVr K Hk ls k v (.dt d') from rv) j⟩) (Ext.setM (List.mem_of_getElem? hl))⟩
    · cases e
  · cases e
def sPut (mo mi : EM R) (me : EM R) : SM := fun ρ M => match fz me ρ M with
  | some (d, M1) => match fz mo ρ M1 with
    | some (s, M2) => match fz mi ρ M2 with
      | some (t, M3) => match setAt M3 s t d with
        | some M4 => some (.nx ρ M4)
        | none => none
      | none => none
    | none => none
  | none => none
section
variable {X : Cx} {o i e tg : Expr} {mo mi me : EM R} {pos tpos : Pos}
theorem sput_go : ∀ E σ H, tS X.K (sPut mo mi me) E σ H → tAsg (tV X.K (fz me)) (L2.gSub (tV X.K (fz mo)) (tV X.K (fz mi)) rSetL) E σ H := fun E σ H ⟨Hk, ls, ρ, M, r, w, en, hm, q⟩ => by
  unfold sPut at hm
  split at hm
  · rename_i d M1 h1
    split at hm
    · rename_i s M2 h2
      split at hm
      · rename_i t M3 h3
        split at hm
        · rename_i M4 h4
          cases hm
          refine ⟨Hk, ls, ρ, M, d, M1, w, en, h1, fun v Hk1 H1 w1 x1 r1 => ?_⟩
          refine ⟨Hk1, ls, ρ, M1, s, M2, w1, en.mono x1.kk, h2, fun ov Hk2 H2 w2 x2 r2 => ?_⟩
          refine ⟨Hk2, ls, ρ, M2, t, M3, w2, en.mono (x1.trans x2).kk, h3, fun iv Hk3 H3 w3 x3 r3 => ?_⟩
          exact setAt_ok w3 (r2.mono x3.kk) r3 (r1.mono (x2.trans x3).kk) h4 fun H' w' x' => q σ Hk3 H' ls w' ((((x1.trans x2).trans x3).trans x').s) (en.mono ((x1.trans x2).trans x3).kk)
        · cases hm
      · cases hm
    · cases hm
  · cases hm
theorem psm_put (he : PM X e me) (ho : PM X o mo) (hi : PM X i mi) (ha : ∀ v, assign (.Subscript o i tpos) X.env v = (do
      let ov ← holding [v] (eval o X.env)
      let iv ← holding [v, ov] (eval i X.env)
      standAt tpos
      holding [v, ov, iv] (setItem ov iv v)
      release [v, ov, iv] []) := by intro _; rfl) (hs : swapsWithSole [.Subscript o i tpos] e pos.line X.env = pure false := by rfl) (hw : swappedStores [.Subscript o i tpos] e X.env = pure none := by rfl)
    (h1 : (assignEach [.Subscript o i tpos] X.env).map (·.2) = [assign (.Subscript o i tpos) X.env] := by rfl) : PSm X (.Assign [.Subscript o i tpos] e pos) (sPut mo mi me) :=
  PS.imp (ps_asg (PM.v he) (pg_sub (PM.v ho) (PM.v hi) set_list ha) hs hw h1) sput_go
theorem get_list : PGet X (rIxL X.K) := by
  intro pins s σ H o i ov iv Q I ro ri h
  obtain ⟨p, xs, k, v, rfl, rfl, hq, hv, q⟩ := h
  cases ro
  obtain ⟨t, rfl⟩ := ri
  obtain ⟨its, r, pl, hz⟩ := I.list hq
  obtain ⟨j, h1, h2, h3, h4, h5⟩ := atI_get hv
  obtain ⟨u, eu, ru⟩ := r.get h2
  have hl := r.length
  have hn := line63
  by_cases h0 : 0 ≤ k
  · have hj : k.toNat = j := by
      rw [seqIndex_of h0 h5] at h1
      exact Option.some.inj h1
    exact wpAny_getItem_list pl.isList h0 (by omega) (by rw [hj]; simpa using eu) ⟨v, H, I, ru, q⟩
  · have hj : (k + (its.toArray.size : Int)).toNat = j := by
      rw [seqIndex_neg (by omega) h4] at h1
      rw [List.size_toArray, ← hl]
      exact Option.some.inj h1
    exact wpAny_getItem_list_neg pl.isList (by omega) (by rw [List.size_toArray] <;> omega) (by omega) (by rw [hj]; simpa using eu) ⟨v, H, I, ru, q⟩
/-- o[i] op= e, ints -/
def sAugPut (f : Int → Int → Int) (mo mi me : EM R) : SM := fun ρ M => match fz mo ρ M with
  | some (s, M1) => match fz mi ρ M1 with
    | some (.dt (.int j), M2) => match listOf M2 s with
      | some xs => match atI xs j with
        | some (.dt (.int a)) => match fz me ρ M2 with
          | some (.dt (.int b), M3) => match setAt M3 s (.dt (.int j)) (.dt (.int (f a b))) with
            | some M4 => some (.nx ρ M4)
            | none => none
          | _ => none
        | _ => none
      | none => none
    | _ => none
  | none => none
theorem psm_augPut {op : Operator} {f : Int → Int → Int} (hp : PIp X op (ipI f)) (ho : PM X o mo) (hi : PM X i mi) (he : PM X e me)
    (ha : ∀ ov iv new, augStore i ov iv new = (do holding [new, ov, iv] (setItem ov iv new); release [new, ov, iv] []; pure .next) := by intros; rfl) : PSm X (.AugAssign (.Subscript o i tpos) op e pos) (sAugPut f mo mi me) :=
  PS.imp (ps_augS (PM.v ho) (PM.v hi) get_list (PM.v he) hp set_list ha) fun E σ H ⟨Hk, ls, ρ, M, r, w, en, hm, q⟩ => by
  unfold sAugPut at hm
  split at hm
  · rename_i s M1 h1
    split at hm
    · rename_i j M2 h2
      split at hm
      · rename_i xs hx
        split at hm
        · rename_i a hat
          split at hm
          · rename_i b M3 h3
            split at hm
            · rename_i M4 h4
              cases hm
              refine ⟨Hk, ls, ρ, M, s, M1, w, en, h1, fun ov Hk1 H1 w1 x1 r1 => ?_⟩
              refine ⟨Hk1, ls, ρ, M1, _, M2, w1, en.mono x1.kk, h2, fun iv Hk2 H2 w2 x2 r2 => ?_⟩
              obtain ⟨p, vs, rfl, hq, hss⟩ := listOf_ok w2 (r1.mono x2.kk) hx
              obtain ⟨v, hv, rv⟩ := hss.atI hat
              have := Rp.int_inv r2
              subst this
              have := Rp.int_inv rv
              subst this
              refine ⟨p, vs, j, _, rfl, rfl, SqL.of hq, hv, ?_⟩
              refine ⟨Hk2, ls, ρ, M2, _, M3, w2, en.mono (x1.trans x2).kk, h3, fun ev Hk3 H3 w3 x3 r3 => ?_⟩
              have := Rp.int_inv r3
              subst this
              refine ⟨a, b, rfl, rfl, ?_⟩
              exact setAt_ok (s := s) (t := .dt (.int j)) (d := .dt (.int (f a b))) w3 (r1.mono (x2.trans x3).kk) (Rp.int _) (Rp.int _) h4 fun H' w' x' => q σ Hk3 H' ls w' ((((x1.trans x2).trans x3).trans x').s) (en.mono ((x1.trans x2).trans x3).kk)
            · cases hm
          · cases hm
        · cases hm
      · cases hm
    · cases hm
  · cases hm
/-- x op= e, ints -/
def sAug (f : Int → Int → Int) (j : Nat) (me : EM R) : SM := fun ρ M => match ρ[j]? with
  | some (some (.dt (.int a))) => match fz me ρ M with
    | some (.dt (.int b), M1) => some (.nx (ρ.set j (some (.dt (.int (f a b))))) M1)
    | _ => none
  | _ => none
theorem psm_aug {op : Operator} {f : Int → Int → Int} {j : Nat} {x : Str} {pos' : Pos} (hN : X.N.Nodup) (hj : X.N[j]? = some x) (hx : Loc X.env.scope x) (he : PM X e me) (ho : PIp X op (ipI f)) (hf : X.fn x = true ∨ X.env.scope.names.lookup x = some .local := by first | exact .inl rfl | exact .inr rfl | assumption) :
    PSm X (.AugAssign (.Name x pos') op e pos) (sAug f j me) := PS.imp (ps_aug hN hj hx (PM.v he) ho hf) fun E σ H ⟨Hk, ls, ρ, M, r, w, en, hm, q⟩ => by
  unfold sAug at hm
  split at hm
  · rename_i a ha
    split at hm
    · rename_i b M1 h1
      cases hm
      obtain ⟨v, hv, rv⟩ := en.2 j _ ha
      have := Rp.int_inv rv
      subst this
      refine ⟨_, hv, Hk, ls, ρ, M, _, M1, w, en, h1, fun ev Hk1 H1 w1 x1 r1 => ?_⟩
      have := Rp.int_inv r1
      subst this
      exact ⟨a, b, rfl, rfl, q _ Hk1 H1 ls w1 x1.s ((en.mono x1.kk).set (Rp.int _))⟩
    · cases hm
  · cases hm
end
end Dy

set_option Elab.async false
set_option linter.all false
set_option maxRecDepth 100000
set_option maxHeartbeats 4000000
/-! Layer Dy, part 11: repr, dict displays, own classes, pairs of targets. -/
namespace Dy
open PySem L2 PySem.Spec PyProof.Rows

/-! ### repr -/
def kP : Key → PyData
  | .inl i => .int i
  | .inr x => .str x
mutual
/-- a datum as the library's data, dicts too -/
def toQ : D → Option PyData
  | .non => some .none
  | .bl b => some (.bool b)
  | .int i => some (.int i)
  | .str s => some (.str s)
  | .lst xs => match toQl xs with
    | some ps => some (.list ps)
    | none => none
  | .tup xs => match toQl xs with
    | some ps => some (.tuple ps)
    | none => none
  | .dct ks xs => match toQl xs with
    | some ps => some (.dict ((ks.map kP).zip ps))
    | none => none
  | _ => none
def toQl : List D → Option (List PyData)
  | [] => some []
  | d :: r => match toQ d, toQl r with
    | some p, some ps => some (p :: ps)
    | _, _ => none
end
theorem Pairs.reads {P : Program} {w : PySem.World} {h : Heap} : ∀ {es : List DictEntry} {vs : List (Key × Value)}, Pairs (mixKind P w) es vs → ReadsAll h (es.map (·.key)) ((vs.map (·.1)).map kP) [] ∧ es.map (·.val) = vs.map (·.2)
  | _, _, .nil => ⟨.nil, rfl⟩
  | _, _, .cons (e := e) (kv := kv) hk hv t => by
    obtain ⟨a, b⟩ := Pairs.reads (h := h) t
    obtain ⟨k, v⟩ := kv
    refine ⟨?_, by simp only [List.map_cons, hv, b]⟩
    rcases keyIs_shape (show keyIs k e.key = true from hk) with ⟨i, tk, rfl, ek⟩ | ⟨x, tk, rfl, ek⟩
    · simp only [List.map_cons]
      rw [ek]
      exact ReadsAll.cons (as := []) (bs := []) (.int i tk) a
    · simp only [List.map_cons]
      rw [ek]
      exact ReadsAll.cons (as := []) (bs := []) (.str x tk) a
section
variable {X : Cx} {pins : List (Addr × Obj)} {σ : L2.St} {H : Hp} {s : Shared}
theorem KV.keys {kvs : List (Key × V)} {vs : List (Key × Value)} (h : KV kvs vs) : kvs.map (·.1) = vs.map (·.1) ∧ Vals (kvs.map (·.2)) (vs.map (·.2)) := by
  unfold KV at h
  induction h with
  | nil => exact ⟨rfl, .nil⟩
  | cons r t ih =>
    obtain ⟨r1, r2⟩ := r
    exact ⟨by simp only [List.map_cons, r1, ih.1], .cons r2 ih.2⟩
/-- sys.modules is no list -/
def NoSys (K : PySem.W.Frag) : Prop := ∃ o, K.lookup sysModules = some o ∧ o.cls ≠ .type "list"
mutual
theorem Rp.reads (N : NoSys X.K) (I : Inv X pins σ H s) : ∀ (d : D) (v : V) (u : Value) (p : PyData), Rp X.K H v d → RelV v u → toQ d = some p → ∃ as, Reads s.heap u p as ∧ sysModules ∉ as
  | .non, _, _, _, h, r, e => by simp only [toQ] at e; cases e; cases h; cases r; exact ⟨_, .none, by simp⟩
  | .bl b, _, _, _, h, r, e => by simp only [toQ] at e; cases e; cases h; cases r; exact ⟨_, .bool b, by simp⟩
  | .int i, _, _, _, h, r, e => by simp only [toQ] at e; cases e; cases h; obtain ⟨t, rfl⟩ := r; exact ⟨_, .int i t, by simp⟩
  | .str x, _, _, _, h, r, e => by simp only [toQ] at e; cases e; cases h; obtain ⟨t, rfl⟩ := r; exact ⟨_, .str x t, by simp⟩
  | .lst ds, _, _, _, h, r, e => by
    simp only [toQ] at e
    cases hp : toQl ds with
    | none => rw [hp] at e; cases e
    | some ps =>
      rw [hp] at e
      cases e
      cases h with
      | lst hs ha =>
        cases r
        obtain ⟨its, rv, ⟨o, n, ho, hc, _, hd⟩, _⟩ := I.list (SqL.of hs)
        obtain ⟨as, hr, hn⟩ := Rp.readsA N I ds _ its ps ha rv hp
        refine ⟨_, Reads.list ho hc hd hr, ?_⟩
        intro z
        rcases List.mem_cons.mp z with z | z
        · obtain ⟨o', h1, h2⟩ := N
          have := I.kIn _ _ h1
          rw [z, ho] at this
          cases this
          exact h2 hc
        · exact hn z
  | .tup ds, _, _, _, h, r, e => by
    simp only [toQ] at e
    cases hp : toQl ds with
    | none => rw [hp] at e; cases e
    | some ps =>
      rw [hp] at e
      cases e
      cases h with
      | tup hs ha =>
        cases r
        obtain ⟨its, rv, ⟨o, ho, hc, n, hd⟩, _⟩ := I.tuple hs
        obtain ⟨as, hr, hn⟩ := Rp.readsA N I ds _ its ps ha rv hp
        exact ⟨_, Reads.tuple ho hc hd hr, hn⟩
  | .dct ks ds, _, _, _, h, r, e => by
    simp only [toQ] at e
    cases hp : toQl ds with
    | none => rw [hp] at e; cases e
    | some ps =>
      rw [hp] at e
      cases e
      cases h with
      | dct hs hk hx ha =>
        rename_i a kvs xs
        cases r
        obtain ⟨_, hsys, vs, hkv, o, es, ep, ho, hex, hd, _, hpr, _⟩ := (show ObjOk X.prog X.w H s.heap a (.dK kvs) from I.hok a _ hs)
        obtain ⟨k1, k2⟩ := KV.keys hkv
        obtain ⟨p1, p2⟩ := Pairs.reads (h := s.heap) hpr
        rw [hx] at k2
        obtain ⟨as, hr, hn⟩ := Rp.readsA N I ds _ _ ps ha k2 hp
        have hlen : (ks.map kP).length = ps.length := by
          have l1 : ks.length = kvs.length := by rw [← hk, List.length_map]
          have l2 : xs.length = kvs.length := by rw [← hx, List.length_map]
          have l3 := ha.length
          have l4 : ds.length = ps.length := toQl_len hp
          rw [List.length_map]
          omega
        have e1 : ((ks.map kP).zip ps).map (·.1) = ks.map kP := by rw [List.map_fst_zip]; omega
        have e2 : ((ks.map kP).zip ps).map (·.2) = ps := by rw [List.map_snd_zip]; omega
        refine ⟨_, Reads.dict (as := []) (bs := as) ho hex.1 hd (by rw [e1, ← hk, k1]; exact p1) (by rw [e2, p2]; exact hr), ?_⟩
        intro z
        simp only [List.append_nil, List.cons_append, List.nil_append] at z
        rcases List.mem_cons.mp z with z | z
        · rw [← z] at hsys
          simp at hsys
        · exact hn z
  | .ins _ _ _, _, _, _, _, _, e => by simp only [toQ] at e; cases e
  | .scr _, _, _, _, _, _, e => by simp only [toQ] at e; cases e
  | .obj _, _, _, _, _, _, e => by simp only [toQ] at e; cases e
  | .raw _, _, _, _, _, _, e => by simp only [toQ] at e; cases e
  | .opq, _, _, _, _, _, e => by simp only [toQ] at e; cases e
  | .exc _ _ _, _, _, _, _, _, e => by simp only [toQ] at e; cases e
theorem Rp.readsA (N : NoSys X.K) (I : Inv X pins σ H s) : ∀ (ds : List D) (vs : List V) (us : List Value) (ps : List PyData), RpA X.K H vs ds → Vals vs us → toQl ds = some ps → ∃ as, ReadsAll s.heap us ps as ∧ sysModules ∉ as
  | [], _, _, _, h, r, e => by simp only [toQl] at e; cases e; cases h; cases r; exact ⟨_, .nil, by simp⟩
  | d :: ds, _, _, _, h, r, e => by
    simp only [toQl] at e
    cases h1 : toQ d with
    | none => rw [h1] at e; cases e
    | some p =>
      cases h2 : toQl ds with
      | none => rw [h1, h2] at e; cases e
      | some ps =>
        rw [h1, h2] at e
        cases e
        cases h with
        | cons ha hb =>
          cases r with
          | cons ra rb =>
            obtain ⟨as, q1, n1⟩ := Rp.reads N I d _ _ p ha ra h1
            obtain ⟨bs, q2, n2⟩ := Rp.readsA N I ds _ _ ps hb rb h2
            exact ⟨_, .cons q1 q2, fun z => (List.mem_append.mp z).elim n1 n2⟩
theorem toQl_len : ∀ {ds : List D} {ps : List PyData}, toQl ds = some ps → ds.length = ps.length
  | [], _, e => by simp only [toQl] at e; cases e; rfl
  | d :: ds, _, e => by
    simp only [toQl] at e
    cases h1 : toQ d with
    | none => rw [h1] at e; cases e
    | some p =>
      cases h2 : toQl ds with
      | none => rw [h1, h2] at e; cases e
      | some ps =>
        rw [h1, h2] at e
        cases e
        exact congrArg (· + 1) (toQl_len h2)
end
def rRepr (K : PySem.W.Frag) : List V → Hp → VK → Prop := fun xs H Q => ∃ x d p, xs = [x] ∧ Rp K H x d ∧ toQ d = some p ∧ p.showable = true ∧ p.shown.length ≤ sizeLine ∧ p.depth ≤ 63 ∧ Q (.str p.shown) H
theorem call_reprD (N : NoSys X.K) (hgd : X.A.guards = some []) (hu : X.A.units + 64 < cLine) : CallR X (.builtin "repr") (rRepr X.K) := by
  intro pins s σ H xs us Q I r h
  obtain ⟨x, d, p, rfl, hr, hp, h1, h2, h3, q⟩ := h
  obtain ⟨u, rfl, ru⟩ := vals1 r
  obtain ⟨as, hrd, hn⟩ := Rp.reads N I d x u p hr ru hp
  have fin : ∀ (h' : Heap) (t : Tok) (tk : Nat), (∀ b o, s.heap.get? b = some o → h'.get? b = some o) → EP X pins σ Q (.str p.shown t) { s with heap := h', toks := tk } := fun h' t tk hk => ⟨.str p.shown, H, I.kept hk, ⟨t, rfl⟩, q⟩
  cases hrd with
  | none => rw [PyData.shown_none] at fin; exact P.repr_of_none (fin s.heap _ _ fun _ _ e => e)
  | bool b => rw [PyData.shown_bool] at fin; exact P.repr_of_bool (fin s.heap _ _ fun _ _ e => e)
  | int i t =>
    rw [PyData.shown_int] at fin
    exact P.repr_of_int (of_decide_eq_true (by simpa only [PyData.showable] using h1)) (fin s.heap _ _ fun _ _ e => e)
  | str y t =>
    rw [PyData.shown_str] at fin h2
    exact P.repr_of_str (fin s.heap _ _ fun _ _ e => e) h2
  | list a b c e => exact repr_of_reads' (.list a b c e) h1 (fun _ => hn) hgd (by omega) (fun _ _ e => e) fin h2
  | tuple a b c e => exact repr_of_reads' (.tuple a b c e) h1 (fun _ => hn) hgd (by omega) (fun _ _ e => e) fin h2
  | dict a b c e f => exact repr_of_reads' (.dict a b c e f) h1 (fun _ => hn) hgd (by omega) (fun _ _ e => e) fin h2
end
def reprS (M : MS) (s : SV) : Option R := match peek M s with
  | some d => match toQ d with
    | some p => if p.showable = true ∧ p.shown.length ≤ sizeLine ∧ p.depth ≤ 63 then some (.sv (.dt (.str p.shown))) else none
    | none => none
  | none => none
theorem calld_repr {K : PySem.W.Frag} : CallD K (rRepr K) (g1 reprS) := CallD.one fun Hk H M ls v s z Q w r e q => by
  unfold reprS at e
  split at e
  · rename_i d hd
    split at e
    · rename_i p hp
      split at e
      · rename_i hz
        cases e
        exact ⟨v, d, p, rfl, peek_ok w _ _ _ _ _ r hd, hp, hz.1, hz.2.1, hz.2.2, q.dt w (.str _)⟩
      · cases e
    · cases e
  · cases e

/-! ### dict displays -/
section
variable {X : Cx} {ek ev e : Expr} {mk mv me : EM R} {pos : Pos}
def eDict0 : EM R := EM.ret (.fd [] [])
theorem pm_dict0 : PM X (.Dict [] [] pos) eDict0 := PE.imp pe_dnewK fun σ H Q ⟨Hk, ls, ρ, M, r, M', w, en, hm, q⟩ => by
  cases hm
  intro p hp
  exact q.newD w hp rfl .nil
def keyD : SV → Option Key
  | .dt (.int i) => some (.inl i)
  | .dt (.str x) => some (.inr x)
  | _ => none
theorem keyD_ok {K : PySem.W.Frag} {Hk : Hp} {ls : List Addr} {n : Nat} {v : V} {s : SV} {k : Key} (r : SVr K Hk ls n v s) (e : keyD s = some k) : v = kV k := by
  unfold keyD at e
  split at e
  · cases e; exact Rp.int_inv r
  · cases e; exact Rp.str_inv r
  · cases e
def eDict1 (mk mv : EM R) : EM R := (fz mk).seq fun s => (fz mv).seq fun t => fun _ M => match keyD s, t with
  | some k, .dt d => some (.fd [k] [d], M)
  | _, _ => none
theorem pm_dict1 (hk : PM X ek mk) (hv : PM X ev mv) : PM X (.Dict [some ek] [ev] pos) (eDict1 mk mv) := PE.imp (pe_disp (pps_cons (PM.v hk) (PM.v hv) pps_nil) (by rfl) (by rfl) (by simp) (by show 1 ≤ 15; decide)) fun σ H Q ⟨Hk, ls, ρ, M, r, M', w, en, hm, q⟩ => by
  obtain ⟨s, M1, h1, h2⟩ := seq_some hm
  obtain ⟨t, M2, h3, h4⟩ := seq_some h2
  intro p hp
  have w0 := w.upd_new (o := .dK []) hp
  refine ⟨Hk, ls, ρ, M, s, M1, w0, en, h1, fun v Hk1 H1 w1 x1 r1 => ?_⟩
  refine ⟨Hk1, ls, ρ, M1, t, M2, w1, en.mono x1.kk, h3, fun u Hk2 H2 w2 x2 r2 => ?_⟩
  have x12 := x1.trans x2
  have hpl := (w.fresh hp).2
  have hp2 : H2 p = some (.dK []) := x12.fr p _ upd_same hpl
  refine ⟨hp2, ?_⟩
  split at h4
  · rename_i k d hkd
    cases h4
    refine ⟨[(k, u)], by rw [keyD_ok r1 hkd]; rfl, by show 1 ≤ 15; decide, ?_⟩
    have hk2 : Hk2 p = none := by
      cases e : Hk2 p with
      | none => rfl
      | some o =>
        rcases x12.gr p (by rw [e]; simp) with z | z
        · exact absurd (w.fresh hp).1 z
        · rw [upd_same] at z; cases z
    have x02 : Ext ls Hk H Hk2 H2 := ⟨x12.kk, fun a o e hn => x12.fr a o (by rw [upd_ne (ne_of_none e hp)]; exact e) hn, fun a e => by
        rcases x12.gr a e with z | z
        · exact .inl z
        · by_cases hap : a = p
          · subst hap; exact .inr hp
          · rw [upd_ne hap] at z; exact .inr z, fun a e => x12.st a (by
        by_cases hap : a = p
        · subst hap; exact absurd hp e
        · rw [upd_ne hap]; exact e)⟩
    exact q (.ref p) Hk2 _ (w2.upd_other hk2 hpl) (x02.upd_other hp) ⟨p, [(k, u)], rfl, hp, hk2, hpl, upd_same, rfl, .cons r2 .nil⟩
  · cases h4
/-! ### isinstance of an own class -/
structure IsiC (K : PySem.W.Frag) (C : Addr) : Prop where
  no : ∀ T ∈ tysN, PySem.W.kitOne K (.type T) (.ref C) = some false
  ys : PySem.W.kitOne K (.ref C) (.ref C) = some true
def isiCS (C : Addr) (M : MS) (s : SV) : Option Bool := match s with
  | .dt (.obj C') => if C' = C then some true else none
  | s => match tyS M s with
    | some _ => some false
    | none => none
def eIsiC (C : Addr) (m : EM R) : EM R := (fz m).seq fun s => fun _ M => match isiCS C M s with
  | some b => some (.sv (.dt (.bl b)), M)
  | none => none
theorem pm_isiC {C : Addr} {t : Str} {p p1 : Pos} (hC : IsiC X.K C) (hg : Gl X "isinstance") (hm : X.mg "isinstance" = none) (hgt : Gl X t) (hmt : X.mg t = some (.ref C)) (h : PM X e me) (hdt : (t == ("__debug__" : Str)) = false := by decide)
    (he : starEach (e :: [.Name t p1]) X.env = (false, eval e X.env) :: starEach [.Name t p1] X.env := by rfl) (hpl : (backTo pos (starEach [.Name t p1] X.env)).any (·.1) = false := by rfl) (hs1 : starEach (.Name t p1 :: []) X.env = (false, eval (.Name t p1) X.env) :: starEach [] X.env := by rfl) :
    PM X (.Call (.Name "isinstance" p) [e, .Name t p1] [] pos) (eIsiC C me) := PE.imp (pe_callB call_isi hg hm PyProof.Rows.boot_isinstance (pa_cons (PM.v h) (pa_cons (pe_glob (v := .ref C) hgt hmt rfl hdt) pa_nil hs1) he) (by decide) (by decide) he hpl) fun σ H Q ⟨Hk, ls, ρ, M, r, M', w, en, hm, q⟩ => by
  obtain ⟨s, M1, h1, h2⟩ := seq_some hm
  refine ⟨Hk, ls, ρ, M, s, M1, w, en, h1, fun v Hk1 H1 w1 x1 r1 => ?_⟩
  split at h2
  · rename_i b hb
    cases h2
    unfold isiCS at hb
    split at hb
    · rename_i C'
      split at hb
      · rename_i hcc
        cases hb
        subst hcc
        cases r1 with
        | obj h c => exact ⟨_, .ref C', .ref C', .ref C', true, rfl, .own C', .base (.ins (w1.sub _ _ h) c.cl c.ha c.hn c.htk c.hm), hC.ys, q _ Hk1 H1 w1 x1 (Rp.bl _)⟩
      · cases hb
    · split at hb
      · rename_i T hT
        cases hb
        exact ⟨v, .ref C, .type T, .ref C, false, rfl, .own C, tyS_ok w1 r1 hT, hC.no T (tyS_mem hT), q _ Hk1 H1 w1 x1 (Rp.bl _)⟩
      · cases hb
  · cases h2
end

/-! ### two targets -/
section
variable {X : Cx} {e o ix a b : Expr} {me mo mi : EM R} {pos : Pos} {ms : EM (List SV)}
/-- x, o[i] = e -/
def sNamePut (j : Nat) (mo mi me : EM R) : SM := fun ρ M => match fz me ρ M with
  | some (.dt (.tup [d1, d2]), M1) => match fz mo (ρ.set j (some (.dt d1))) M1 with
    | some (s, M2) => match fz mi (ρ.set j (some (.dt d1))) M2 with
      | some (t, M3) => match setAt M3 s t (.dt d2) with
        | some M4 => some (.nx (ρ.set j (some (.dt d1))) M4)
        | none => none
      | none => none
    | none => none
  | _ => none
theorem psm_namePut {j : Nat} {tn : Expr} {tpos sp : Pos} {kk : Nat} (hc : X.calm = true) (he : PM X e me) (hg : PG X tn (gName j)) (ho : PM X o mo) (hi : PM X ix mi) (ha : ∀ v, assign (.Subscript o ix sp) X.env v = (do
      let ov ← holding [v] (eval o X.env)
      let iv ← holding [v, ov] (eval ix X.env)
      standAt sp
      holding [v, ov, iv] (setItem ov iv v)
      release [v, ov, iv] []) := by intro _; rfl) (hs : swapsWithSole [.Tuple [tn, .Subscript o ix sp] kk tpos] e pos.line X.env = pure false := by rfl) (hw : swappedStores [.Tuple [tn, .Subscript o ix sp] kk tpos] e X.env = pure none := by rfl)
    (h1 : (assignEach [.Tuple [tn, .Subscript o ix sp] kk tpos] X.env).map (·.2) = [assign (.Tuple [tn, .Subscript o ix sp] kk tpos) X.env] := by rfl)
    (h2 : (assignEach [tn, .Subscript o ix sp] X.env).map (·.2) = assign tn X.env :: (assignEach [.Subscript o ix sp] X.env).map (·.2) := by rfl) (h3 : (assignEach [.Subscript o ix sp] X.env).map (·.2) = assign (.Subscript o ix sp) X.env :: (assignEach [] X.env).map (·.2) := by rfl)
    (hn : (assignEach [tn, .Subscript o ix sp] X.env).length = 2 := by rfl) (hst : (assignEach [tn, .Subscript o ix sp] X.env).findIdx? (·.1) = none := by rfl) : PSm X (.Assign [.Tuple [tn, .Subscript o ix sp] kk tpos] e pos) (sNamePut j mo mi me) :=
  PS.imp (ps_asg (PM.v he) (pg_tup hc (pgs_cons hg (pgs_cons (pg_sub (PM.v ho) (PM.v hi) set_list ha) pgs_nil h3) h2) hn hst) hs hw h1) fun E σ H ⟨Hk, ls, ρ, M, r, w, en, hm, q⟩ => by
  unfold sNamePut at hm
  split at hm
  · rename_i d1 d2 M1 h1
    split at hm
    · rename_i s M2 h2
      split at hm
      · rename_i t M3 h3
        split at hm
        · rename_i M4 h4
          cases hm
          refine ⟨Hk, ls, ρ, M, _, M1, w, en, h1, fun v Hk1 H1 w1 x1 r1 => ?_⟩
          cases r1 with
          | tup hq ra =>
            cases ra with
            | cons ra1 ra2 =>
              cases ra2 with
              | cons ra2 ra3 =>
                cases ra3
                have en1 := (en.mono x1.kk).set (i := j) (s := .dt d1) ra1
                refine ⟨_, _, rfl, same_t w1.sub hq, rfl, _, _, rfl, _, _, rfl, ?_⟩
                refine ⟨Hk1, ls, _, M1, s, M2, w1, en1, h2, fun ov Hk2 H2 w2 x2 r2 => ?_⟩
                refine ⟨Hk2, ls, _, M2, t, M3, w2, en1.mono x2.kk, h3, fun iv Hk3 H3 w3 x3 r3 => ?_⟩
                exact setAt_ok (d := .dt d2) w3 (r2.mono x3.kk) r3 (Rp.mono (x2.trans x3).kk ra2) h4 fun H' w' x' => ⟨rfl, q _ Hk3 H' ls w' ((((x1.trans x2).trans x3).trans x').s) (en1.mono (x2.trans x3).kk)⟩
        · cases hm
      · cases hm
    · cases hm
  · cases hm
/-- x, y = a, b -/
def sPar (i j : Nat) (ms : EM (List SV)) : SM := fun ρ M => match ms ρ M with
  | some ([s, t], M1) => some (.nx ((ρ.set i (some s)).set j (some t)) M1)
  | _ => none
theorem psm_par {i j : Nat} {st : Stmt} (h : PS X st (tPar i j (tA X.K ms))) : PSm X st (sPar i j ms) := PS.imp h fun E σ H ⟨Hk, ls, ρ, M, r, w, en, hm, q⟩ => by
  unfold sPar at hm
  split at hm
  · rename_i s t M1 h1
    cases hm
    refine ⟨Hk, ls, ρ, M, _, M1, w, en, h1, fun vs Hk1 H1 w1 x1 r1 => ?_⟩
    cases r1 with
    | cons r1 r2 =>
      cases r2 with
      | cons r2 r3 =>
        cases r3
        exact ⟨_, _, rfl, q _ Hk1 H1 ls w1 x1.s (((en.mono x1.kk).set r1).set r2)⟩
  · cases hm
end
end Dy

set_option Elab.async false
set_option linter.all false
set_option maxRecDepth 100000
set_option maxHeartbeats 4000000
/-! Layer Dy, part 12: short words for printed derivations; the head. -/
namespace Dy
open PySem L2 PySem.Spec PyProof.Rows

/-- the built-in names are the built-ins -/
def bltNames : List Str := ["len", "abs", "int", "all", "any", "sum", "repr", "list", "tuple", "isinstance", "str", "bool", "dict", "range", "enumerate", "zip", "sorted", "max", "min", "set"]
def Blt (mg : Str → Option Value) : Prop := ∀ x ∈ bltNames, mg x = none
section
variable {X : Cx} {e e2 tg : Expr} {es : List Expr} {ms : EM (List SV)} {me : EM R} {p pos : Pos} {st : Stmt}
theorem pm_len (B : Blt X.mg) (ha : PAm X [e] ms) (hg : Gl X "len" := by rfl) (he : starEach (e :: []) X.env = (false, eval e X.env) :: starEach [] X.env := by rfl) : PM X (.Call (.Name "len" p) [e] [] pos) (eCall (g1 lenS) ms) := pm_callB call_len calld_len hg (B _ (by decide +kernel)) boot_len ha (by decide) (by decide) he rfl
theorem pm_abs (B : Blt X.mg) (ha : PAm X [e] ms) (hg : Gl X "abs" := by rfl) (he : starEach (e :: []) X.env = (false, eval e X.env) :: starEach [] X.env := by rfl) : PM X (.Call (.Name "abs" p) [e] [] pos) (eCall (g1 absS) ms) := pm_callB call_abs calld_abs hg (B _ (by decide +kernel)) boot_abs ha (by decide) (by decide) he rfl
theorem pm_toint (B : Blt X.mg) (ha : PAm X [e] ms) (hg : Gl X "int" := by rfl) (he : starEach (e :: []) X.env = (false, eval e X.env) :: starEach [] X.env := by rfl) : PM X (.Call (.Name "int" p) [e] [] pos) (eCall (g1 intS) ms) := pm_callTy call_int1 calld_int hg (B _ (by decide +kernel)) PyProof.Rows.boot_int ha (by decide) (by decide) he rfl
theorem pm_all (B : Blt X.mg) (hc : X.calm = true) (ha : PAm X [e] ms) (hg : Gl X "all" := by rfl) (he : starEach (e :: []) X.env = (false, eval e X.env) :: starEach [] X.env := by rfl) : PM X (.Call (.Name "all" p) [e] [] pos) (eCall (g1 allS) ms) := pm_callB (cr_all hc) calld_all hg (B _ (by decide +kernel)) boot_all ha (by decide) (by decide) he rfl
theorem pm_sum (B : Blt X.mg) (hc : X.calm = true) (ha : PAm X [e] ms) (hg : Gl X "sum" := by rfl) (he : starEach (e :: []) X.env = (false, eval e X.env) :: starEach [] X.env := by rfl) : PM X (.Call (.Name "sum" p) [e] [] pos) (eCall (g1 sumS) ms) := pm_callB (cr_sum hc) calld_sum hg (B _ (by decide +kernel)) boot_sum ha (by decide) (by decide) he rfl
theorem pm_repr (B : Blt X.mg) (N : NoSys X.K) (hgd : X.A.guards = some []) (hu : X.A.units + 64 < cLine) (ha : PAm X [e] ms) (hg : Gl X "repr" := by rfl) (he : starEach (e :: []) X.env = (false, eval e X.env) :: starEach [] X.env := by rfl) : PM X (.Call (.Name "repr" p) [e] [] pos) (eCall (g1 reprS) ms) := pm_callB (call_reprD N hgd hu) calld_repr hg (B _ (by decide +kernel)) boot_repr ha (by decide) (by decide) he rfl
theorem pm_tolist (B : Blt X.mg) (ha : PAm X [e] ms) (hg : Gl X "list" := by rfl) (he : starEach (e :: []) X.env = (false, eval e X.env) :: starEach [] X.env := by rfl) : PM X (.Call (.Name "list" p) [e] [] pos) (eCall (g1 listS) ms) := pm_callTy call_list_of calld_list hg (B _ (by decide +kernel)) PyProof.Rows.boot_list ha (by decide) (by decide) he rfl
theorem pm_totuple (B : Blt X.mg) (ha : PAm X [e] ms) (hg : Gl X "tuple" := by rfl) (he : starEach (e :: []) X.env = (false, eval e X.env) :: starEach [] X.env := by rfl) : PM X (.Call (.Name "tuple" p) [e] [] pos) (eCall (g1 tupleS) ms) := pm_callTy call_tuple_of calld_tuple hg (B _ (by decide +kernel)) PyProof.Rows.boot_tuple ha (by decide) (by decide) he rfl
theorem pm_append {o : Expr} {mo : EM R} {apos : Pos} (ho : PM X o mo) (ha : PAm X [e] ms) (hbase : attributeBase o "append" X.env (eval o X.env) = eval o X.env := by rfl) (hfew : ((backTo pos (starEach (e :: []) X.env)).all (fun x => !x.1) && (backToKw pos (keywordEach [] X.env)).all (fun x => x.1.isSome) && decide ((e :: ([] : List Expr)).length + ([] : List Keyword).length + (if ([] : List Keyword).isEmpty then 0 else 1) < 30)) = true := by rfl)
    (hline : (apos.endLine == pos.line) = true := by rfl) (he : starEach (e :: []) X.env = (false, eval e X.env) :: starEach [] X.env := by rfl) : PM X (.Call (.Attribute o "append" apos) [e] [] pos) (eMt "list" gAppend mo ms) := pm_mt PySem.F.plainAttrs_list PySem.F.slot_list_append PySem.F.type_list_append mt_append mtd_append ho ha hbase hfew hline he rfl
theorem pm_extend {o : Expr} {mo : EM R} {apos : Pos} (ho : PM X o mo) (ha : PAm X [e] ms) (hbase : attributeBase o "extend" X.env (eval o X.env) = eval o X.env := by rfl) (hfew : ((backTo pos (starEach (e :: []) X.env)).all (fun x => !x.1) && (backToKw pos (keywordEach [] X.env)).all (fun x => x.1.isSome) && decide ((e :: ([] : List Expr)).length + ([] : List Keyword).length + (if ([] : List Keyword).isEmpty then 0 else 1) < 30)) = true := by rfl)
    (hline : (apos.endLine == pos.line) = true := by rfl) (he : starEach (e :: []) X.env = (false, eval e X.env) :: starEach [] X.env := by rfl) : PM X (.Call (.Attribute o "extend" apos) [e] [] pos) (eMt "list" gExtend mo ms) := pm_mt PySem.F.plainAttrs_list PySem.F.slot_list_extend PySem.F.type_list_extend mt_extend mtd_extend ho ha hbase hfew hline he rfl
theorem pm_popAt {o : Expr} {mo : EM R} {apos : Pos} (ho : PM X o mo) (ha : PAm X [e] ms) (hbase : attributeBase o "pop" X.env (eval o X.env) = eval o X.env := by rfl) (hfew : ((backTo pos (starEach (e :: []) X.env)).all (fun x => !x.1) && (backToKw pos (keywordEach [] X.env)).all (fun x => x.1.isSome) && decide ((e :: ([] : List Expr)).length + ([] : List Keyword).length + (if ([] : List Keyword).isEmpty then 0 else 1) < 30)) = true := by rfl)
    (hline : (apos.endLine == pos.line) = true := by rfl) (he : starEach (e :: []) X.env = (false, eval e X.env) :: starEach [] X.env := by rfl) : PM X (.Call (.Attribute o "pop" apos) [e] [] pos) (eMt "list" gPopAt mo ms) := pm_mt PySem.F.plainAttrs_list PySem.F.slot_list_pop PySem.F.type_list_pop mt_popAt mtd_popAt ho ha hbase hfew hline he rfl
theorem pm_pop {o : Expr} {mo : EM R} {apos : Pos} (ho : PM X o mo) (hbase : attributeBase o "pop" X.env (eval o X.env) = eval o X.env := by rfl) (hline : (apos.endLine == pos.line) = true := by rfl) : PM X (.Call (.Attribute o "pop" apos) [] [] pos) (eMt "list" gPop mo eNil) := pm_mt0 PySem.F.plainAttrs_list PySem.F.slot_list_pop PySem.F.type_list_pop mt_pop mtd_pop ho hbase hline
theorem pm_clear {o : Expr} {mo : EM R} {apos : Pos} (ho : PM X o mo) (hbase : attributeBase o "clear" X.env (eval o X.env) = eval o X.env := by rfl) (hline : (apos.endLine == pos.line) = true := by rfl) : PM X (.Call (.Attribute o "clear" apos) [] [] pos) (eMt "list" gClear mo eNil) := pm_mt0 PySem.F.plainAttrs_list PySem.F.slot_list_clear PySem.F.type_list_clear mt_clear mtd_clear ho hbase hline
theorem pm_upper {o : Expr} {mo : EM R} {apos : Pos} (ho : PM X o mo) (hbase : attributeBase o "upper" X.env (eval o X.env) = eval o X.env := by rfl) (hline : (apos.endLine == pos.line) = true := by rfl) : PM X (.Call (.Attribute o "upper" apos) [] [] pos) (eMt "str" gUpper mo eNil) := pm_mt0 PySem.F.plainAttrs_str PySem.F.slot_str_upper PySem.F.type_str_upper mt_upper mtd_upper ho hbase hline
theorem pm_join {o : Expr} {mo : EM R} {apos : Pos} (ho : PM X o mo) (ha : PAm X [e] ms) (hbase : attributeBase o "join" X.env (eval o X.env) = eval o X.env := by rfl) (hfew : ((backTo pos (starEach (e :: []) X.env)).all (fun x => !x.1) && (backToKw pos (keywordEach [] X.env)).all (fun x => x.1.isSome) && decide ((e :: ([] : List Expr)).length + ([] : List Keyword).length + (if ([] : List Keyword).isEmpty then 0 else 1) < 30)) = true := by rfl)
    (hline : (apos.endLine == pos.line) = true := by rfl) (he : starEach (e :: []) X.env = (false, eval e X.env) :: starEach [] X.env := by rfl) : PM X (.Call (.Attribute o "join" apos) [e] [] pos) (eMt "str" gJoin mo ms) := pm_mt PySem.F.plainAttrs_str PySem.F.slot_str_join PySem.F.type_str_join mt_join mtd_join ho ha hbase hfew hline he rfl
theorem pm_insert {o : Expr} {mo : EM R} {apos : Pos} (ho : PM X o mo) (ha : PAm X [e, e2] ms) (hbase : attributeBase o "insert" X.env (eval o X.env) = eval o X.env := by rfl) (hfew : ((backTo pos (starEach (e :: [e2]) X.env)).all (fun x => !x.1) && (backToKw pos (keywordEach [] X.env)).all (fun x => x.1.isSome) && decide ((e :: [e2]).length + ([] : List Keyword).length + (if ([] : List Keyword).isEmpty then 0 else 1) < 30)) = true := by rfl)
    (hline : (apos.endLine == pos.line) = true := by rfl) (he : starEach (e :: [e2]) X.env = (false, eval e X.env) :: starEach [e2] X.env := by rfl) (hpl : (backTo pos (starEach [e2] X.env)).any (·.1) = false := by rfl) : PM X (.Call (.Attribute o "insert" apos) [e, e2] [] pos) (eMt "list" gInsert mo ms) := pm_mt PySem.F.plainAttrs_list PySem.F.slot_list_insert PySem.F.type_list_insert mt_insert mtd_insert ho ha hbase hfew hline he hpl
/-- isinstance(x, T) -/
theorem pm_isT {T : String} {p1 : Pos} (B : Blt X.mg) (t : Str) (hT : T ∈ tysB) (ht : t ∈ bltNames) (hvt : bootBuiltins t = some (.type T)) (h : PM X e me) (hg : Gl X "isinstance" := by rfl) (hgt : Gl X t := by rfl) (hnt : t ≠ "__name__" := by decide) (hdt : (t == ("__debug__" : Str)) = false := by decide)
    (he : starEach (e :: [.Name t p1]) X.env = (false, eval e X.env) :: starEach [.Name t p1] X.env := by rfl) : PM X (.Call (.Name "isinstance" p) [e, .Name t p1] [] pos) (eIsi T me) := pm_isi hT hg (B _ (by decide +kernel)) hgt (B t ht) hvt h hnt hdt he rfl rfl
theorem pm_isT2 {T U : String} {p1 p2 p3 : Pos} {kk : Nat} (B : Blt X.mg) (t u : Str) (hT : T ∈ tysB) (ht : t ∈ bltNames) (hvt : bootBuiltins t = some (.type T)) (hU : U ∈ tysB) (hu : u ∈ bltNames) (hvu : bootBuiltins u = some (.type U)) (h : PM X e me) (hg : Gl X "isinstance" := by rfl) (hgt : Gl X t := by rfl) (hgu : Gl X u := by rfl)
    (hnt : t ≠ "__name__" := by decide) (hdt : (t == ("__debug__" : Str)) = false := by decide) (hnu : u ≠ "__name__" := by decide) (hdu : (u == ("__debug__" : Str)) = false := by decide)
    (he : starEach (e :: [.Tuple [.Name t p1, .Name u p2] kk p3]) X.env = (false, eval e X.env) :: starEach [.Tuple [.Name t p1, .Name u p2] kk p3] X.env := by rfl) : PM X (.Call (.Name "isinstance" p) [e, .Tuple [.Name t p1, .Name u p2] kk p3] [] pos) (eIsi2 T U me) :=
  pm_isi2 hT hU hg (B _ (by decide +kernel)) hgt (B t ht) hvt hgu (B u hu) hvu h hnt hdt hnu hdu he rfl rfl rfl rfl
theorem pim_rng1 (B : Blt X.mg) (ha : PAm X [e] ms) (hg : Gl X "range" := by rfl) (hs : starEach [e] X.env = [(false, eval e X.env)] := by rfl) : PIm X tg (.Call (.Name "range" p) [e] [] pos) (eRng1 ms) := pim_range1 hg (B _ (by decide +kernel)) ha hs
theorem pim_rng2 (B : Blt X.mg) (ha : PAm X [e, e2] ms) (hg : Gl X "range" := by rfl) (hs : starEach [e, e2] X.env = [(false, eval e X.env), (false, eval e2 X.env)] := by rfl) (hs2 : starEach [e2] X.env = [(false, eval e2 X.env)] := by rfl) : PIm X tg (.Call (.Name "range" p) [e, e2] [] pos) (eRng2 ms) := pim_range2 hg (B _ (by decide +kernel)) ha hs hs2
theorem pim_enm {elts : List Expr} {kk : Nat} {tpos : Pos} (B : Blt X.mg) (ha : PAm X [e] ms) (hg : Gl X "enumerate" := by rfl) (hs : starEach [e] X.env = [(false, eval e X.env)] := by rfl) : PIm X (.Tuple elts kk tpos) (.Call (.Name "enumerate" p) [e] [] pos) (eEnum ms) := pim_enum hg (B _ (by decide +kernel)) ha hs
theorem pim_zp {elts : List Expr} {kk : Nat} {tpos : Pos} (B : Blt X.mg) (ha : PAm X [e, e2] ms) (hg : Gl X "zip" := by rfl) (hs : starEach [e, e2] X.env = (false, eval e X.env) :: starEach [e2] X.env := by rfl) (hpl : (backTo pos (starEach [e2] X.env)).any (·.1) = false := by rfl) : PIm X (.Tuple elts kk tpos) (.Call (.Name "zip" p) [e, e2] [] pos) (eZip ms) := pim_zip hg (B _ (by decide +kernel)) ha hs hpl
/-- constants of the module -/
theorem pm_gint {x : Str} {i : Int} (h : ∃ t, X.mg x = some (.int i t)) (hg : Gl X x := by rfl) (hd : (x == ("__debug__" : Str)) = false := by decide) : PM X (.Name x pos) (eC (.int i)) := by
  obtain ⟨t, ht⟩ := h
  exact pm_const (pe_glob (v := .int i) hg ht ⟨t, rfl⟩ hd) fun _ => .int i
theorem pm_gstr {x z : Str} (h : ∃ t, X.mg x = some (.str z t)) (hg : Gl X x := by rfl) (hd : (x == ("__debug__" : Str)) = false := by decide) : PM X (.Name x pos) (eC (.str z)) := by
  obtain ⟨t, ht⟩ := h
  exact pm_const (pe_glob (v := .str z) hg ht ⟨t, rfl⟩ hd) fun _ => .str z
theorem RpA.strs {K : PySem.W.Frag} {H : Hp} : ∀ zs : List Str, RpA K H (zs.map V.str) (zs.map D.str)
  | [] => .nil
  | z :: r => .cons (.str z) (RpA.strs r)
theorem pm_gtup {x : Str} {zs : List Str} (h : ∃ a, X.mg x = some (.ref a) ∧ ∀ H, SqT X.K H a (zs.map V.str)) (hg : Gl X x := by rfl) (hd : (x == ("__debug__" : Str)) = false := by decide) : PM X (.Name x pos) (eC (.tup (zs.map .str))) := by
  obtain ⟨a, ha, hs⟩ := h
  exact pm_const (pe_glob (v := .ref a) hg ha rfl hd) fun H => .tup (hs H) (RpA.strs zs)
/-- tg = e by the target's binding -/
def sBind (b : Bnd) (me : EM R) : SM := fun ρ M => match fz me ρ M with
  | some (s, M1) => match b s ρ with
    | some ρ' => some (.nx ρ' M1)
    | none => none
  | none => none
theorem psm_bind {b : Bnd} {is : List Nat} (he : PM X e me) (hg : PGm X tg b is) (hs : swapsWithSole [tg] e pos.line X.env = pure false := by rfl) (hw : swappedStores [tg] e X.env = pure none := by rfl) (h1 : (assignEach [tg] X.env).map (·.2) = [assign tg X.env] := by rfl) : PSm X (.Assign [tg] e pos) (sBind b me) :=
  PS.imp (ps_asg (PM.v he) hg hs hw h1) fun E σ H ⟨Hk, ls, ρ, M, r, w, en, hm, q⟩ => by
  unfold sBind at hm
  split at hm
  · rename_i s M1 h1
    split at hm
    · rename_i ρ' h2
      cases hm
      exact ⟨Hk, ls, ρ, M, s, M1, w, en, h1, fun v Hk1 H1 w1 x1 r1 => ⟨Hk1, ls, ρ, M1, s, ρ', w1, en.mono x1.kk, r1, h2, fun σ' en' _ => q σ' Hk1 H1 ls w1 x1.s en'⟩⟩
    · cases hm
  · cases hm
end
/-- a def by its mirror, where it stands -/
structure DefOk (P : Program) (w : PySem.World) (K : PySem.W.Frag) (mg : Str → Option Value) (base : Heap) (k : Nat) (x : Str) (f : Addr) (fd : FuncData) (ps : List Str) (g : Fn) : Prop where
  gl : mg x = some (.ref f)
  kp : PySem.W.keepIn K (.ref f) = true
  bd : Binds K fd ps []
  ok : FnG P w K mg base CX0 k f fd ps (spM K ps.length g)
theorem pm_def {X : Cx} {k : Nat} {x : Str} {f : Addr} {fd : FuncData} {ps : List Str} {g : Fn} {e : Expr} {es : List Expr} {ms : EM (List SV)} {p pos : Pos} (F : DefOk X.prog X.w X.K X.mg X.base k x f fd ps g) (hgd : X.A.guards = some []) (hr : Room k X.A) (ha : PAm X (e :: es) ms)
    (hn : ∀ ρ M ss M', ms ρ M = some (ss, M') → ss.length = ps.length) (hg : Gl X x := by rfl) (hdb : (x == ("__debug__" : Str)) = false := by decide) (he : starEach (e :: es) X.env = (false, eval e X.env) :: starEach es X.env := by rfl) (hpl : (backTo pos (starEach es X.env)).any (·.1) = false := by rfl) :
    PM X (.Call (.Name x p) (e :: es) [] pos) (eFn g ms) := pm_call F.ok hgd hr hg F.gl F.kp F.bd ha hn hdb he hpl
theorem FunDG.ok {P : Program} {w : PySem.World} {K : PySem.W.Frag} {mg : Str → Option Value} {base : Heap} {x qual : Str} {params : Arguments} {body : List Stmt} {scope : Scope} {dvs : List V} {kws : List (Str × V)} {f : Addr} {fd : FuncData} {N ps : List Str} {k : Nat} {b : SM} {n : Nat} (F : FunD K x qual params body scope dvs kws f fd) (S : FnScope N ps scope) (hl : ps.length = n)
    (hbody : ∀ (cdv : Value) (A : Around) (outer : List PySem.Env) (s : Shared) (H : Hp) (E : XK), A.guards = some [] → Room k (A.deeper (envOfC qual scope s.heap.objs.size f cdv)) → PSsm (cxOf CX0 P w K mg base N qual scope f cdv A outer s H E).nox body b) : FnG P w K mg base CX0 (k + 1) f fd ps (spM K n (runBody b N.length)) := by
  obtain ⟨oc, od, dV, kV, doc, pm, an, cdv, ct, osl, rfl, lk, hcd, _, _⟩ := F.ex
  exact fng_of lk hcd S (spM_len hl) fun A outer s H vs Q E hgd hr h => ⟨_, (hbody cdv A outer s H E hgd hr).nox, body_go h⟩

/-! ### the head -/
/-- a Hook of one's own: any look at the written part that says yes -/
def obsX (n : Nat) (chk : PySem.W.Frag → Bool) (fn : List He.DefD) (g : Addr → Option Obj) : He.AlD := (fun K => (chk K && fn.all fun d => d.ok K, fn.map fun d => He.fnW K d.at_)) (He.frG g (sysModules :: He.asD g n))
def SaysX (chk : PySem.W.Frag → Bool) (fn : List He.DefD) (K : PySem.W.Frag) : Prop := (chk K && fn.all fun d => d.ok K) = true ∧ (fn.map fun d => He.fnW K d.at_) = fn.map He.DefD.val
def hookX (n : Nat) (chk : PySem.W.Frag → Bool) (fn : List He.DefD) : PySem.W.Hook where
  α := He.AlD
  obs := fun s => obsX n chk fn s.heap.get?
  val := fun _ => He.valD fn
  says := fun _ h => ∃ K : PySem.W.Frag, K.In h ∧ SaysX chk fn K
  of := fun _ _ e => ⟨_, He.frG_in, congrArg (fun z : He.AlD => z.1) e, congrArg (fun z : He.AlD => z.2) e⟩
  keeps := fun _ _ _ ⟨K, hK, c⟩ k => ⟨K, PySem.W.Frag.In.keeps hK k, c⟩
theorem obsX_eq {n : Nat} {chk : PySem.W.Frag → Bool} {fn : List He.DefD} {g : Addr → Option Obj} {s : Shared} (h : ∀ a, g a = s.heap.get? a) : obsX n chk fn g = (hookX n chk fn).obs s := by
  have e : g = s.heap.get? := funext h
  rw [e] <;> rfl
theorem SaysX.yes {chk : PySem.W.Frag → Bool} {fn : List He.DefD} {K : PySem.W.Frag} (c : SaysX chk fn K) : chk K = true := (Bool.and_eq_true_iff.mp c.1).1
theorem SaysX.dfn {chk : PySem.W.Frag → Bool} {fn : List He.DefD} {K : PySem.W.Frag} (c : SaysX chk fn K) (i : Nat) {d : He.DefD} (h : fn[i]? = some d := by rfl) : ∃ fd, FunD K d.name d.qual d.params d.body d.scope (d.dvs K) (d.kws K) (He.fAd K d.at_) fd := by
  have c2 := (Bool.and_eq_true_iff.mp c.1).2
  have e2 := congrArg (fun l => l[i]?) c.2
  simp only [List.getElem?_map, h, Option.map_some] at e2
  exact He.DefD.funD (Option.some.inj e2) (List.all_eq_true.mp c2 d (List.mem_of_getElem? h))
/-- looks -/
def noSysB (K : PySem.W.Frag) : Bool := match K.lookup sysModules with
  | some o => (match o.cls with
    | .type "dict" => true
    | _ => false)
  | none => false
theorem noSysB_ok {K : PySem.W.Frag} (h : noSysB K = true) : NoSys K := by
  unfold noSysB at h
  split at h
  · rename_i o ho
    split at h
    · rename_i hc
      exact ⟨o, ho, by rw [hc]; decide⟩
    · cases h
  · cases h
def frees (xs : List Str) (K : PySem.W.Frag) : Bool := xs.all fun x => (He.Fa.free x).ok K
theorem frees_ok {K : PySem.W.Frag} {h : Heap} {mg : Str → Option Value} {xs : List Str} (X : K.In h) (G : h.Ns mainGlobals mg) (c : frees xs K = true) : ∀ x ∈ xs, mg x = none := fun x hx => He.free_ok X G (List.all_eq_true.mp c x hx)
end Dy

set_option Elab.async false
set_option linter.all false
set_option maxRecDepth 100000
set_option maxHeartbeats 4000000
/-! Layer Dy, part 13: instances that are being made: fields, methods, C(..). -/
namespace Dy
open PySem L2 PySem.Spec PyProof.Rows

/-! ### nothing is promised of what is never come to -/
def eNo : EM R := fun _ _ => none
def sNo : SM := fun _ _ => none
theorem pm_no {X : Cx} {e : Expr} : PM X e eNo := ⟨fun _ _ _ _ _ _ h => by obtain ⟨_, _, _, _, _, _, _, _, z, _⟩ := h; cases z⟩
theorem psm_no {X : Cx} {st : Stmt} : PSm X st sNo := ⟨fun _ _ _ _ _ _ h => by obtain ⟨_, _, _, _, _, _, _, z, _⟩ := h; cases z⟩
theorem pssm_no {X : Cx} {st : List Stmt} : PSsm X st sNo := ⟨fun _ _ _ _ _ _ h => by obtain ⟨_, _, _, _, _, _, _, z, _⟩ := h; cases z⟩

/-! ### fields by name -/
def lookF (f : Str) : List Str → List D → Option D
  | n :: ns, d :: ds => if f = n then some d else lookF f ns ds
  | _, _ => none
def putN (f : Str) (d : D) : List Str → List D → List Str × List D
  | n :: ns, x :: xs => if n = f then (n :: ns, d :: xs) else (n :: (putN f d ns xs).1, x :: (putN f d ns xs).2)
  | _, _ => ([f], [d])
section
variable {K : PySem.W.Frag} {Hk H : Hp} {M M' : MS} {ls : List Addr}
theorem lookF_ok {f : Str} {d : D} : ∀ {fs : List (Str × V)} {ds : List D}, RpA K Hk (fs.map (·.2)) ds → lookF f (fs.map (·.1)) ds = some d → ∃ v, fs.lookup f = some v ∧ Rp K Hk v d
  | [], _, r, e => by cases r; cases e
  | (n, v) :: fs, _, .cons (d := x) (ds := xs) r t, e => by
    have e2 : (if f = n then some x else lookF f (fs.map (·.1)) xs) = some d := e
    by_cases h : f = n
    · rw [if_pos h] at e2
      cases e2
      exact ⟨v, by rw [List.lookup_cons, beq_iff_eq.mpr h], r⟩
    · rw [if_neg h] at e2
      obtain ⟨u, h1, h2⟩ := lookF_ok t e2
      exact ⟨u, by rw [List.lookup_cons, beq_eq_false_iff_ne.mpr h]; exact h1, h2⟩
theorem lookup_nope {f : Str} : ∀ {fs : List (Str × V)}, (fs.map (·.1)).contains f = false → fs.lookup f = none
  | [], _ => rfl
  | (n, v) :: fs, h => by
    rw [List.map_cons, List.contains_cons, Bool.or_eq_false_iff] at h
    rw [List.lookup_cons, h.1]
    exact lookup_nope h.2
theorem putN_ok {f : Str} {v : V} {d : D} (rv : Rp K Hk v d) : ∀ {fs : List (Str × V)} {ds : List D}, RpA K Hk (fs.map (·.2)) ds →
    (putF f v fs).map (·.1) = (putN f d (fs.map (·.1)) ds).1 ∧ RpA K Hk ((putF f v fs).map (·.2)) (putN f d (fs.map (·.1)) ds).2
  | [], _, r => by cases r; exact ⟨rfl, .cons rv .nil⟩
  | (n, u) :: fs, _, .cons (d := x) (ds := xs) r t => by
    by_cases h : n = f
    · simp only [putF, List.map_cons, putN, if_pos h]
      exact ⟨trivial, .cons rv t⟩
    · obtain ⟨h1, h2⟩ := putN_ok rv (f := f) t
      simp only [putF, List.map_cons, putN, if_neg h]
      exact ⟨by rw [h1], .cons r h2⟩
/-- the handle of an instance -/
def muI (M : MS) : SV → Option (Nat × Addr × List Str × List D)
  | .mu k => match M[k]? with
    | some (.i C ns ds) => some (k, C, ns, ds)
    | _ => none
  | _ => none
theorem muI_ok {v : V} {s : SV} {k : Nat} {C : Addr} {ns : List Str} {ds : List D} (w : World K Hk H M ls) (r : SVr K Hk ls ls.length v s) (e : muI M s = some (k, C, ns, ds)) :
    ∃ (l dx : Addr) (fs : List (Str × V)), v = .ref l ∧ ls[k]? = some l ∧ M[k]? = some (.i C ns ds) ∧ H l = some (.ins C dx fs) ∧ fs.map (·.1) = ns ∧ RpA K Hk (fs.map (·.2)) ds := by
  unfold muI at e
  split at e
  · rename_i j
    split at e
    · rename_i C' ns' ds' hM
      cases e
      obtain ⟨_, l, hl, rfl⟩ := r
      obtain ⟨l', hl', dx, fs, h1, h2, h3⟩ := w.ms k _ hM
      rw [hl] at hl'
      cases hl'
      exact ⟨l, dx, fs, rfl, hl, hM, h1, h2, h3⟩
    · cases e
  · cases e
end

/-! ### o.f -/
def fldS (C : Addr) (f : Str) (M : MS) (s : SV) : Option D := match muI M s with
  | some (_, C', ns, ds) => if C' = C then lookF f ns ds else none
  | none => none
def eFld (C : Addr) (f : Str) (m : EM R) : EM R := (fz m).seq fun s => fun _ M => match fldS C f M s with
  | some d => some (.sv (.dt d), M)
  | none => none
section
variable {X : Cx} {e o : Expr} {me mo : EM R} {f : Str} {C : Addr} {pos pos' : Pos}
theorem pm_fld (c : Cls X.K C) (n : NoAttr X.K C f) (h : PM X e me) (hb : attributeBase e f X.env (eval e X.env) = eval e X.env := by rfl) : PM X (.Attribute e f pos) (eFld C f me) :=
  PE.imp (pe_fld (PM.v h) hb) fun σ H Q ⟨Hk, ls, ρ, M, r, M', w, en, hm, q⟩ => by
  obtain ⟨s, M1, h1, h2⟩ := seq_some hm
  refine ⟨Hk, ls, ρ, M, s, M1, w, en, h1, fun v Hk1 H1 w1 x1 r1 => ?_⟩
  split at h2
  · rename_i d hd
    cases h2
    unfold fldS at hd
    split at hd
    · rename_i k C' ns ds hi
      split at hd
      · rename_i hC
        subst hC
        obtain ⟨l, dx, fs, rfl, hl, hM, hH, hn, hr⟩ := muI_ok w1 r1 hi
        subst hn
        obtain ⟨u, hu, ru⟩ := lookF_ok hr hd
        exact ⟨l, C', dx, fs, u, rfl, hH, c, n, hu, q u Hk1 H1 w1 x1 ru⟩
      · cases hd
    · cases hd
  · cases h2
/-- o.f = d -/
def putFld (C : Addr) (f : Str) (M : MS) (s : SV) (d : D) : Option MS := match muI M s with
  | some (k, C', ns, ds) => if C' = C ∧ ns.length < 1000 then some (M.set k (.i C (putN f d ns ds).1 (putN f d ns ds).2)) else none
  | none => none
theorem putFld_ok {K : PySem.W.Frag} {Hk H : Hp} {M M' : MS} {ls : List Addr} {x v : V} {s : SV} {d : D} (w : World K Hk H M ls) (rx : SVr K Hk ls ls.length x s) (rv : Rp K Hk v d) (e : putFld C f M s d = some M') :
    ∃ (a dx : Addr) (fs : List (Str × V)), x = .ref a ∧ H a = some (.ins C dx fs) ∧ fs.length < 1000 ∧ World K Hk (upd H a (.ins C dx (putF f v fs))) M' ls ∧ Ext ls Hk H Hk (upd H a (.ins C dx (putF f v fs))) := by
  unfold putFld at e
  split at e
  · rename_i k C' ns ds hi
    split at e
    · rename_i hC
      cases e
      obtain ⟨hC, hz⟩ := hC
      subst hC
      obtain ⟨l, dx, fs, rfl, hl, hM, hH, hn, hr⟩ := muI_ok w rx hi
      subst hn
      obtain ⟨p1, p2⟩ := putN_ok (f := f) rv hr
      refine ⟨l, dx, fs, rfl, hH, by rw [List.length_map] at hz; exact hz, w.setM hl hM ⟨dx, _, upd_same, p1, p2⟩, Ext.setM (List.mem_of_getElem? hl)⟩
    · cases e
  · cases e
def sFldPut (C : Addr) (f : Str) (mo me : EM R) : SM := fun ρ M => match fz me ρ M with
  | some (.dt d, M1) => match fz mo ρ M1 with
    | some (s, M2) => match putFld C f M2 s d with
      | some M3 => some (.nx ρ M3)
      | none => none
    | none => none
  | _ => none
theorem psm_fldPut (c : Cls X.K C) (n : NoAttr X.K C f) (ho : PM X o mo) (he : PM X e me) (hs : swapsWith e (some (.Attribute o f pos')) pos.line X.env = pure false := by rfl) : PSm X (.Assign [.Attribute o f pos'] e pos) (sFldPut C f mo me) :=
  PS.imp (ps_fld (PM.v ho) (PM.v he) hs) fun E σ H ⟨Hk, ls, ρ, M, r, w, en, hm, q⟩ => by
  unfold sFldPut at hm
  split at hm
  · rename_i d M1 h1
    split at hm
    · rename_i s M2 h2
      split at hm
      · rename_i M3 h3
        cases hm
        refine ⟨Hk, ls, ρ, M, _, M1, w, en, h1, fun y Hk1 H1 w1 x1 r1 => ?_⟩
        refine ⟨Hk1, ls, ρ, M1, s, M2, w1, en.mono x1.kk, h2, fun x Hk2 H2 w2 x2 r2 => ?_⟩
        obtain ⟨a, dx, fs, rfl, hH, hz, w3, x3⟩ := putFld_ok w2 r2 (Rp.mono x2.kk r1) h3
        exact ⟨a, C, dx, fs, rfl, hH, c, n, hz, q _ Hk2 _ ls w3 ((x1.trans x2).trans x3).s (en.mono (x1.trans x2).kk)⟩
      · cases hm
    · cases hm
  · cases hm

/-! ### several targets o.f, o.g, .. = a tuple -/
def gFld (K : PySem.W.Frag) (to : TE) (f : Str) : TG := fun v σ H Q => to σ H fun x H1 => ∃ a C dx fs, x = .ref a ∧ H1 a = some (.ins C dx fs) ∧ Cls K C ∧ NoAttr K C f ∧ fs.length < 1000 ∧ Q σ (upd H1 a (.ins C dx (putF f v fs)))
theorem pg_fld {to : TE} (ho : PE X o to) (ha : ∀ v, assign (.Attribute o f pos) X.env v = (do
      let ov ← holding [v] (eval o X.env)
      standAt pos.atName
      holding [v, ov] (setAttr ov f v)
      release [v, ov] []) := by intro _; rfl) : PG X (.Attribute o f pos) (gFld X.K to f) := by
  refine ⟨fun pins s σ H v u Q I r h => ?_⟩
  rw [ha]
  refine wpAny_bind (wpAny_holding (thn (ho.run pins s σ H _ I h) fun ov s1 ⟨x, H1, I1, r1, a, C, dx, fs, ex, ea, c, n, l, q⟩ => ?_))
  subst ex
  obtain rfl : ov = Value.ref a := r1
  refine wpAny_bind (wpAny_standAt (wpAny_bind (wpAny_holding (setattr_ok I1 ea c n l r fun s3 I3 => ?_))))
  exact wpAny_release ⟨σ, _, I3, q⟩
def FsM := List D → Env → MS → Option MS
def tFs (K : PySem.W.Frag) (g : FsM) : TGs := fun vs σ H Q => ∃ Hk ls ρ M ds M', World K Hk H M ls ∧ EnvR K Hk ls σ ρ ∧ RpA K Hk vs ds ∧ g ds ρ M = some M' ∧ ∀ Hk' H', World K Hk' H' M' ls → Ext ls Hk H Hk' H' → Q σ H'
def fsNil : FsM := fun ds _ M => match ds with
  | [] => some M
  | _ => none
def fsCons (C : Addr) (f : Str) (mo : EM R) (g : FsM) : FsM := fun ds ρ M => match ds with
  | d :: ds => match fz mo ρ M with
    | some (s, M1) => match putFld C f M1 s d with
      | some M2 => g ds ρ M2
      | none => none
    | none => none
  | [] => none
theorem pfs_nil : PGs X [] (tFs X.K fsNil) := PGs.imp pgs_nil fun vs σ H Q ⟨Hk, ls, ρ, M, ds, M', w, en, ra, hm, q⟩ => by
  unfold fsNil at hm
  split at hm
  · cases hm
    cases ra
    exact ⟨rfl, q Hk H w (Ext.refl _ _ _)⟩
  · cases hm
theorem pfs_cons {es : List Expr} {g : FsM} (c : Cls X.K C) (n : NoAttr X.K C f) (ho : PM X o mo) (hs : PGs X es (tFs X.K g)) (ha : ∀ v, assign (.Attribute o f pos) X.env v = (do
      let ov ← holding [v] (eval o X.env)
      standAt pos.atName
      holding [v, ov] (setAttr ov f v)
      release [v, ov] []) := by intro _; rfl) (h2 : (assignEach (.Attribute o f pos :: es) X.env).map (·.2) = assign (.Attribute o f pos) X.env :: (assignEach es X.env).map (·.2) := by rfl) : PGs X (.Attribute o f pos :: es) (tFs X.K (fsCons C f mo g)) :=
  PGs.imp (pgs_cons (pg_fld (PM.v ho) ha) hs h2) fun vs σ H Q ⟨Hk, ls, ρ, M, ds, M', w, en, ra, hm, q⟩ => by
  unfold fsCons at hm
  split at hm
  · rename_i d ds
    split at hm
    · rename_i s M1 h1
      split at hm
      · rename_i M2 h3
        cases ra with
        | cons rv rt =>
          refine ⟨_, _, rfl, Hk, ls, ρ, M, s, M1, w, en, h1, fun x Hk1 H1 w1 x1 r1 => ?_⟩
          obtain ⟨a, dx, fs, rfl, hH, hz, w3, x3⟩ := putFld_ok w1 r1 (Rp.mono x1.kk rv) h3
          exact ⟨a, C, dx, fs, rfl, hH, c, n, hz, Hk1, ls, ρ, M2, ds, M', w3, en.mono x1.kk, RpA.mono x1.kk rt, hm, fun Hk' H' w' x' => q Hk' H' w' ((x1.trans x3).trans x')⟩
      · cases hm
    · cases hm
  · cases hm
def sFlds (g : FsM) (n : Nat) (me : EM R) : SM := fun ρ M => match fz me ρ M with
  | some (.dt (.tup ds), M1) => if ds.length = n then (match g ds ρ M1 with
    | some M2 => some (.nx ρ M2)
    | none => none) else none
  | _ => none
theorem psm_flds {es : List Expr} {g : FsM} {n kk : Nat} {tpos : Pos} (hc : X.calm = true) (he : PM X e me) (hg : PGs X es (tFs X.K g)) (hs : swapsWithSole [.Tuple es kk tpos] e pos.line X.env = pure false := by rfl) (hw : swappedStores [.Tuple es kk tpos] e X.env = pure none := by rfl)
    (h1 : (assignEach [.Tuple es kk tpos] X.env).map (·.2) = [assign (.Tuple es kk tpos) X.env] := by rfl) (hn : (assignEach es X.env).length = n := by rfl) (hst : (assignEach es X.env).findIdx? (·.1) = none := by rfl) : PSm X (.Assign [.Tuple es kk tpos] e pos) (sFlds g n me) :=
  PS.imp (ps_asg (PM.v he) (pg_tup hc hg hn hst) hs hw h1) fun E σ H ⟨Hk, ls, ρ, M, r, w, en, hm, q⟩ => by
  unfold sFlds at hm
  split at hm
  · rename_i ds M1 h1
    split at hm
    · rename_i hlen
      split at hm
      · rename_i M2 h2
        cases hm
        refine ⟨Hk, ls, ρ, M, _, M1, w, en, h1, fun v Hk1 H1 w1 x1 r1 => ?_⟩
        cases r1 with
        | tup hq ra =>
          exact ⟨_, _, rfl, same_t w1.sub hq, by rw [ra.length]; exact hlen, Hk1, ls, ρ, M1, ds, M2, w1, en.mono x1.kk, ra, h2, fun Hk' H' w' x' => q _ Hk' H' ls w' (x1.trans x').s (en.mono (x1.trans x').kk)⟩
      · cases hm
    · cases hm
  · cases hm
end

/-! ### o.m(..) -/
section
variable {X : Cx} {CX : CXT} {k : Nat} {f C : Addr} {fd : FuncData} {ps : List Str} {sp : Sp} {dvs : List V} {ds : List Value} {E : XK} {x m : Str} {p pos apos : Pos} {e o : Expr} {es : List Expr} {ta : TE} {t : TA}
theorem pe_methG {pl : Sem Bool} (he : PE X o ta) (c : Cls X.K C) (hm : Meth X.K C m f) (F : FnG X.prog X.w X.K X.mg X.base CX k f fd ps sp) (hgd : X.A.guards = some []) (hr : Room k X.A) (hb : Binds X.K fd ps ds) (hd : Vals dvs ds) (hx : Passes CX X E) (ha : PA X (e :: es) t)
    (hst : starEach (e :: es) X.env = (false, eval e X.env) :: starEach es X.env := by rfl) (hpl : (backTo pos (starEach es X.env)).any (·.1) = false := by rfl)
    (ht : eval (.Call (.Attribute o m apos) (e :: es) [] pos) X.env = (do
      let ov ← eval o X.env
      standAt apos.atName
      let (f, first) ← holding [ov] (getMethod ov m pl)
      callWith pos f first (backTo pos (starEach (e :: es) X.env)) (backToKw pos (keywordEach [] X.env))) := by rfl) :
    PE X (.Call (.Attribute o m apos) (e :: es) [] pos) (tMeth C m sp dvs E ta t) := by
  constructor
  intro pins s σ H Q I h
  refine PySem.W.methodCall_KW (pl := pl) (thn (he.run pins s σ H _ I h) fun u s1 ⟨x, H1, I1, rx, a, dx, fs, ex, ea, l, q⟩ => ?_) ht
  cases ex
  cases (show u = Value.ref a from rx)
  refine getmeth_ok I1 ea c hm l ?_
  refine PySem.W.callWith_K (first := [.ref a]) (h₀ := X.base) I.ok.mod.kin hm.kp (thn (ha.run pos pins s1 σ H1 _ I1 q) fun us s2 ⟨vs, H2, I2, r, q2⟩ => ⟨I2.kIn, ?_⟩) hst hpl
  exact run_fng (us := .ref a :: us) (vs := .ref a :: vs) F hgd hr hb hd hx I2 (.cons rfl r) q2
theorem pe_methG0 {pl : Sem Bool} (he : PE X o ta) (c : Cls X.K C) (hm : Meth X.K C m f) (F : FnG X.prog X.w X.K X.mg X.base CX k f fd ps sp) (hgd : X.A.guards = some []) (hr : Room k X.A) (hb : Binds X.K fd ps ds) (hd : Vals dvs ds) (hx : Passes CX X E)
    (ht : eval (.Call (.Attribute o m apos) [] [] pos) X.env = (do
      let ov ← eval o X.env
      standAt apos.atName
      let (f, first) ← holding [ov] (getMethod ov m pl)
      callWith pos f first (backTo pos (starEach [] X.env)) (backToKw pos (keywordEach [] X.env))) := by rfl) :
    PE X (.Call (.Attribute o m apos) [] [] pos) (tMeth C m sp dvs E ta tNil) := by
  constructor
  intro pins s σ H Q I h
  refine PySem.W.methodCall_KW (pl := pl) (thn (he.run pins s σ H _ I h) fun u s1 ⟨x, H1, I1, rx, a, dx, fs, ex, ea, l, q⟩ => ?_) ht
  cases ex
  cases (show u = Value.ref a from rx)
  refine getmeth_ok I1 ea c hm l ?_
  exact PySem.W.callWith_K0 (first := [.ref a]) I1.kIn hm.kp (run_fng (us := [.ref a]) (vs := [.ref a]) F hgd hr hb hd hx I1 (.cons rfl .nil) q)
/-- the handle of an instance or an object: its class, its fields' names -/
def muIO (M : MS) : SV → Option (Addr × List Str)
  | .mu k => match M[k]? with
    | some (.i C ns _) => some (C, ns)
    | some (.o C ns _) => some (C, ns)
    | _ => none
  | _ => none
theorem muIO_ok {K : PySem.W.Frag} {Hk H : Hp} {M : MS} {ls : List Addr} {v : V} {s : SV} {C : Addr} {ns : List Str} (w : World K Hk H M ls) (r : SVr K Hk ls ls.length v s) (e : muIO M s = some (C, ns)) :
    ∃ (l dx : Addr) (fs : List (Str × V)), v = .ref l ∧ H l = some (.ins C dx fs) ∧ fs.map (·.1) = ns := by
  unfold muIO at e
  split at e
  · rename_i k
    split at e
    · rename_i C' ns' ds' hM
      cases e
      obtain ⟨_, l, hl, rfl⟩ := r
      obtain ⟨l', hl', dx, fs, h1, h2, h3⟩ := w.ms k _ hM
      rw [hl] at hl'
      cases hl'
      exact ⟨l, dx, fs, rfl, h1, h2⟩
    · rename_i C' ns' ds' hM
      cases e
      obtain ⟨_, l, hl, rfl⟩ := r
      obtain ⟨l', hl', dx, fs, h1, h2, h3⟩ := w.ms k _ hM
      rw [hl] at hl'
      cases hl'
      exact ⟨l, dx, fs, rfl, h1, h2⟩
    · cases e
  · cases e
def eMeth (C : Addr) (m : Str) (g : Fn) (mo : EM R) (ms : EM (List SV)) : EM R := (fz mo).seq fun s => fun ρ M => match muIO M s with
  | some (C', ns) => if C' = C ∧ ns.contains m = false then ms.seq (fun ss => fun _ M' => g (s :: ss) M') ρ M else none
  | none => none
theorem emeth_go {n : Nat} {g : Fn} {mo : EM R} {ms : EM (List SV)} {E : XK} (hn : ∀ ρ M ss M', ms ρ M = some (ss, M') → ss.length + 1 = n) : ∀ σ H Q, tM X.K (eMeth C m g mo ms) σ H Q → tMeth C m (spM X.K n g) [] E (tV X.K (fz mo)) (tA X.K ms) σ H Q := fun σ H Q ⟨Hk, ls, ρ, M, z, M', w, en, hm, q⟩ => by
  obtain ⟨s, M1, h1, h2⟩ := seq_some hm
  refine ⟨Hk, ls, ρ, M, s, M1, w, en, h1, fun v Hk1 H1 w1 x1 r1 => ?_⟩
  split at h2
  · rename_i C' ns hi
    split at h2
    · rename_i hC
      obtain ⟨hC, hno⟩ := hC
      subst hC
      obtain ⟨l, dx, fs, rfl, hH, hns⟩ := muIO_ok w1 r1 hi
      subst hns
      obtain ⟨ss, M2, h3, h4⟩ := seq_some h2
      refine ⟨l, dx, fs, rfl, hH, lookup_nope hno, Hk1, ls, ρ, M1, ss, M2, w1, en.mono x1.kk, h3, fun vs Hk2 H2 w2 x2 r2 => ?_⟩
      show spM X.K n g (V.ref l :: (vs ++ [])) H2 Q E
      rw [List.append_nil]
      exact ⟨Hk2, ls, M2, s :: ss, z, M', w2, .cons (r1.mono x2.kk) r2, hn ρ M1 ss M2 h3, h4, q.back (x1.trans x2)⟩
    · cases h2
  · cases h2
theorem emeth0_go {g : Fn} {mo : EM R} {E : XK} : ∀ σ H Q, tM X.K (eMeth C m g mo eNil) σ H Q → tMeth C m (spM X.K 1 g) [] E (tV X.K (fz mo)) tNil σ H Q := fun σ H Q ⟨Hk, ls, ρ, M, z, M', w, en, hm, q⟩ => by
  obtain ⟨s, M1, h1, h2⟩ := seq_some hm
  refine ⟨Hk, ls, ρ, M, s, M1, w, en, h1, fun v Hk1 H1 w1 x1 r1 => ?_⟩
  split at h2
  · rename_i C' ns hi
    split at h2
    · rename_i hC
      obtain ⟨hC, hno⟩ := hC
      subst hC
      obtain ⟨l, dx, fs, rfl, hH, hns⟩ := muIO_ok w1 r1 hi
      subst hns
      obtain ⟨ss, M2, h3, h4⟩ := seq_some h2
      cases h3
      exact ⟨l, dx, fs, rfl, hH, lookup_nope hno, Hk1, ls, M1, [s], z, M', w1, .cons r1 .nil, rfl, h4, q.back x1⟩
    · cases h2
  · cases h2
/-- a method by its mirror, where it stands -/
structure MethOk (P : Program) (w : PySem.World) (K : PySem.W.Frag) (mg : Str → Option Value) (base : Heap) (k : Nat) (C : Addr) (m : Str) (f : Addr) (fd : FuncData) (ps : List Str) (g : Fn) : Prop where
  cl : Cls K C
  mt : Meth K C m f
  bd : Binds K fd ps []
  ok : FnG P w K mg base CX0 k f fd ps (spM K ps.length g)
theorem pm_meth {g : Fn} {mo : EM R} {ms : EM (List SV)} {pl : Sem Bool} (F : MethOk X.prog X.w X.K X.mg X.base k C m f fd ps g) (hgd : X.A.guards = some []) (hr : Room k X.A) (ho : PM X o mo) (ha : PAm X (e :: es) ms) (hn : ∀ ρ M ss M', ms ρ M = some (ss, M') → ss.length + 1 = ps.length)
    (hst : starEach (e :: es) X.env = (false, eval e X.env) :: starEach es X.env := by rfl) (hpl : (backTo pos (starEach es X.env)).any (·.1) = false := by rfl)
    (ht : eval (.Call (.Attribute o m apos) (e :: es) [] pos) X.env = (do
      let ov ← eval o X.env
      standAt apos.atName
      let (f, first) ← holding [ov] (getMethod ov m pl)
      callWith pos f first (backTo pos (starEach (e :: es) X.env)) (backToKw pos (keywordEach [] X.env))) := by rfl) :
    PM X (.Call (.Attribute o m apos) (e :: es) [] pos) (eMeth C m g mo ms) := PE.imp (pe_methG (pl := pl) (PM.v ho) F.cl F.mt F.ok hgd hr F.bd .nil pass0 ha hst hpl ht) (emeth_go hn)
theorem pm_meth0 {g : Fn} {mo : EM R} {pl : Sem Bool} (F : MethOk X.prog X.w X.K X.mg X.base k C m f fd ps g) (h1 : ps.length = 1) (hgd : X.A.guards = some []) (hr : Room k X.A) (ho : PM X o mo)
    (ht : eval (.Call (.Attribute o m apos) [] [] pos) X.env = (do
      let ov ← eval o X.env
      standAt apos.atName
      let (f, first) ← holding [ov] (getMethod ov m pl)
      callWith pos f first (backTo pos (starEach [] X.env)) (backToKw pos (keywordEach [] X.env))) := by rfl) :
    PM X (.Call (.Attribute o m apos) [] [] pos) (eMeth C m g mo eNil) := by
  have G := F.ok
  rw [h1] at G
  exact PE.imp (pe_methG0 (pl := pl) (PM.v ho) F.cl F.mt G hgd hr F.bd .nil pass0 ht) emeth0_go

/-! ### C(..) -/
theorem under_guards {A : Around} {C : Addr} {us : List Value} (h : A.guards = some []) : (A.under (.builtin "type.__call__" ⟨.ref C :: us, []⟩)).guards = some [] := by
  show pushGuards (Code.guards (.builtin "type.__call__" ⟨.ref C :: us, []⟩)) A.guards = some []
  have e : Code.guards (.builtin "type.__call__" ⟨.ref C :: us, []⟩) = [] := by
    unfold Code.guards
    rw [if_neg]
    show ¬ (Code.isGuard (.builtin "type.__call__" ⟨.ref C :: us, []⟩) = true)
    have : Code.isGuard (.builtin "type.__call__" ⟨.ref C :: us, []⟩) = false := by
      kernel_rfl
    rw [this]
    exact Bool.false_ne_true
  rw [e]
  exact h
theorem run_makeG {pins : List (Addr × Obj)} {σ : L2.St} {H : Hp} {s : Shared} {Q : VK} {us : List Value} {vs : List V} (M : Mk X.K C f) (F : FnG X.prog X.w X.K X.mg X.base CX k f fd ps sp) (hgd : X.A.guards = some []) (hr : Room (k + 1) X.A) (hb : Binds X.K fd ps ds) (hd : Vals dvs ds)
    (hx : Passes CX X E) (I : Inv X pins σ H s) (r : Vals vs us)
    (h : ∀ x dx, H x = none → H dx = none → dx ≠ x → sp (.ref x :: (vs ++ dvs)) (upd (upd H dx (.own x)) x (.ins C dx [])) (fun v H2 => v = .non ∧ Q (.ref x) H2) E) :
    wpAny (model X.prog X.w) X.A (call (.ref C) us) (EP X pins σ Q) X.xe s := by
  have hq := h (s.heap.objs.size + 1) s.heap.objs.size (I.hok.fresh (Nat.le_succ _)) (I.hok.fresh (Nat.le_refl _)) (Nat.ne_of_lt (Nat.lt_succ_self _))
  have I2 := Inv.made (C := C) I
  have r2 : Vals (V.ref (s.heap.objs.size + 1) :: (vs ++ dvs)) (Value.ref (s.heap.objs.size + 1) :: (us ++ ds)) := .cons rfl (r.append hd)
  have hl : (Value.ref (s.heap.objs.size + 1) :: us ++ ds).length = ps.length := r2.length.symm.trans (F.ln _ _ _ _ hq)
  refine wpAny_call (make_map (f := f) I.kIn M.makes M.init (beq_iff_eq.mp M.fn) (codeAny_mono (F.go _ X.stack _ _ ⟨Value.ref (s.heap.objs.size + 1) :: us, []⟩ (Value.ref (s.heap.objs.size + 1) :: (us ++ ds)) _ _ E (under_guards hgd) (hr.make C us [])
    (I2.env0.make C us []) (hb _ (Value.ref (s.heap.objs.size + 1) :: us) I2.kIn hl) r2 hq) ?_))
  rintro (e | (_ | _ | _ | u)) s' hq'
  · exact hx pins σ _ _ e s' I2 hq'
  · exact hq'.elim
  · exact hq'.elim
  · exact hq'.elim
  · obtain ⟨v, H', I3, rv, ev, q3⟩ := I2.after hq'
    cases ev
    exact ⟨rv, ⟨V.ref (s.heap.objs.size + 1), H', I3, rfl, q3⟩⟩
theorem pe_makeG (M : Mk X.K C f) (F : FnG X.prog X.w X.K X.mg X.base CX k f fd ps sp) (hgd : X.A.guards = some []) (hr : Room (k + 1) X.A) (hg : Gl X x) (hm : X.mg x = some (.ref C)) (hb : Binds X.K fd ps ds) (hd : Vals dvs ds) (hx : Passes CX X E)
    (ha : PA X (e :: es) t) (hdb : (x == ("__debug__" : Str)) = false := by decide) (he : starEach (e :: es) X.env = (false, eval e X.env) :: starEach es X.env := by rfl) (hpl : (backTo pos (starEach es X.env)).any (·.1) = false := by rfl) :
    PE X (.Call (.Name x p) (e :: es) [] pos) (tMake C sp dvs E t) := by
  constructor
  intro pins s σ H Q I h
  refine wpAny_Call_Name_kw (ld_glob I hg hm (PySem.W.callWith_K (h₀ := X.base) I.ok.mod.kin M.kp ?_ he hpl) hdb)
  exact thn (ha.run pos pins s σ H _ I h) fun us s1 ⟨vs, H1, I1, r, q⟩ => ⟨I1.kIn, run_makeG M F hgd hr hb hd hx I1 r q⟩
/-- C(..), its instance a closed thing -/
def eMake (C : Addr) (g : Fn) (ms : EM (List SV)) : EM R := ms.seq fun ss => fun _ M => match g (.mu M.length :: ss) (M ++ [.i C [] []]) with
  | some (.sv (.dt .non), M') => match M'[M.length]? with
    | some (.i C' _ _) => if C' = C ∧ cutOk M' M.length = true then some (.sv (.dt (.obj C)), M'.take M.length) else none
    | _ => none
  | _ => none
theorem emake_go {n : Nat} {g : Fn} {ms : EM (List SV)} {E : XK} (O : ObjC X.K C) (hn : ∀ ρ M ss M', ms ρ M = some (ss, M') → ss.length + 1 = n) : ∀ σ H Q, tM X.K (eMake C g ms) σ H Q → tMake C (spM X.K n g) [] E (tA X.K ms) σ H Q := fun σ H Q ⟨Hk, ls, ρ, M, z, M', w, en, hm, q⟩ => by
  obtain ⟨ss, M1, h1, h2⟩ := seq_some hm
  refine ⟨Hk, ls, ρ, M, ss, M1, w, en, h1, fun vs Hk1 H1 w1 x1 r1 => ?_⟩
  intro x dx hx hdx hne
  rw [List.append_nil]
  split at h2
  · rename_i M2 hg
    split at h2
    · rename_i C' ns ds hM2
      split at h2
      · rename_i hC
        obtain ⟨hC, hcut⟩ := hC
        subst hC
        cases h2
        have fx := w1.fresh hx
        have wA : World X.K Hk1 (upd (upd H1 dx (.own x)) x (.ins C' dx [])) M1 ls := (w1.upd_new hdx).upd_new (by rw [upd_ne (Ne.symm hne)]; exact hx)
        have wB := wA.push (l := x) (o := .i C' [] []) fx.2 fx.1 ⟨dx, [], upd_same, rfl, .nil⟩
        have old : ∀ a, H1 a ≠ none → a ≠ x ∧ a ≠ dx := fun a h => ⟨fun z => h (z ▸ hx), fun z => h (z ▸ hdx)⟩
        refine ⟨Hk1, ls ++ [x], M1 ++ [.i C' [] []], .mu M1.length :: ss, _, M2, wB, .cons ⟨by rw [w1.len]; simp, x, by rw [w1.len, List.getElem?_append_right (Nat.le_refl _)]; simp, rfl⟩ ((SVs.more r1).up (by simp)), hn ρ M ss M1 h1, hg, ?_⟩
        intro v Hk2 H2 w2 x2 r2
        refine ⟨by cases (show Rp X.K Hk2 v .non from r2); rfl, ?_⟩
        have hlen : M1.length = ls.length := w1.len
        rw [hlen] at hM2
        obtain ⟨l, hl, dx', fs, hH, _, _⟩ := w2.ms _ _ hM2
        rw [List.getElem?_append_right (Nat.le_refl _)] at hl
        have el : x = l := by simpa using hl
        subst el
        rw [hlen] at hcut
        have w3 := w2.cut hcut
        have hk2 : Hk2 x = none := w2.dj x (List.mem_append_right _ (List.mem_singleton.mpr rfl))
        have x3 : Ext ls Hk1 H1 Hk2 H2 := by
          refine ⟨x2.kk, fun a o h hn => ?_, fun a h => ?_, fun a h => ?_⟩
          · obtain ⟨n1, n2⟩ := old a (by rw [h]; simp)
            refine x2.fr a o (by rw [upd_ne n1, upd_ne n2]; exact h) fun z => ?_
            rcases List.mem_append.mp z with z | z
            · exact hn z
            · exact n1 (List.mem_singleton.mp z)
          · rcases x2.gr a h with h | h
            · exact .inl h
            · right
              cases e : H1 a with
              | none => rfl
              | some o =>
                obtain ⟨n1, n2⟩ := old a (by rw [e]; simp)
                rw [upd_ne n1, upd_ne n2, e] at h
                cases h
          · obtain ⟨n1, n2⟩ := old a h
            exact x2.st a (by rw [upd_ne n1, upd_ne n2]; exact h)
        rw [hlen] at q
        refine q (.ref x) (upd Hk2 x (.ins C' dx' fs)) H2 (w3.freeze fx.2 hH hk2) (x1.trans (x3.freeze hx hk2)) ?_
        exact Rp.obj upd_same O
      · cases h2
    · cases h2
  · cases h2
/-- a class that is made by its __init__'s mirror -/
structure MakeOk (P : Program) (w : PySem.World) (K : PySem.W.Frag) (mg : Str → Option Value) (base : Heap) (k : Nat) (x : Str) (C f : Addr) (fd : FuncData) (ps : List Str) (g : Fn) : Prop where
  gl : mg x = some (.ref C)
  ob : ObjC K C
  mr : Mk K C f
  bd : Binds K fd ps []
  ok : FnG P w K mg base CX0 k f fd ps (spM K ps.length g)
theorem pm_make {g : Fn} {ms : EM (List SV)} (F : MakeOk X.prog X.w X.K X.mg X.base k x C f fd ps g) (hgd : X.A.guards = some []) (hr : Room (k + 1) X.A) (ha : PAm X (e :: es) ms) (hn : ∀ ρ M ss M', ms ρ M = some (ss, M') → ss.length + 1 = ps.length)
    (hg : Gl X x := by rfl) (hdb : (x == ("__debug__" : Str)) = false := by decide) (he : starEach (e :: es) X.env = (false, eval e X.env) :: starEach es X.env := by rfl) (hpl : (backTo pos (starEach es X.env)).any (·.1) = false := by rfl) :
    PM X (.Call (.Name x p) (e :: es) [] pos) (eMake C g ms) := PE.imp (pe_makeG F.mr F.ok hgd hr hg F.gl F.bd .nil pass0 ha hdb he hpl) (emake_go F.ob hn)
end
end Dy

set_option Elab.async false
set_option linter.all false
set_option maxRecDepth 100000
set_option maxHeartbeats 4000000
/-! Layer Dy, part 14: calls and loops over empty things, dict(pairs). -/
namespace Dy
open PySem L2 PySem.Spec PyProof.Rows

/-! ### max([], default = d) -/
theorem args_maxD (a d : Value) : argsOk "max" ⟨[a], [(Str.ofString "default", d)]⟩ := by unfold argsOk; kernel_rfl
theorem call_kw_tree {prog : Program} {w : PySem.World} {A : Around} {E : Value → Shared → Prop} {s : Shared} {id : String} {b : Builtin} {args : List Value} {kw : List (Str × Value)} {Q : Value → Shared → Prop} (hk : builtinKind id = none) (hp : plainId id = true)
    (hb : entryFor table id = some b) (ha : argsOk id ⟨args, kw⟩)
    (hc : wpAny (model prog w) A.in1 (b ⟨args, kw⟩) (fun fin s' => match fin with
      | .done f => (match (Except.ok f : Result) with | .ok (.ret v) => Q v s' | .ok _ => False | .error e => E e s')
      | .again c' => c'.quiet = true ∧ codeAny (model prog w) A c' (fun r s' => match r with | .ok (.ret v) => Q v s' | .ok _ => False | .error e => E e s') s') E s) :
    wpAny (model prog w) A (call (.builtin id) args kw) Q E s := by
  refine wpAny_call (codeAny_call_builtin hp hb ?_)
  simp only [checkBuiltinCall, hk]
  cases hsig : Manifest.signature? id with
  | none => exact wpAny_pure hc
  | some sig =>
    simp only [argsOk, hsig] at ha
    have h2 : Bind.checkArgs id sig ⟨args, kw⟩ = pure () := ha
    show wpAny _ A.in1 (Bind.checkArgs id sig ⟨args, kw⟩) _ _ s
    rw [h2]
    exact wpAny_pure hc
theorem max_default0 {prog : Program} {w : PySem.World} {A : Around} {E : Value → Shared → Prop} {s : Shared} {l : Addr} {d : Value} {Q : Value → Shared → Prop} (hh : A.handled = none) (hl : s.heap.IsList l #[])
    (h : ∀ h' tk, (∀ b o, s.heap.get? b = some o → h'.get? b = some o) → Q d { s with heap := h', toks := tk }) : wpAny (model prog w) A (call (.builtin "max") [.ref l] [(Str.ofString "default", d)]) Q E s := by
  have hname : (toString "max" ++ toString ".loop" : String) = "max.loop" := by decide
  have e0 : intItems #[] = #[] := by simp [intItems]
  have hl2 : s.heap.IsList l (intItems #[]) := by rw [e0]; exact hl
  refine call_kw_tree F.kind_max F.plain_max F.entry_max (args_maxD _ _) ?_
  show wpAny _ A.in1 (Builtin.Builtins.bindParams "max" ["key", "default"] 0 ⟨[], [(Str.ofString "default", d)]⟩ >>= _) _ _ s
  refine wpAny_bind (wpAny_of_eq (show Builtin.Builtins.bindParams "max" ["key", "default"] 0 ⟨[], [(Str.ofString "default", d)]⟩ = pure [none, some d] from rfl) ?_)
  refine wpAny_bind (wpAny_pure ?_)
  refine wpAny_bind (iter_intList hl2 fun s₂ e st hfp hlI => ?_)
  subst e
  rw [e0] at st
  have W := Walks.list (prog := prog) (w := w) (A := A.in1) hh _ l hlI #[]
  refine wpAny_bind (wpAny_newObj_type ?_)
  rw [hname]
  refine wpAny_pure ⟨plainId_quiet F.plain_max_loop _, ?_⟩
  refine codeAny_builtin F.entry_max_loop ?_
  rw [Around.under_plainId F.plain_max_loop _]
  show wpAny _ A.in1 (seqItems? (.ref _) >>= _) _ _ _
  refine wpAny_bind (wpAny_seqItems (Heap.get?_push_size _ rfl) rfl ?_)
  show wpAny _ A.in1 (tryCatch (pyNext (.ref _)) _ >>= _) _ _ _
  refine wpAny_bind (wpAny_tryCatch (W.done _ _ _ (W.frame _ _ _ st fun b _ o e => Heap.get?_push_of_some _ e) fun h' tk hk' => ?_))
  show wpAny _ A.in1 (rule _ >>= _) _ _ _
  refine wpAny_bind (wpAny_rule ?_)
  refine wpAny_pure (h h' tk fun b o e => ?_)
  refine hk' b o (fun z => ?_) (Heap.get?_push_of_some _ (Heap.get?_push_of_some _ e))
  have hb : b = s.heap.objs.size := by simpa using z
  exact absurd hb (Nat.ne_of_lt (Heap.lt_size e))

/-! ### mirrors -/
section
variable {X : Cx} {e e2 tg : Expr} {es : List Expr} {ms : EM (List SV)} {me : EM R} {p p2 q pos kpos : Pos} {st : Stmt}
/-- len(set(e)), no text or one -/
def lenSetS (M : MS) (s : SV) : Option D := match itemsD M s with
  | some ds => match dStrs ds with
    | some ys => if ys.length ≤ 1 then some (.int ys.length) else none
    | none => none
  | none => none
def eLenSet (m : EM R) : EM R := (fz m).seq fun s => fun _ M => match lenSetS M s with
  | some d => some (.sv (.dt d), M)
  | none => none
theorem pm_lenSet (B : Blt X.mg) (hc : X.calm = true) (h : PM X e me) (hg : Gl X "len" := by rfl) (hg2 : Gl X "set" := by rfl) (na : starEach [e] X.env = (false, eval e X.env) :: starEach [] X.env := by rfl) : PM X (.Call (.Name "len" p) [.Call (.Name "set" p2) [e] [] q] [] pos) (eLenSet me) :=
  PE.imp (pe_lenSet hc hg (B _ (by decide +kernel)) hg2 (B _ (by decide +kernel)) (PM.v h) na) fun σ H Q ⟨Hk, ls, ρ, M, r, M', w, en, hm, q⟩ => by
  obtain ⟨s, M1, h1, h2⟩ := seq_some hm
  refine ⟨Hk, ls, ρ, M, s, M1, w, en, h1, fun v Hk1 H1 w1 x1 r1 => ?_⟩
  split at h2
  · rename_i d hd
    cases h2
    unfold lenSetS at hd
    split at hd
    · rename_i ds hds
      split at hd
      · rename_i ys hy
        split at hd
        · rename_i hz
          cases hd
          obtain ⟨b, ws, rfl, hb, ra⟩ := itemsD_ok w1 r1 hds
          have := dStrs_ok ra hy
          subst this
          exact ⟨b, ys, rfl, hb, hz, q _ Hk1 H1 w1 x1 (Rp.int _)⟩
        · cases hd
      · cases hd
    · cases hd
  · cases h2
/-- sorted(e), nothing in it -/
def sorted0S (M : MS) (s : SV) : Option R := match listD M s with
  | some [] => some (.fr [])
  | some _ => none
  | none => match s with
    | .dt (.dct [] []) => some (.fr [])
    | _ => none
def rSorted0 (K : PySem.W.Frag) : List V → Hp → VK → Prop := fun vs H Q => ∃ a, vs = [.ref a] ∧ (H a = some (.lst []) ∨ Rd H a (.dK [])) ∧ ∀ p, H p = none → Q (.ref p) (upd H p (.lst []))
theorem cr_sorted0 (hc : X.calm = true) : CallR X (.builtin "sorted") (rSorted0 X.K) := by
  intro pins s σ H vs us Q I r h
  obtain ⟨a, rfl, hs | hs, q⟩ := h
  · refine cr_sortedS pins s σ H _ us Q I r ⟨a, [], rfl, SqL.of hs, by decide, fun ys p hp _ hn => ?_⟩
    cases List.perm_nil.mp hp
    exact q p hn
  · refine call_sortedD hc pins s σ H _ us Q I r ⟨a, [], [], rfl, hs, rfl, by decide, fun ys p hp _ hn => ?_⟩
    cases List.perm_nil.mp hp
    exact q p hn
theorem calld_sorted0 {K : PySem.W.Frag} : CallD K (rSorted0 K) (g1 sorted0S) := CallD.one fun Hk H M ls v s z Q w r e q => by
  unfold sorted0S at e
  split at e
  · rename_i hd
    cases e
    obtain ⟨a, vs, rfl, hq, ra⟩ := listD_ok w r hd
    cases ra
    exact ⟨a, rfl, .inl hq, fun p hp => q.newL w hp .nil⟩
  · cases e
  · split at e
    · cases e
      cases r with
      | dct h hk hx ha =>
        rename_i a kvs xs
        have : kvs = [] := List.map_eq_nil_iff.mp hk
        subst this
        exact ⟨_, rfl, .inr (.inl (w.sub _ _ h)), fun p hp => q.newL w hp .nil⟩
    · cases e
theorem pm_sorted0 (B : Blt X.mg) (hc : X.calm = true) (ha : PAm X [e] ms) (hg : Gl X "sorted" := by rfl) (he : starEach (e :: []) X.env = (false, eval e X.env) :: starEach [] X.env := by rfl) : PM X (.Call (.Name "sorted" p) [e] [] pos) (eCall (g1 sorted0S) ms) := pm_callB (cr_sorted0 hc) calld_sorted0 hg (B _ (by decide +kernel)) PyProof.Rows.boot_sorted ha (by decide) (by decide) he rfl
/-- max(e, default = d), nothing in e -/
def rMax0 : List V → List V → Hp → VK → Prop := fun vs zs H Q => ∃ a z, vs = [.ref a] ∧ zs = [z] ∧ H a = some (.lst []) ∧ Q z H
theorem cr_max0 (hc : X.calm = true) : CallRK X (.builtin "max") [Str.ofString "default"] rMax0 := by
  intro pins s σ H vs zs us ws Q I r rz h
  obtain ⟨a, z, rfl, rfl, hs, q⟩ := h
  obtain rfl := Vals.ref1 r
  obtain ⟨w1, rfl, e1⟩ := vals1 rz
  obtain ⟨its, rv, hl, _⟩ := I.list (SqL.of hs)
  cases rv
  exact max_default0 (I.ok.hd hc) hl.isList fun h' tk hk => ⟨z, H, I.kept hk, e1, q⟩
def eMax0 (me md : EM R) : EM R := (fz me).seq fun s => (fz md).seq fun t => fun _ M => match listD M s with
  | some [] => some (.sv t, M)
  | _ => none
theorem pm_max0 {md : EM R} {nm : Option Str} (B : Blt X.mg) (hc : X.calm = true) (h : PM X e me) (hd : PM X e2 md) (hg : Gl X "max" := by rfl)
    (he : backTo pos (starEach (e :: []) X.env) = (false, eval e X.env) :: backTo pos (starEach [] X.env) := by rfl) (hpl : (backTo pos (starEach (e :: []) X.env)).any (·.1) = false := by rfl) (hst : starEach (e :: []) X.env = (false, eval e X.env) :: starEach [] X.env := by rfl)
    (hall : (backToKw pos (keywordEach [⟨nm, e2, kpos⟩] X.env)).all (·.1.isSome) = true := by rfl) (hnone : (backToKw pos (keywordEach [⟨nm, e2, kpos⟩] X.env)).any (·.1.isNone) = false := by rfl) (hks : (backToKw pos (keywordEach [⟨nm, e2, kpos⟩] X.env)).filterMap (·.1) = [Str.ofString "default"] := by rfl) :
    PM X (.Call (.Name "max" p) [e] [⟨nm, e2, kpos⟩] pos) (eMax0 me md) :=
  PE.imp (pe_callBK (cr_max0 hc) hg (B _ (by decide +kernel)) PyProof.Rows.boot_max (pa_cons (PM.v h) pa_nil hst) (pk_cons (PM.v hd) pk_nil) (by decide) (by decide) he hpl hall hnone hks) fun σ H Q ⟨Hk, ls, ρ, M, r, M', w, en, hm, q⟩ => by
  obtain ⟨s, M1, h1, h2⟩ := seq_some hm
  obtain ⟨t, M2, h3, h4⟩ := seq_some h2
  refine ⟨Hk, ls, ρ, M, s, M1, w, en, h1, fun v Hk1 H1 w1 x1 r1 => ?_⟩
  refine ⟨Hk1, ls, ρ, M1, t, M2, w1, en.mono x1.kk, h3, fun u Hk2 H2 w2 x2 r2 => ?_⟩
  split at h4
  · rename_i hd
    cases h4
    obtain ⟨a, vs, rfl, hq, ra⟩ := listD_ok w2 (r1.mono x2.kk) hd
    cases ra
    exact ⟨a, u, rfl, rfl, hq, q u Hk2 H2 w2 (x1.trans x2) r2⟩
  · cases h4
/-! ### dict(pairs) -/
def swapD (k : Key) (d : D) : List Key → List D → List D
  | j :: ks, x :: xs => (if j = k then d else x) :: swapD k d ks xs
  | _, _ => []
def putKD (k : Key) (d : D) (ks : List Key) (vs : List D) : List Key × List D := if (ks.any fun j => decide (j = k)) = true then (ks, swapD k d ks vs) else (ks ++ [k], vs ++ [d])
theorem swapD_ok {K : PySem.W.Frag} {Hk : Hp} {k : Key} {v : V} {d : D} (rv : Rp K Hk v d) : ∀ {kvs : List (Key × V)} {ds : List D}, RpA K Hk (kvs.map (·.2)) ds → RpA K Hk ((kvs.map fun kv => if kv.1 = k then (kv.1, v) else kv).map (·.2)) (swapD k d (kvs.map (·.1)) ds)
  | [], _, r => by cases r; exact .nil
  | (j, u) :: kvs, _, .cons (d := x) (ds := xs) r t => by
    by_cases h : j = k
    · simp only [List.map_cons, swapD, if_pos h]
      exact .cons rv (swapD_ok rv t)
    · simp only [List.map_cons, swapD, if_neg h]
      exact .cons r (swapD_ok rv t)
theorem any_contains (k : Key) (kvs : List (Key × V)) : (kvs.any fun kv => decide (kv.1 = k)) = (kvs.map (·.1)).any (fun j => decide (j = k)) := by
  rw [List.any_map]
  rfl
theorem putKD_ok {K : PySem.W.Frag} {Hk : Hp} {k : Key} {v : V} {d : D} {kvs : List (Key × V)} {ds : List D} (rv : Rp K Hk v d) (r : RpA K Hk (kvs.map (·.2)) ds) :
    (putK kvs k v).map (·.1) = (putKD k d (kvs.map (·.1)) ds).1 ∧ RpA K Hk ((putK kvs k v).map (·.2)) (putKD k d (kvs.map (·.1)) ds).2 := by
  have e := any_contains k kvs
  unfold putK putKD
  rw [e]
  split
  · refine ⟨?_, swapD_ok rv r⟩
    rw [List.map_map]
    refine List.map_congr_left fun a _ => ?_
    show (if a.1 = k then (a.1, v) else a).1 = a.1
    split <;> rfl
  · rw [List.map_append, List.map_append]
    exact ⟨rfl, r.append (.cons rv .nil)⟩
def pairsD : List D → Option (List (Key × D))
  | [] => some []
  | .tup [a, b] :: r => match keyD (.dt a), pairsD r with
    | some k, some ps => some ((k, b) :: ps)
    | _, _ => none
  | _ => none
theorem pairsD_ok {K : PySem.W.Frag} {Hk H : Hp} (sub : Same Hk H) : ∀ {vs : List V} {ds : List D} {kds : List (Key × D)}, RpA K Hk vs ds → pairsD ds = some kds →
    ∃ (ps : List Addr) (kvs : List (Key × V)), vs = ps.map V.ref ∧ Paired (fun p kv => SqT K H p [kV kv.1, kv.2]) ps kvs ∧ kvs.map (·.1) = kds.map (·.1) ∧ RpA K Hk (kvs.map (·.2)) (kds.map (·.2))
  | _, _, _, .nil, e => by cases e; exact ⟨[], [], rfl, .nil, rfl, .nil⟩
  | _, _, _, .cons (d := d) (ds := ds) r t, e => by
    unfold pairsD at e
    split at e
    · cases ‹_ :: _ = []›
    · rename_i a b r' heq
      cases heq
      split at e
      · rename_i k ps hk hp
        cases e
        obtain ⟨qs, kvs, rfl, h1, h2, h3⟩ := pairsD_ok sub t hp
        cases r with
        | tup hq ra =>
          rename_i p xs
          cases ra with
          | cons ra1 ra2 =>
            cases ra2 with
            | cons ra2 ra3 =>
              cases ra3
              have ek := keyD_ok (K := K) (Hk := Hk) (ls := []) (n := 0) (s := .dt a) ra1 hk
              subst ek
              exact ⟨p :: qs, (k, _) :: kvs, rfl, .cons (same_t sub hq) h1, by rw [List.map_cons, h2]; rfl, .cons ra2 h3⟩
      · cases e
    · cases e
def mergeD (ks : List Key) (vs : List D) : List (Key × D) → List Key × List D
  | [] => (ks, vs)
  | (k, d) :: r => mergeD (putKD k d ks vs).1 (putKD k d ks vs).2 r
theorem mergeD_ok {K : PySem.W.Frag} {Hk : Hp} : ∀ {more : List (Key × V)} {kds : List (Key × D)} {kvs : List (Key × V)} {ds : List D}, more.map (·.1) = kds.map (·.1) → RpA K Hk (more.map (·.2)) (kds.map (·.2)) → RpA K Hk (kvs.map (·.2)) ds →
    (mergeK kvs more).map (·.1) = (mergeD (kvs.map (·.1)) ds kds).1 ∧ RpA K Hk ((mergeK kvs more).map (·.2)) (mergeD (kvs.map (·.1)) ds kds).2
  | [], [], _, _, _, _, r => ⟨rfl, r⟩
  | [], _ :: _, _, _, e, _, _ => by cases e
  | _ :: _, [], _, _, e, _, _ => by cases e
  | (k, v) :: more, (j, d) :: kds, kvs, ds, e, .cons r1 r2, r => by
    rw [List.map_cons, List.map_cons] at e
    injection e with e1 e2
    have e1' : k = j := e1
    subst e1'
    obtain ⟨h1, h2⟩ := putKD_ok (k := k) (v := v) (d := d) r1 r
    have ih := mergeD_ok (kvs := putK kvs k v) e2 r2 h2
    rw [h1] at ih
    exact ih
def dictPS (M : MS) (s : SV) : Option R := match listD M s with
  | some ds => match pairsD ds with
    | some kds => some (.fd (mergeD [] [] kds).1 (mergeD [] [] kds).2)
    | none => none
  | none => none
theorem calld_dictP {K : PySem.W.Frag} : CallD K (fun xs H Q => ∃ (a : Addr) (ps : List Addr) (kvs : List (Key × V)), xs = [.ref a] ∧ SqL K H a (ps.map V.ref) ∧ Paired (fun p kv => SqT K H p [kV kv.1, kv.2]) ps kvs ∧
    ∀ p, H p = none → Q (.ref p) (upd H p (.dK (mergeK [] kvs)))) (g1 dictPS) := CallD.one fun Hk H M ls v s z Q w r e q => by
  unfold dictPS at e
  split at e
  · rename_i ds hd
    split at e
    · rename_i kds hp
      cases e
      obtain ⟨a, vs, rfl, hq, ra⟩ := listD_ok w r hd
      obtain ⟨ps, kvs, rfl, h1, h2, h3⟩ := pairsD_ok w.sub ra hp
      obtain ⟨m1, m2⟩ := mergeD_ok (kvs := []) (ds := []) h2 h3 .nil
      exact ⟨a, ps, kvs, rfl, SqL.of hq, h1, fun p hp => q.newD w hp m1 m2⟩
    · cases e
  · cases e
theorem pm_dictP (B : Blt X.mg) (hc : X.calm = true) (ha : PAm X [e] ms) (hg : Gl X "dict" := by rfl) (he : starEach (e :: []) X.env = (false, eval e X.env) :: starEach [] X.env := by rfl) : PM X (.Call (.Name "dict" p) [e] [] pos) (eCall (g1 dictPS) ms) := pm_callTy (call_dictP hc) calld_dictP hg (B _ (by decide +kernel)) PyProof.Rows.boot_dict ha (by decide) (by decide) he rfl
end
/-! ### loops over nothing -/
section
variable {X : Cx} {e tg : Expr} {pos apos cpos fpos : Pos}
theorem pg_none : PG X tg (fun _ _ _ _ => False) := ⟨fun _ _ _ _ _ _ _ _ _ h => h.elim⟩
theorem pss_none {body : List Stmt} : PSs X body (fun _ _ _ => False) := ⟨fun _ _ _ _ _ _ h => h.elim⟩
theorem pe_none : PE X e (fun _ _ _ => False) := ⟨fun _ _ _ _ _ _ h => h.elim⟩
theorem pts_none {es : List Expr} : PTs X es (fun _ _ _ => False) := ⟨fun _ _ _ _ _ _ h => h.elim⟩
theorem pi_none : PI X tg e (fun _ _ _ => False) := ⟨fun _ _ _ _ _ _ h => h.elim⟩
/-- for .. in x.f.items(), nothing in it -/
def sForFld0 (C : Addr) (i : Nat) (f : Str) : SM := fun ρ M => match eFld C f (eVar i) ρ M with
  | some (.sv (.dt (.dct [] [])), _) => some (.nx ρ M)
  | _ => none
theorem psm_forFld0 {x : Str} {np : Pos} {C : Addr} {i : Nat} {f : Str} {elts : List Expr} {kk : Nat} {tpos : Pos} {body : List Stmt} (hp : PassesOwn (model X.prog X.w) X.A X.env X.xe) (hc : X.calm = true) (c : Cls X.K C) (n : NoAttr X.K C f) (hx : PE X (.Name x np) (tVar i))
    (hb : attributeBase (.Name x np) f X.env (eval (.Name x np) X.env) = eval (.Name x np) X.env := by rfl) (hbase : attributeBase (.Attribute (.Name x np) f fpos) "items" X.env (eval (.Attribute (.Name x np) f fpos) X.env) = eval (.Attribute (.Name x np) f fpos) X.env := by rfl) (hline : (apos.endLine == cpos.line) = true := by rfl)
    (hs : ∀ y, foldedSetIterable (.Call (.Attribute (.Attribute (.Name x np) f fpos) "items" apos) [] [] cpos) X.env y = pure y := by intro _; rfl) :
    PSm X (.For (.Tuple elts kk tpos) (.Call (.Attribute (.Attribute (.Name x np) f fpos) "items" apos) [] [] cpos) body [] pos) (sForFld0 C i f) :=
  PS.imp (ps_lock (ps_for hp hc (pi_items (pe_fld hx hb) hbase hline) pg_none pss_none hs)) fun E σ H ⟨Hk, ls, ρ, M, o, w, en, hm, q⟩ => by
  unfold sForFld0 at hm
  split at hm
  · rename_i M' h1
    cases hm
    obtain ⟨s, M1, h2, h3⟩ := seq_some h1
    obtain ⟨a, M2, h4, h5⟩ := seq_some h2
    obtain ⟨s', hs', e⟩ := eVar_some h4
    cases e
    cases h5
    split at h3
    · rename_i d hd
      cases h3
      unfold fldS at hd
      split at hd
      · rename_i k C' ns ds hi
        split at hd
        · rename_i hC
          subst hC
          obtain ⟨v, hv, rv⟩ := en.2 i _ hs'
          obtain ⟨l, dx, fs, rfl, hl, hM, hH, hn, hr⟩ := muI_ok w rv hi
          subst hn
          obtain ⟨u, hu, ru⟩ := lookF_ok hr hd
          cases ru with
          | dct h hk hx ha =>
            rename_i a kvs xs
            have : kvs = [] := List.map_eq_nil_iff.mp hk
            subst this
            have hHa := w.sub _ _ h
            have nl : l ≠ a := ne_of hH hHa (by intro z; cases z)
            refine ⟨a, .dK [], hHa, trivial, fun od => ?_⟩
            refine ⟨.ref l, hv, l, C', dx, fs, .ref a, rfl, by rw [upd_ne nl]; exact hH, c, n, hu, a, od, [], rfl, upd_same, ?_⟩
            refine ⟨fun i m σ' H' => i = 0 ∧ σ' = σ ∧ H' = upd H a (.frz od (.dK [])), ⟨0, rfl, rfl, rfl⟩, ?_⟩
            rintro i m σ' H' ⟨rfl, rfl, rfl⟩
            refine .inl ⟨⟨upd_same, Nat.le_refl _⟩, upd_same, ?_⟩
            have eH : upd (upd H a (.frz od (.dK []))) a (.dK []) = H := by
              rw [upd_upd]
              funext b
              by_cases hb : b = a
              · subst hb; rw [upd_same, hHa]
              · rw [upd_ne hb]
            rw [eH]
            exact q σ' Hk H ls w (ExtS.refl _ _ _) en
        · cases hd
      · cases hd
    · cases h3
  · cases hm
/-- [.. for .. in e for .. in ..], nothing in e -/
def eComp20 (ms : EM Src) : EM R := fun ρ M => match ms ρ M with
  | some (src, M') => if src.stop M' 0 = true then some (.fr [], M') else none
  | none => none
theorem pm_comp20 {elt iter tg1 iter1 : Expr} {ifs ifs1 : List Expr} {scope : Scope} {own : List (Str × Nat)} {ms : EM Src} (hc : X.calm = true) (hN : X.N.Nodup) (hi : PIm X tg iter ms) (ok : BlkOk X.N X.env.scope scope own)
    (hs : ∀ x, foldedSetIterable iter X.env x = pure x := by intro _; rfl) (hs1 : ∀ env x, foldedSetIterable iter1 env x = pure x := by intro _ _; rfl) : PM X (.ListComp elt [⟨tg, iter, ifs, 0⟩, ⟨tg1, iter1, ifs1, 0⟩] scope pos) (eComp20 ms) :=
  PE.imp (pe_lc2 (vs1 := []) hc hN hi ok (fun _ h => nomatch h) (fun _ _ _ _ _ => pg_none) (fun _ _ _ _ _ => pts_none) (fun _ _ _ _ _ => pi_none) (fun _ _ _ _ _ => pg_none) (fun _ _ _ _ _ => pts_none) (fun _ _ _ _ _ => pe_none) hs hs1) fun σ H Q ⟨Hk, ls, ρ, M, r, M', w, en, hm, q⟩ => by
  unfold eComp20 at hm
  split at hm
  · rename_i src M1 h1
    split at hm
    · rename_i hst
      cases hm
      refine ⟨Hk, ls, ρ, M, src, _, w, en, h1, fun J Hk1 H1 w1 x1 sr => ?_⟩
      intro D hD
      refine ⟨fun i m H' => i = 0 ∧ H' = upd H1 D (.lst []), ⟨0, rfl, rfl⟩, ?_⟩
      rintro i m H' ⟨rfl, rfl⟩
      have wD := w1.upd_new (o := .lst []) hD
      obtain ⟨_, ss⟩ := sr Hk1 (upd H1 D (.lst [])) _ ls wD (fun _ _ h => h) ⟨[], by simp⟩
      exact .inl ⟨ss 0 hst, (q.back x1).newL w1 hD .nil⟩
    · cases hm
  · cases hm
/-- {.. : .. for .. in e}, nothing in e -/
def eDcE (ms : EM Src) : EM R := fun ρ M => match ms ρ M with
  | some (src, M') => if src.stop M' 0 = true then some (.fd [] [], M') else none
  | none => none
theorem pm_dcE {kx vx iter : Expr} {ifs : List Expr} {scope : Scope} {own : List (Str × Nat)} {ms : EM Src} (hc : X.calm = true) (hN : X.N.Nodup) (hi : PIm X tg iter ms) (ok : BlkOk X.N X.env.scope scope own)
    (hs : ∀ x, foldedSetIterable iter X.env x = pure x := by intro _; rfl) : PM X (.DictComp kx vx [⟨tg, iter, ifs, 0⟩] scope pos) (eDcE ms) :=
  PE.imp (pe_dc hc hN hi ok (fun _ _ _ _ _ => pg_none) (fun _ _ _ _ _ => pts_none) (fun _ _ _ _ _ => pe_none) (fun _ _ _ _ _ => pe_none) hs) fun σ H Q ⟨Hk, ls, ρ, M, r, M', w, en, hm, q⟩ => by
  unfold eDcE at hm
  split at hm
  · rename_i src M1 h1
    split at hm
    · rename_i hst
      cases hm
      refine ⟨Hk, ls, ρ, M, src, _, w, en, h1, fun J Hk1 H1 w1 x1 sr => ?_⟩
      intro D hD
      refine ⟨fun i m H' => i = 0 ∧ H' = upd H1 D (.dK []), ⟨0, rfl, rfl⟩, ?_⟩
      rintro i m H' ⟨rfl, rfl⟩
      have wD := w1.upd_new (o := .dK []) hD
      obtain ⟨_, ss⟩ := sr Hk1 (upd H1 D (.dK [])) _ ls wD (fun _ _ h => h) ⟨[], by simp⟩
      exact .inl ⟨ss 0 hst, (q.back x1).newD w1 hD rfl .nil⟩
    · cases hm
  · cases hm
end
end Dy

set_option Elab.async false
set_option linter.all false
set_option maxRecDepth 100000
set_option maxHeartbeats 4000000
/-! Layer Dy, part 15: looks at the head's leavings; the law's end by mirrors. -/
namespace Dy
open PySem L2 PySem.Spec PyProof.Rows
def meth (s : Stmt) (j : Nat) : Stmt := match s with
  | .ClassDef _ _ _ b _ _ _ _ _ _ _ => b.getD j (.Pass ⟨0, 0, 0, 0⟩)
  | _ => .Pass ⟨0, 0, 0, 0⟩
/-! ### classes -/
def objB (x : Str) (K : PySem.W.Frag) : Bool := (He.Fa.cls x).ok K && ((He.Fa.glo x).ok K && (He.eqO (PySem.W.findIn K (.ref (He.ga K x)) "__class__") (some (some (.builtin "object.__class__"))) && (He.eqO (PySem.W.specialIn K (.builtin "object.__class__") "__get__") (some (some (.builtin "getset_descriptor.__get__"))) &&
  (decide (PySem.W.takesIn K (.builtin "object.__class__") = some true) && (decide (PySem.W.mroIn K (He.ga K x) (.type "object") = some true) && tysB.all fun T => decide (PySem.W.kitOne K (.ref (He.ga K x)) (.type T) = some false))))))
def isiB (x : Str) (K : PySem.W.Frag) : Bool := (tysN.all fun T => decide (PySem.W.kitOne K (.type T) (.ref (He.ga K x)) = some false)) && decide (PySem.W.kitOne K (.ref (He.ga K x)) (.ref (He.ga K x)) = some true)
section
variable {K : PySem.W.Frag} {h : Heap} {mg : Str → Option Value} {x : Str}
theorem objB_ok (c : objB x K = true) : ObjC K (He.ga K x) := by
  obtain ⟨c1, c⟩ := He.ba c
  obtain ⟨_, c⟩ := He.ba c
  obtain ⟨c2, c⟩ := He.ba c
  obtain ⟨c3, c⟩ := He.ba c
  obtain ⟨c4, c⟩ := He.ba c
  obtain ⟨c5, c6⟩ := He.ba c
  exact ⟨He.cls_ok c1, He.eqO_ok c2, He.eqO_ok c3, of_decide_eq_true c4, of_decide_eq_true c5, fun T hT => of_decide_eq_true (List.all_eq_true.mp c6 T hT)⟩
theorem objB_cl (c : objB x K = true) : Cls K (He.ga K x) := (objB_ok c).cl
theorem objB_gl (X : K.In h) (G : h.Ns mainGlobals mg) (c : objB x K = true) : mg x = some (.ref (He.ga K x)) := He.glo_ok X G (He.ba (He.ba c).2).1
theorem isiB_ok (c : isiB x K = true) : IsiC K (He.ga K x) := ⟨fun T hT => of_decide_eq_true (List.all_eq_true.mp (He.ba c).1 T hT), of_decide_eq_true (He.ba c).2⟩
/-! ### a tuple of texts -/
def strsB : List Str → List Value → Bool
  | [], [] => true
  | z :: zs, .str y _ :: us => decide (z = y) && strsB zs us
  | _, _ => false
theorem strsB_ok : ∀ {zs : List Str} {us : List Value}, strsB zs us = true → Vals (zs.map V.str) us
  | [], [], _ => .nil
  | [], _ :: _, h => by cases h
  | _ :: _, [], h => by cases h
  | z :: zs, u :: us, h => by
    cases u with
    | str y t =>
      obtain ⟨h1, h2⟩ := He.ba (show (decide (z = y) && strsB zs us) = true from h)
      have e : z = y := of_decide_eq_true h1
      subst e
      exact .cons ⟨t, rfl⟩ (strsB_ok h2)
    | _ => cases h
def tupB (x : Str) (zs : List Str) (K : PySem.W.Frag) : Bool := (He.Fa.glo x).ok K && match K.lookup (He.ga K x) with
  | some ⟨.type c, none, .seq its _, _⟩ => decide (c = "tuple") && (decide (zs.length ≤ 1000) && strsB zs its.toList)
  | _ => false
theorem tupB_ok {zs : List Str} (X : K.In h) (G : h.Ns mainGlobals mg) (c : tupB x zs K = true) : ∃ a, mg x = some (.ref a) ∧ ∀ H, SqT K H a (zs.map V.str) := by
  obtain ⟨c1, c2⟩ := He.ba c
  refine ⟨_, He.glo_ok X G c1, fun H => ?_⟩
  split at c2
  · rename_i c its n sl q
    obtain ⟨d1, d2⟩ := He.ba c2
    obtain ⟨d2, d3⟩ := He.ba d2
    have e : c = "tuple" := of_decide_eq_true d1
    have r := strsB_ok d3
    have hl : zs.length = its.size := by
      have := r.length
      simpa using this
    refine .inr ⟨_, its, n, q, by rw [e], rfl, ?_, r⟩
    have : zs.length ≤ 1000 := of_decide_eq_true d2
    rw [← hl, sizeLine_eq]
    omega
  · cases c2
end
/-! ### the defs of the text -/
theorem SaysX.all {chk : PySem.W.Frag → Bool} {fn : List He.DefD} {K : PySem.W.Frag} (c : SaysX chk fn K) : ∃ fds : Nat → FuncData, ∀ (i : Nat) (d : He.DefD), fn[i]? = some d → FunD K d.name d.qual d.params d.body d.scope (d.dvs K) (d.kws K) (He.fAd K d.at_) (fds i) := by
  have z : ∀ i : Nat, ∃ fd, ∀ d : He.DefD, fn[i]? = some d → FunD K d.name d.qual d.params d.body d.scope (d.dvs K) (d.kws K) (He.fAd K d.at_) fd := fun i => by
    cases q : fn[i]? with
    | none => exact ⟨default, fun d e => by cases e⟩
    | some d =>
      obtain ⟨fd, F⟩ := c.dfn i q
      exact ⟨fd, fun d' e => by cases e; exact F⟩
  exact ⟨fun i => Classical.choose (z i), fun i => Classical.choose_spec (z i)⟩
theorem FnG.zero {P : Program} {w : PySem.World} {K : PySem.W.Frag} {mg : Str → Option Value} {base : Heap} {k n : Nat} {f : Addr} {fd : FuncData} {ps : List Str} {CX : CXT} : FnG P w K mg base CX k f fd ps (spM K n fun _ _ => none) :=
  FnG.no.imp fun vs H Q E ⟨_, _, _, _, _, _, _, _, _, z, _⟩ => by cases z
/-- the law's promise by its mirror -/
theorem law_sp {K : PySem.W.Frag} {H : Hp} {a : Addr} {ns : List Int} {g : Fn} {E : XK} (hS : SqL K H a (ns.map V.int)) (h : g [.dt (.scr ns)] [] = some (.sv (.dt (.bl true)), [])) : spM K 1 g [.ref a] H (fun v _ => v = .bl true) E := by
  refine ⟨H, [], [], [.dt (.scr ns)], _, [], ⟨fun _ _ e => e, rfl, .nil, fun _ e => (nomatch e), fun k o e => by cases k <;> cases e⟩, .cons (Rp.scr hS) .nil, rfl, h, fun v Hk' H' w' x' r' => ?_⟩
  cases (show Rp K Hk' v (.bl true) from r')
  rfl
end Dy

set_option Elab.async false
set_option linter.all false
set_option maxRecDepth 100000
set_option maxHeartbeats 4000000
/-! Layer Dy, part 16: what mirrors compute: comprehensions, loops, the bag. -/
namespace Dy
open PySem L2

/-! ### sources -/
structure IsSrc (src : Src) (xs : List SV) : Prop where
  n : src.n = xs.length
  get : ∀ M i, src.get M i = xs[i]?
  stop : ∀ M i, src.stop M i = decide (xs.length ≤ i)
theorem isSrc_rng (lo : Int) (n : Nat) : IsSrc (rngSrc lo n) ((List.range n).map fun i : Nat => SV.dt (D.int (lo + (i : Int)))) where
  n := by simp [rngSrc]
  get := fun M i => by
    unfold rngSrc
    dsimp only
    rw [List.getElem?_map]
    by_cases h : i < n
    · rw [if_pos h, List.getElem?_range h]
      rfl
    · rw [if_neg h, List.getElem?_eq_none (by simpa using h)]
      rfl
  stop := fun M i => by simp [rngSrc]
theorem isSrc_lst {M : MS} {ds : List D} : ∃ src, seqSrc M (.dt (.lst ds)) = some src ∧ IsSrc src (ds.map .dt) := ⟨_, rfl, ⟨rfl, fun _ _ => rfl, fun _ _ => rfl⟩⟩
theorem isSrc_tup {M : MS} {ds : List D} : ∃ src, seqSrc M (.dt (.tup ds)) = some src ∧ IsSrc src (ds.map .dt) := ⟨_, rfl, ⟨rfl, fun _ _ => rfl, fun _ _ => rfl⟩⟩
def signs (z : Str) : List D := z.cps.toList.map fun c => .str ⟨#[c]⟩
theorem isSrc_str {M : MS} {z : Str} : ∃ src, seqSrc M (.dt (.str z)) = some src ∧ IsSrc src ((signs z).map .dt) := by
  refine ⟨_, rfl, ⟨by simp [signs], fun _ i => ?_, fun _ i => ?_⟩⟩
  · show (match z.cps[i]? with
      | some c => some (SV.dt (.str ⟨#[c]⟩))
      | none => none) = _
    unfold signs
    rw [List.map_map, List.getElem?_map, Array.getElem?_toList]
    cases z.cps[i]? <;> rfl
  · show decide (z.cps.size ≤ i) = _
    simp [signs]

/-! ### comprehensions -/
section
variable {src : Src} {xs : List SV} {b : Bnd} {c : EM Bool} {el : EM R} {ρ0 : Env}
theorem comp_inv_go (hs : IsSrc src xs) (Inv : MS → Prop) (P : D → Prop) (hl : xs.length ≤ sizeLine)
    (step : ∀ x ∈ xs, ∀ M, Inv M → ∃ ρ1, b x ρ0 = some ρ1 ∧ ∃ k M1, c ρ1 M = some (k, M1) ∧ Inv M1 ∧ (k = true → ∃ r d M2, el ρ1 M1 = some (r, M2) ∧ r.toSV = .dt d ∧ P d ∧ Inv M2)) :
    ∀ (k i : Nat) (acc : List D) (M : MS), i + k = xs.length → acc.length ≤ i → (∀ d ∈ acc, P d) → Inv M → ∃ ds M', compGo src b c el ρ0 k i acc M = some (ds, M') ∧ Inv M' ∧ (∀ d ∈ ds, P d) ∧ ds.length ≤ xs.length
  | 0, i, acc, M, hi, ha, hp, hM => by
    refine ⟨acc, M, ?_, hM, hp, by omega⟩
    show (if src.stop M i = true then some (acc, M) else none) = _
    rw [hs.stop, if_pos (decide_eq_true (by omega))]
  | k + 1, i, acc, M, hi, ha, hp, hM => by
    have hx : xs[i]? = some xs[i] := List.getElem?_eq_getElem (by omega)
    obtain ⟨ρ1, hb, kk, M1, hc, hM1, hk⟩ := step xs[i] (List.getElem_mem _) M hM
    unfold compGo
    rw [hs.get, hx]
    simp only [hb, hc]
    cases kk with
    | false => exact comp_inv_go hs Inv P hl step k (i + 1) acc M1 (by omega) (by omega) hp hM1
    | true =>
      obtain ⟨r, d, M2, he, hr, hd, hM2⟩ := hk rfl
      have hf : fz el ρ1 M1 = some (.dt d, M2) := by
        unfold fz EM.seq
        rw [he]
        show some (r.toSV, M2) = _
        rw [hr]
      simp only [hf]
      rw [if_pos (by omega)]
      refine comp_inv_go hs Inv P hl step k (i + 1) (acc ++ [d]) M2 (by omega) (by simp; omega) (fun y hy => ?_) hM2
      rcases List.mem_append.mp hy with h | h
      · exact hp y h
      · rw [List.mem_singleton.mp h]; exact hd
theorem comp_inv {ms : EM Src} {vs : List Nat} {ρ : Env} {M M0 : MS} (Inv : MS → Prop) (P : D → Prop) (hm : ms ρ M = some (src, M0)) (hs : IsSrc src xs) (hl : xs.length ≤ sizeLine) (h0 : Inv M0)
    (step : ∀ x ∈ xs, ∀ M, Inv M → ∃ ρ1, b x (wipeE ρ vs) = some ρ1 ∧ ∃ k M1, c ρ1 M = some (k, M1) ∧ Inv M1 ∧ (k = true → ∃ r d M2, el ρ1 M1 = some (r, M2) ∧ r.toSV = .dt d ∧ P d ∧ Inv M2)) :
    ∃ ds M', eComp ms b c el vs ρ M = some (.fr ds, M') ∧ Inv M' ∧ (∀ d ∈ ds, P d) ∧ ds.length ≤ xs.length := by
  obtain ⟨ds, M', h1, h2, h3, h4⟩ := comp_inv_go (ρ0 := wipeE ρ vs) hs Inv P hl step xs.length 0 [] M0 (by omega) (by simp) (by simp) h0
  refine ⟨ds, M', ?_, h2, h3, h4⟩
  unfold eComp
  simp only [hm]
  rw [hs.n, h1]
/-- nothing changes -/
theorem comp_pure_go (hs : IsSrc src xs) (p : SV → Bool) (f : SV → D) (hl : xs.length ≤ sizeLine) {M : MS}
    (step : ∀ x ∈ xs, ∃ ρ1, b x ρ0 = some ρ1 ∧ c ρ1 M = some (p x, M) ∧ (p x = true → ∃ r, el ρ1 M = some (r, M) ∧ r.toSV = .dt (f x))) :
    ∀ (k i : Nat) (acc : List D), i + k = xs.length → acc.length ≤ i → compGo src b c el ρ0 k i acc M = some (acc ++ ((xs.drop i).filter p).map f, M)
  | 0, i, acc, hi, ha => by
    show (if src.stop M i = true then some (acc, M) else none) = _
    rw [hs.stop, if_pos (decide_eq_true (by omega)), List.drop_eq_nil_of_le (by omega)]
    simp
  | k + 1, i, acc, hi, ha => by
    have hlt : i < xs.length := by omega
    have hx : xs[i]? = some xs[i] := List.getElem?_eq_getElem hlt
    obtain ⟨ρ1, hb, hc, hk⟩ := step xs[i] (List.getElem_mem _)
    unfold compGo
    rw [hs.get, hx, List.drop_eq_getElem_cons hlt]
    simp only [hb, hc]
    cases hp : p xs[i] with
    | false =>
      rw [List.filter_cons_of_neg (by rw [hp]; exact Bool.false_ne_true)]
      exact comp_pure_go hs p f hl step k (i + 1) acc (by omega) (by omega)
    | true =>
      obtain ⟨r, he, hr⟩ := hk hp
      have hf : fz el ρ1 M = some (.dt (f xs[i]), M) := by
        unfold fz EM.seq
        rw [he]
        show some (r.toSV, M) = _
        rw [hr]
      simp only [hf]
      rw [if_pos (by omega), List.filter_cons_of_pos hp, comp_pure_go hs p f hl step k (i + 1) (acc ++ [f xs[i]]) (by omega) (by simp; omega)]
      simp
theorem comp_pure {ms : EM Src} {vs : List Nat} {ρ : Env} {M M0 : MS} (p : SV → Bool) (f : SV → D) (hm : ms ρ M = some (src, M0)) (hs : IsSrc src xs) (hl : xs.length ≤ sizeLine)
    (step : ∀ x ∈ xs, ∃ ρ1, b x (wipeE ρ vs) = some ρ1 ∧ c ρ1 M0 = some (p x, M0) ∧ (p x = true → ∃ r, el ρ1 M0 = some (r, M0) ∧ r.toSV = .dt (f x))) :
    eComp ms b c el vs ρ M = some (.fr ((xs.filter p).map f), M0) := by
  unfold eComp
  simp only [hm]
  rw [hs.n, comp_pure_go (ρ0 := wipeE ρ vs) hs p f hl step xs.length 0 [] (by omega) (by simp)]
  simp
end

/-! ### loops -/
section
variable {src : Src} {xs : List SV} {b : Bnd} {body : SM}
theorem for_inv_go (hs : IsSrc src xs) (Inv : Env → MS → Prop) (step : ∀ x ∈ xs, ∀ ρ M, Inv ρ M → ∃ ρ1, b x ρ = some ρ1 ∧ ∃ ρ2 M2, body ρ1 M = some (.nx ρ2 M2) ∧ Inv ρ2 M2) :
    ∀ (k i : Nat) (ρ : Env) (M : MS), i + k = xs.length → Inv ρ M → ∃ ρ' M', forGo src b body k i ρ M = some (.nx ρ' M') ∧ Inv ρ' M'
  | 0, i, ρ, M, hi, hI => ⟨ρ, M, by
    show (if src.stop M i = true then some (Out.nx ρ M) else none) = _
    rw [hs.stop, if_pos (decide_eq_true (by omega))], hI⟩
  | k + 1, i, ρ, M, hi, hI => by
    have hx : xs[i]? = some xs[i] := List.getElem?_eq_getElem (by omega)
    obtain ⟨ρ1, hb, ρ2, M2, h1, h2⟩ := step xs[i] (List.getElem_mem _) ρ M hI
    obtain ⟨ρ', M', h3, h4⟩ := for_inv_go hs Inv step k (i + 1) ρ2 M2 (by omega) h2
    refine ⟨ρ', M', ?_, h4⟩
    unfold forGo
    rw [hs.get, hx]
    simp only [hb, h1]
    exact h3
theorem for_inv {ms : EM Src} {ρ : Env} {M M0 : MS} (Inv : Env → MS → Prop) (hm : ms ρ M = some (src, M0)) (hs : IsSrc src xs) (h0 : Inv ρ M0)
    (step : ∀ x ∈ xs, ∀ ρ M, Inv ρ M → ∃ ρ1, b x ρ = some ρ1 ∧ ∃ ρ2 M2, body ρ1 M = some (.nx ρ2 M2) ∧ Inv ρ2 M2) : ∃ ρ' M', sFor ms b body ρ M = some (.nx ρ' M') ∧ Inv ρ' M' := by
  obtain ⟨ρ', M', h3, h4⟩ := for_inv_go hs Inv step xs.length 0 ρ M0 (by omega) h0
  refine ⟨ρ', M', ?_, h4⟩
  unfold sFor
  simp only [hm]
  rw [hs.n]
  exact h3
end

/-! ### the bag -/
/-- a bag's list -/
def bagL (a b c : Int) (cells : List Int) : MO := .l [.dt (.int a), .dt (.int b), .dt (.int c), .dt (.lst (cells.map .int))]
structure BagO (B : MO) : Prop where
  ex : ∃ (a b c : Int) (cells : List Int), B = bagL a b c cells ∧ 0 ≤ a ∧ 0 ≤ b ∧ b < 2147483647 ∧ 0 ≤ c ∧ cells.length ≤ 63 ∧ ∀ y ∈ cells, 0 ≤ y
def takeM : SM := (sSeq (sIf (eBool (eBin gEq (eBin gIx (eVar 0) (eC (.int 0))) (eC (.int 0)))) (sSeq (sSet 2 (eBin gIx (eBin gAdd (eSlice (eBin gIx (eVar 0) (eC (.int 3))) (ePart (eBin gIx (eVar 0) (eC (.int 2)))) eNoPart) (eLst (eCons (eC (.int 0)) eNil))) (eC (.int 0))))
    (sSeq (sAugPut (fun i j => i + j) (eVar 0) (eC (.int 2)) (eC (.int 1)))
    (sSeq (sPut (eVar 0) (eC (.int 0)) (eBin gMul (eVar 2) (eCall (g1 intS) (eCons (eBin gGe (eVar 2) (eBin gPow (eC (.int 10)) (eC (.int 18)))) eNil))))
    (sSeq (sSet 3 (eBin gAdd (eBin gAdd (eBin gMul (eBin gIx (eVar 0) (eC (.int 1))) (eC (.int 48271))) (eBin gMod (eCall (g1 intS) (eCons (eVar 2) eNil)) (eC (.int 2147483647)))) (eBin gMul (eC (.int 7919)) (eBin gIx (eVar 0) (eC (.int 2))))))
    (sPut (eVar 0) (eC (.int 1)) (eBin gMod (eCall (g1 intS) (eCons (eVar 3) eNil)) (eC (.int 2147483647)))))))) sNext)
    (sSeq (sIf (eBool (eBin gGt (eBin gIx (eVar 0) (eC (.int 0))) (eC (.int 0)))) (sSeq (sNamePut 4 (eVar 0) (eC (.int 0)) (eTup (eCons (eBin gMod (eCall (g1 intS) (eCons (eBin gIx (eVar 0) (eC (.int 0))) eNil)) (eVar 1)) (eCons (eBin gFdiv (eCall (g1 intS) (eCons (eBin gIx (eVar 0) (eC (.int 0))) eNil)) (eVar 1)) eNil))))
    (sRet (eVar 4))) sNext)
    (sSeq (sSet 5 (eBin gMod (eCall (g1 intS) (eCons (eBin gMul (eBin gAdd (eBin gIx (eVar 0) (eC (.int 1))) (eC (.int 1))) (eC (.int 39373))) eNil)) (eC (.int 1000000007))))
    (sSeq (sSet 6 (eBin gMod (eCall (g1 intS) (eCons (eBin gMul (eBin gMod (eCall (g1 intS) (eCons (eBin gMul (eVar 5) (eVar 5)) eNil)) (eC (.int 998244353))) (eC (.int 30011))) eNil)) (eC (.int 998244353))))
    (sRet (eBin gMod (eCall (g1 intS) (eCons (eBin gFdiv (eVar 6) (eC (.int 7))) eNil)) (eVar 1)))))))
/-! ### evaluation by simp -/
section
variable {α β : Type} {ρ : Env} {M : MS} {m ma mb mc : EM R} {ms : EM (List SV)}
@[simp] theorem sizeLine_ev : sizeLine = 16777216 := sizeLine_eq
@[simp] theorem seq_ev (m : EM α) (f : α → EM β) : m.seq f ρ M = (m ρ M).bind fun p => f p.1 ρ p.2 := by
  unfold EM.seq
  cases m ρ M with
  | none => rfl
  | some p => rfl
@[simp] theorem ret_ev (a : α) : EM.ret a ρ M = some (a, M) := rfl
@[simp] theorem fz_ev (m : EM R) : fz m ρ M = (m ρ M).bind fun p => some (p.1.toSV, p.2) := by
  unfold fz
  rw [seq_ev]
  rfl
@[simp] theorem toSV_sv (x : SV) : (Dy.R.sv x).toSV = x := rfl
@[simp] theorem toSV_fr (x : List D) : (Dy.R.fr x).toSV = .dt (.lst x) := rfl
@[simp] theorem toSV_fd (k : List Key) (x : List D) : (Dy.R.fd k x).toSV = .dt (.dct k x) := rfl
@[simp] theorem eC_ev (d : D) : eC d ρ M = some (.sv (.dt d), M) := rfl
theorem eVar_of {i : Nat} {s : SV} (h : ρ[i]? = some (some s)) : eVar i ρ M = some (.sv s, M) := by
  unfold eVar
  rw [h]
@[simp] theorem eNil_ev : eNil ρ M = some ([], M) := rfl
@[simp] theorem eCons_ev (m : EM R) (ms : EM (List SV)) : eCons m ms ρ M = (m ρ M).bind fun p => (ms ρ p.2).bind fun q => some (p.1.toSV :: q.1, q.2) := by
  unfold eCons
  rw [seq_ev, fz_ev]
  cases m ρ M with
  | none => rfl
  | some p =>
    simp only [Option.bind_some, seq_ev]
    rfl
@[simp] theorem eBin_ev (g : MS → SV → SV → Option R) (ma mb : EM R) : eBin g ma mb ρ M = (ma ρ M).bind fun p => (mb ρ p.2).bind fun q => (g q.2 p.1.toSV q.1.toSV).bind fun z => some (z, q.2) := by
  unfold eBin
  rw [seq_ev, fz_ev]
  cases ma ρ M with
  | none => rfl
  | some p =>
    simp only [Option.bind_some, seq_ev, fz_ev]
    cases mb ρ p.2 with
    | none => rfl
    | some q =>
      simp only [Option.bind_some]
      cases g q.2 p.1.toSV q.1.toSV <;> rfl
@[simp] theorem eCall_ev (g : MS → List SV → Option R) (ms : EM (List SV)) : eCall g ms ρ M = (ms ρ M).bind fun p => (g p.2 p.1).bind fun z => some (z, p.2) := by
  unfold eCall
  rw [seq_ev]
  cases ms ρ M with
  | none => rfl
  | some p =>
    simp only [Option.bind_some]
    cases g p.2 p.1 <;> rfl
@[simp] theorem g1_ev (g : MS → SV → Option R) (s : SV) : g1 g M [s] = g M s := rfl
@[simp] theorem eFn_ev (f : Fn) (ms : EM (List SV)) : eFn f ms ρ M = (ms ρ M).bind fun p => f p.1 p.2 := by
  unfold eFn
  rw [seq_ev]
@[simp] theorem eLst_ev (ms : EM (List SV)) : eLst ms ρ M = (ms ρ M).bind fun p => (allD p.1).bind fun ds => if ds.length ≤ sizeLine then some (.fr ds, p.2) else none := by
  unfold eLst
  rw [seq_ev]
  cases ms ρ M with
  | none => rfl
  | some p =>
    simp only [Option.bind_some]
    cases allD p.1 <;> rfl
@[simp] theorem eTup_ev (ms : EM (List SV)) : eTup ms ρ M = (ms ρ M).bind fun p => (allD p.1).bind fun ds => if ds.length ≤ sizeLine then some (.sv (.dt (.tup ds)), p.2) else none := by
  unfold eTup
  rw [seq_ev]
  cases ms ρ M with
  | none => rfl
  | some p =>
    simp only [Option.bind_some]
    cases allD p.1 <;> rfl
@[simp] theorem allD_nil : allD [] = some [] := rfl
@[simp] theorem allD_dt (d : D) (r : List SV) : allD (.dt d :: r) = (allD r).bind fun ds => some (d :: ds) := by
  show (match allD r with
    | some ds => some (d :: ds)
    | none => none) = _
  cases allD r <;> rfl
def asB : R → Option Bool
  | .sv (.dt (.bl k)) => some k
  | _ => none
@[simp] theorem asB_bl (k : Bool) : asB (.sv (.dt (.bl k))) = some k := rfl
@[simp] theorem eBool_ev (m : EM R) : eBool m ρ M = (m ρ M).bind fun p => (asB p.1).bind fun k => some (k, p.2) := by
  unfold eBool
  rw [seq_ev]
  cases m ρ M with
  | none => rfl
  | some p =>
    obtain ⟨r, M'⟩ := p
    simp only [Option.bind_some]
    cases r with
    | sv s =>
      cases s with
      | dt d => cases d <;> rfl
      | mu k => rfl
    | fr xs => rfl
    | fd ks xs => rfl
@[simp] theorem eTru_ev (m : EM R) : eTru m ρ M = (m ρ M).bind fun p => (truthS p.2 p.1.toSV).bind fun k => some (k, p.2) := by
  unfold eTru
  rw [seq_ev, fz_ev]
  cases m ρ M with
  | none => rfl
  | some p =>
    simp only [Option.bind_some]
    cases truthS p.2 p.1.toSV <;> rfl
@[simp] theorem truthS_bl (k : Bool) : truthS M (.dt (.bl k)) = some k := rfl
@[simp] theorem tNotB_ev (c : EM Bool) : tNotB c ρ M = (c ρ M).bind fun p => some (!p.1, p.2) := by
  unfold tNotB
  rw [seq_ev]
  rfl
@[simp] theorem tAndB_ev (c d : EM Bool) : tAndB c d ρ M = (c ρ M).bind fun p => if p.1 = true then d ρ p.2 else some (false, p.2) := by
  unfold tAndB
  rw [seq_ev]
  cases c ρ M with
  | none => rfl
  | some p =>
    simp only [Option.bind_some]
    split <;> rfl
@[simp] theorem tOrB_ev (c d : EM Bool) : tOrB c d ρ M = (c ρ M).bind fun p => if p.1 = true then some (true, p.2) else d ρ p.2 := by
  unfold tOrB
  rw [seq_ev]
  cases c ρ M with
  | none => rfl
  | some p =>
    simp only [Option.bind_some]
    split <;> rfl
@[simp] theorem cYes_ev : cYes ρ M = some (true, M) := rfl
@[simp] theorem eAnd_ev (ma mb : EM R) : eAnd ma mb ρ M = (ma ρ M).bind fun p => (truthS p.2 p.1.toSV).bind fun k => if k = true then mb ρ p.2 else some (.sv p.1.toSV, p.2) := by
  unfold eAnd
  rw [seq_ev, fz_ev]
  cases ma ρ M with
  | none => rfl
  | some p =>
    simp only [Option.bind_some]
    cases truthS p.2 p.1.toSV with
    | none => rfl
    | some k => cases k <;> rfl
@[simp] theorem eOr_ev (ma mb : EM R) : eOr ma mb ρ M = (ma ρ M).bind fun p => (truthS p.2 p.1.toSV).bind fun k => if k = true then some (.sv p.1.toSV, p.2) else mb ρ p.2 := by
  unfold eOr
  rw [seq_ev, fz_ev]
  cases ma ρ M with
  | none => rfl
  | some p =>
    simp only [Option.bind_some]
    cases truthS p.2 p.1.toSV with
    | none => rfl
    | some k => cases k <;> rfl
@[simp] theorem eNot_ev (ma : EM R) : eNot ma ρ M = (ma ρ M).bind fun p => (truthS p.2 p.1.toSV).bind fun k => some (.sv (.dt (.bl (!k))), p.2) := by
  unfold eNot
  rw [seq_ev, fz_ev]
  cases ma ρ M with
  | none => rfl
  | some p =>
    simp only [Option.bind_some]
    cases truthS p.2 p.1.toSV <;> rfl
@[simp] theorem eIf_ev (c : EM Bool) (ma mb : EM R) : eIf c ma mb ρ M = (c ρ M).bind fun p => if p.1 = true then ma ρ p.2 else mb ρ p.2 := by
  unfold eIf
  rw [seq_ev]
  cases c ρ M with
  | none => rfl
  | some p =>
    simp only [Option.bind_some]
    split <;> rfl
@[simp] theorem eIsi_ev (T : String) (m : EM R) : eIsi T m ρ M = (m ρ M).bind fun p => (isiS T p.2 p.1.toSV).bind fun b => some (.sv (.dt (.bl b)), p.2) := by
  unfold eIsi
  rw [seq_ev, fz_ev]
  cases m ρ M with
  | none => rfl
  | some p =>
    simp only [Option.bind_some]
    cases isiS T p.2 p.1.toSV <;> rfl
@[simp] theorem eIsi2_ev (T U : String) (m : EM R) : eIsi2 T U m ρ M = (m ρ M).bind fun p => (isiS T p.2 p.1.toSV).bind fun b => (isiS U p.2 p.1.toSV).bind fun c => some (.sv (.dt (.bl (b || c))), p.2) := by
  unfold eIsi2
  rw [seq_ev, fz_ev]
  cases m ρ M with
  | none => rfl
  | some p =>
    simp only [Option.bind_some]
    cases isiS T p.2 p.1.toSV with
    | none => rfl
    | some b => cases isiS U p.2 p.1.toSV <;> rfl
@[simp] theorem eSlice_ev (m : EM R) (lo hi : EM (Option Int)) : eSlice m lo hi ρ M = (m ρ M).bind fun p => (lo ρ p.2).bind fun q => (hi ρ q.2).bind fun r => (gSl r.2 p.1.toSV q.1 r.1).bind fun z => some (z, r.2) := by
  unfold eSlice
  rw [seq_ev, fz_ev]
  cases m ρ M with
  | none => rfl
  | some p =>
    simp only [Option.bind_some, seq_ev]
    cases lo ρ p.2 with
    | none => rfl
    | some q =>
      simp only [Option.bind_some]
      cases hi ρ q.2 with
      | none => rfl
      | some r =>
        simp only [Option.bind_some]
        cases gSl r.2 p.1.toSV q.1 r.1 <;> rfl
@[simp] theorem eNoPart_ev : eNoPart ρ M = some (none, M) := rfl
def asI : SV → Option Int
  | .dt (.int i) => some i
  | _ => none
@[simp] theorem asI_int (i : Int) : asI (.dt (.int i)) = some i := rfl
@[simp] theorem ePart_ev (m : EM R) : ePart m ρ M = (m ρ M).bind fun p => (asI p.1.toSV).bind fun i => some (some i, p.2) := by
  unfold ePart
  rw [seq_ev, fz_ev]
  cases m ρ M with
  | none => rfl
  | some p =>
    obtain ⟨r, M'⟩ := p
    simp only [Option.bind_some]
    cases r.toSV with
    | dt d => cases d <;> rfl
    | mu k => rfl
@[simp] theorem eNeg_ev (m : EM R) : eNeg m ρ M = (m ρ M).bind fun p => (asI p.1.toSV).bind fun i => some (.sv (.dt (.int (-i))), p.2) := by
  unfold eNeg
  rw [seq_ev, fz_ev]
  cases m ρ M with
  | none => rfl
  | some p =>
    obtain ⟨r, M'⟩ := p
    simp only [Option.bind_some]
    cases r.toSV with
    | dt d => cases d <;> rfl
    | mu k => rfl
/-! statements -/
variable {s1 s2 : SM} {c : EM Bool}
theorem sSeq_nx {ρ1 : Env} {M1 : MS} (h : s1 ρ M = some (.nx ρ1 M1)) : sSeq s1 s2 ρ M = s2 ρ1 M1 := by
  unfold sSeq
  rw [h]
theorem sSeq_rt {r : R} {M1 : MS} (h : s1 ρ M = some (.rt r M1)) : sSeq s1 s2 ρ M = some (.rt r M1) := by
  unfold sSeq
  rw [h]
def outB (o : Option Out) (f : Env → MS → Option Out) : Option Out := match o with
  | some (.nx ρ M) => f ρ M
  | o => o
@[simp] theorem outB_nx (f : Env → MS → Option Out) : outB (some (.nx ρ M)) f = f ρ M := rfl
@[simp] theorem outB_rt (r : R) (f : Env → MS → Option Out) : outB (some (.rt r M)) f = some (.rt r M) := rfl
@[simp] theorem sSeq_ev (s1 s2 : SM) : sSeq s1 s2 ρ M = outB (s1 ρ M) s2 := by
  unfold sSeq outB
  rfl
@[simp] theorem sIf_ev (c : EM Bool) (s1 s2 : SM) : sIf c s1 s2 ρ M = (c ρ M).bind fun p => if p.1 = true then s1 ρ p.2 else s2 ρ p.2 := by
  unfold sIf
  cases c ρ M with
  | none => rfl
  | some p =>
    obtain ⟨k, M'⟩ := p
    cases k <;> rfl
@[simp] theorem sNext_ev : sNext ρ M = some (.nx ρ M) := rfl
@[simp] theorem sRet_ev (m : EM R) : sRet m ρ M = (m ρ M).bind fun p => some (.rt p.1 p.2) := by
  unfold sRet
  cases m ρ M <;> rfl
@[simp] theorem sSet_ev (i : Nat) (m : EM R) : sSet i m ρ M = (m ρ M).bind fun p => some (.nx (ρ.set i (some p.1.toSV)) p.2) := by
  unfold sSet
  cases m ρ M <;> rfl
@[simp] theorem sExpr_ev (m : EM R) : sExpr m ρ M = (m ρ M).bind fun p => some (.nx ρ p.2) := by
  unfold sExpr
  cases m ρ M <;> rfl
@[simp] theorem sPut_ev (mo mi me : EM R) : sPut mo mi me ρ M = (me ρ M).bind fun p => (mo ρ p.2).bind fun q => (mi ρ q.2).bind fun r => (setAt r.2 q.1.toSV r.1.toSV p.1.toSV).bind fun M4 => some (.nx ρ M4) := by
  unfold sPut
  rw [fz_ev]
  cases me ρ M with
  | none => rfl
  | some p =>
    simp only [Option.bind_some, fz_ev]
    cases mo ρ p.2 with
    | none => rfl
    | some q =>
      simp only [Option.bind_some]
      cases mi ρ q.2 with
      | none => rfl
      | some r =>
        simp only [Option.bind_some]
        cases setAt r.2 q.1.toSV r.1.toSV p.1.toSV <;> rfl
@[simp] theorem listD_lst (ds : List D) : listD M (.dt (.lst ds)) = some ds := by
  unfold listD listOf
  exact allD_map ds
@[simp] theorem itemsD_lst (ds : List D) : itemsD M (.dt (.lst ds)) = some ds := by
  unfold itemsD itemsOf listOf
  exact allD_map ds
@[simp] theorem itemsD_tup (ds : List D) : itemsD M (.dt (.tup ds)) = some ds := by
  unfold itemsD itemsOf
  exact allD_map ds
@[simp] theorem itemsOf_lst (ds : List D) : itemsOf M (.dt (.lst ds)) = some (ds.map .dt) := rfl
@[simp] theorem itemsOf_tup (ds : List D) : itemsOf M (.dt (.tup ds)) = some (ds.map .dt) := rfl
@[simp] theorem peek_dt' (d : D) : peek M (.dt d) = some d := peek_dt 3 M d
end
theorem eqv_int (i j : Int) : PyData.eqv (.int i) (.int j) = decide (i = j) := by
  unfold PyData.eqv
  rfl
theorem shaped_int (i : Int) : SeqAt.shaped (.int i) = true := by
  rfl
@[simp] theorem gEq_int (M : MS) (i j : Int) : gEq M (.dt (.int i)) (.dt (.int j)) = some (.sv (.dt (.bl (decide (i = j))))) := by
  unfold gEq eqT eqL eqS
  simp only [peek, peekN, toP, shaped_int, eqv_int, Bool.and_self, if_true]
  rfl
@[simp] theorem gEq_str (M : MS) (x y : Str) : gEq M (.dt (.str x)) (.dt (.str y)) = some (.sv (.dt (.bl (decide (x = y))))) := rfl
@[simp] theorem gNe_str (M : MS) (x y : Str) : gNe M (.dt (.str x)) (.dt (.str y)) = some (.sv (.dt (.bl (!decide (x = y))))) := rfl
end Dy

set_option Elab.async false
set_option maxRecDepth 100000
set_option maxHeartbeats 4000000
set_option linter.all false
namespace Dy
open PySem L2
theorem cut_cells (cells : List Int) (c : Int) (h5 : cells.length ≤ 63) (h6 : ∀ y ∈ cells, 0 ≤ y) : ∃ L : List Int, cutD (cells.map .int) (some c) none = L.map .int ∧ L.length ≤ 63 ∧ ∀ y ∈ L, 0 ≤ y := by
  refine ⟨(cells.drop (HT.sIx cells.length 0 (some c))).take (cells.length - HT.sIx cells.length 0 (some c)), ?_, ?_, fun y hy => h6 y ((List.drop_sublist _ _).subset ((List.take_sublist _ _).subset hy))⟩
  · unfold cutD
    simp [HT.sIx_none, List.map_drop, List.map_take]
  · rw [List.length_take, List.length_drop]
    omega
/-- when the first number is not nought -/
theorem take_draw {R : MS} {n a b c : Int} {cells : List Int} (hn : 0 < n) (hn2 : n < 1073741824) (ha : 0 < a) {ρ : Env} {x2 x3 : Option SV} (hρ : ρ = [some (.mu 0), some (.dt (.int n)), x2, x3, none, none, none]) :
    (sSeq (sIf (eBool (eBin gGt (eBin gIx (eVar 0) (eC (.int 0))) (eC (.int 0)))) (sSeq (sNamePut 4 (eVar 0) (eC (.int 0)) (eTup (eCons (eBin gMod (eCall (g1 intS) (eCons (eBin gIx (eVar 0) (eC (.int 0))) eNil)) (eVar 1)) (eCons (eBin gFdiv (eCall (g1 intS) (eCons (eBin gIx (eVar 0) (eC (.int 0))) eNil)) (eVar 1)) eNil))))
    (sRet (eVar 4))) sNext)
    (sSeq (sSet 5 (eBin gMod (eCall (g1 intS) (eCons (eBin gMul (eBin gAdd (eBin gIx (eVar 0) (eC (.int 1))) (eC (.int 1))) (eC (.int 39373))) eNil)) (eC (.int 1000000007))))
    (sSeq (sSet 6 (eBin gMod (eCall (g1 intS) (eCons (eBin gMul (eBin gMod (eCall (g1 intS) (eCons (eBin gMul (eVar 5) (eVar 5)) eNil)) (eC (.int 998244353))) (eC (.int 30011))) eNil)) (eC (.int 998244353))))
    (sRet (eBin gMod (eCall (g1 intS) (eCons (eBin gFdiv (eVar 6) (eC (.int 7))) eNil)) (eVar 1)))))) ρ (bagL a b c cells :: R) = some (.rt (.sv (.dt (.int (a % n)))) (bagL (a / n) b c cells :: R)) := by
  subst hρ
  simp [eVar, gIx, itemsOf, listOf, bagL, atI, ixN, gGt, int2, ha, sNamePut, intS, gMod, hn, gFdiv, hn2, setAt, muL]
theorem inSmall_of {i : Int} (h1 : -18446744073709551616 < i) (h2 : i < 18446744073709551616) : inSmall i = true := by
  unfold inSmall
  simp
  omega
theorem take_late {R : MS} {n b c : Int} {cells : List Int} (hn : 0 < n) (hb : 0 ≤ b) (hb2 : b < 2147483647) {ρ : Env} {x2 x3 : Option SV} (hρ : ρ = [some (.mu 0), some (.dt (.int n)), x2, x3, none, none, none]) :
    ∃ r, (sSeq (sIf (eBool (eBin gGt (eBin gIx (eVar 0) (eC (.int 0))) (eC (.int 0)))) (sSeq (sNamePut 4 (eVar 0) (eC (.int 0)) (eTup (eCons (eBin gMod (eCall (g1 intS) (eCons (eBin gIx (eVar 0) (eC (.int 0))) eNil)) (eVar 1)) (eCons (eBin gFdiv (eCall (g1 intS) (eCons (eBin gIx (eVar 0) (eC (.int 0))) eNil)) (eVar 1)) eNil))))
    (sRet (eVar 4))) sNext)
    (sSeq (sSet 5 (eBin gMod (eCall (g1 intS) (eCons (eBin gMul (eBin gAdd (eBin gIx (eVar 0) (eC (.int 1))) (eC (.int 1))) (eC (.int 39373))) eNil)) (eC (.int 1000000007))))
    (sSeq (sSet 6 (eBin gMod (eCall (g1 intS) (eCons (eBin gMul (eBin gMod (eCall (g1 intS) (eCons (eBin gMul (eVar 5) (eVar 5)) eNil)) (eC (.int 998244353))) (eC (.int 30011))) eNil)) (eC (.int 998244353))))
    (sRet (eBin gMod (eCall (g1 intS) (eCons (eBin gFdiv (eVar 6) (eC (.int 7))) eNil)) (eVar 1)))))) ρ (bagL 0 b c cells :: R) = some (.rt (.sv (.dt (.int r))) (bagL 0 b c cells :: R)) ∧ 0 ≤ r ∧ r < n := by
  subst hρ
  refine ⟨(((b + 1) * 39373 % 1000000007 * ((b + 1) * 39373 % 1000000007) % 998244353 * 30011 % 998244353) / 7) % n, ?_, Int.emod_nonneg _ (by omega), Int.emod_lt_of_pos _ hn⟩
  have e1 : inSmall 39373 = true := by decide
  have e2 : inSmall 30011 = true := by decide
  have e3 : inSmall ((b + 1) * 39373 % 1000000007) = true := inSmall_of (by have := Int.emod_nonneg ((b + 1) * 39373) (show (1000000007 : Int) ≠ 0 by decide); omega) (by have := Int.emod_lt_of_pos ((b + 1) * 39373) (show (0 : Int) < 1000000007 by decide); omega)
  simp [eVar, gIx, itemsOf, listOf, bagL, atI, ixN, gGt, int2, intS, gMod, hn, gFdiv, gMul, gAdd, e1, e2, e3]
/-- the store behind the bag is fit -/
def okR (R : MS) : Prop := R.all (moLt (R.length + 1)) = true
theorem cut_bag {a b c : Int} {cells : List Int} {R : MS} (h : okR R) : cutOk (bagL a b c cells :: R) (R.length + 1) = true := by
  unfold cutOk
  rw [List.take_of_length_le (by simp), List.all_cons, h]
  rfl
theorem take_ok {B : MO} {R : MS} {n : Int} (hR : okR R) (hB : BagO B) (hn : 0 < n) (hn2 : n < 1073741824) : ∃ r B', runBody takeM 7 [.mu 0, .dt (.int n)] (B :: R) = some (.sv (.dt (.int r)), B' :: R) ∧ BagO B' ∧ 0 ≤ r ∧ r < n := by
  obtain ⟨a, b, c, cells, rfl, h1, h2, h3, h4, h5, h6⟩ := hB.ex
  by_cases ha : a = 0
  · subst ha
    obtain ⟨L, eL, hL, hp⟩ := cut_cells cells c h5 h6
    unfold runBody takeM
    rw [sSeq_ev]
    have first : ∃ y : Int, 0 ≤ y ∧ ∀ K : Env → MS → Option Out, outB ((sIf (eBool (eBin gEq (eBin gIx (eVar 0) (eC (.int 0))) (eC (.int 0)))) (sSeq (sSet 2 (eBin gIx (eBin gAdd (eSlice (eBin gIx (eVar 0) (eC (.int 3))) (ePart (eBin gIx (eVar 0) (eC (.int 2)))) eNoPart) (eLst (eCons (eC (.int 0)) eNil))) (eC (.int 0))))
    (sSeq (sAugPut (fun i j => i + j) (eVar 0) (eC (.int 2)) (eC (.int 1)))
    (sSeq (sPut (eVar 0) (eC (.int 0)) (eBin gMul (eVar 2) (eCall (g1 intS) (eCons (eBin gGe (eVar 2) (eBin gPow (eC (.int 10)) (eC (.int 18)))) eNil))))
    (sSeq (sSet 3 (eBin gAdd (eBin gAdd (eBin gMul (eBin gIx (eVar 0) (eC (.int 1))) (eC (.int 48271))) (eBin gMod (eCall (g1 intS) (eCons (eVar 2) eNil)) (eC (.int 2147483647)))) (eBin gMul (eC (.int 7919)) (eBin gIx (eVar 0) (eC (.int 2))))))
    (sPut (eVar 0) (eC (.int 1)) (eBin gMod (eCall (g1 intS) (eCons (eVar 3) eNil)) (eC (.int 2147483647)))))))) sNext) ([SV.mu 0, SV.dt (D.int n)].map some ++ List.replicate (7 - [SV.mu 0, SV.dt (D.int n)].length) none) (bagL 0 b c cells :: R)) K =
        K [some (.mu 0), some (.dt (.int n)), some (.dt (.int y)), some (.dt (.int (b * 48271 + y % 2147483647 + 7919 * (c + 1)))), none, none, none] (bagL (y * (if 1000000000000000000 ≤ y then 1 else 0)) ((b * 48271 + y % 2147483647 + 7919 * (c + 1)) % 2147483647) (c + 1) cells :: R) := by
      have e1 : inSmall 48271 = true := by decide
      have e2 : inSmall 7919 = true := by decide
      have e3 : inSmall 0 = true := by decide
      have e4 : ∀ y : Int, inSmall (if 1000000000000000000 ≤ y then (1 : Int) else 0) = true := fun y => by split <;> decide
      cases L with
      | nil =>
        refine ⟨0, Int.le_refl _, fun K => ?_⟩
        simp [eVar, gIx, itemsOf, listOf, bagL, atI, ixN, gSl, gAdd, sAugPut, setAt, muL, eL, gMul, intS, gGe, int2, gPow, gMod, e1, e2, e3, e4]
      | cons y t =>
        refine ⟨y, hp y (by simp), fun K => ?_⟩
        have ht : t.length ≤ 16777214 := by simp at hL; omega
        simp [eVar, gIx, itemsOf, listOf, bagL, atI, ixN, gSl, gAdd, sAugPut, setAt, muL, eL, gMul, intS, gGe, int2, gPow, gMod, e1, e2, e4, ht]
    obtain ⟨y, hy, e⟩ := first
    rw [e]
    have hq : 0 ≤ y * (if 1000000000000000000 ≤ y then (1 : Int) else 0) := by split <;> omega
    have hb1 := Int.emod_nonneg (b * 48271 + y % 2147483647 + 7919 * (c + 1)) (show (2147483647 : Int) ≠ 0 by decide)
    have hb2 := Int.emod_lt_of_pos (b * 48271 + y % 2147483647 + 7919 * (c + 1)) (show (0 : Int) < 2147483647 by decide)
    by_cases hz : y * (if 1000000000000000000 ≤ y then (1 : Int) else 0) = 0
    · rw [hz]
      obtain ⟨r, er, r1, r2⟩ := take_late (R := R) (c := c + 1) (cells := cells) hn hb1 hb2 rfl
      refine ⟨r, _, ?_, ⟨0, _, c + 1, cells, rfl, Int.le_refl _, hb1, hb2, by omega, h5, h6⟩, r1, r2⟩
      rw [er]
      simp [close, cut_bag hR]
    · refine ⟨(y * (if 1000000000000000000 ≤ y then (1 : Int) else 0)) % n, bagL ((y * (if 1000000000000000000 ≤ y then (1 : Int) else 0)) / n) ((b * 48271 + y % 2147483647 + 7919 * (c + 1)) % 2147483647) (c + 1) cells, ?_, ⟨_, _, c + 1, cells, rfl, Int.ediv_nonneg hq (by omega), hb1, hb2, by omega, h5, h6⟩, Int.emod_nonneg _ (by omega), Int.emod_lt_of_pos _ hn⟩
      rw [take_draw hn hn2 (by omega) rfl]
      simp [close, cut_bag hR]
  · have hpos : 0 < a := by omega
    have e0 : (sIf (eBool (eBin gEq (eBin gIx (eVar 0) (eC (.int 0))) (eC (.int 0)))) (sSeq (sSet 2 (eBin gIx (eBin gAdd (eSlice (eBin gIx (eVar 0) (eC (.int 3))) (ePart (eBin gIx (eVar 0) (eC (.int 2)))) eNoPart) (eLst (eCons (eC (.int 0)) eNil))) (eC (.int 0))))
    (sSeq (sAugPut (fun i j => i + j) (eVar 0) (eC (.int 2)) (eC (.int 1)))
    (sSeq (sPut (eVar 0) (eC (.int 0)) (eBin gMul (eVar 2) (eCall (g1 intS) (eCons (eBin gGe (eVar 2) (eBin gPow (eC (.int 10)) (eC (.int 18)))) eNil))))
    (sSeq (sSet 3 (eBin gAdd (eBin gAdd (eBin gMul (eBin gIx (eVar 0) (eC (.int 1))) (eC (.int 48271))) (eBin gMod (eCall (g1 intS) (eCons (eVar 2) eNil)) (eC (.int 2147483647)))) (eBin gMul (eC (.int 7919)) (eBin gIx (eVar 0) (eC (.int 2))))))
    (sPut (eVar 0) (eC (.int 1)) (eBin gMod (eCall (g1 intS) (eCons (eVar 3) eNil)) (eC (.int 2147483647)))))))) sNext) ([SV.mu 0, SV.dt (D.int n)].map some ++ List.replicate (7 - [SV.mu 0, SV.dt (D.int n)].length) none) (bagL a b c cells :: R) = some (.nx [some (.mu 0), some (.dt (.int n)), none, none, none, none, none] (bagL a b c cells :: R)) := by
      simp [eVar, gIx, itemsOf, listOf, bagL, atI, ixN, ha]
    unfold runBody takeM
    rw [sSeq_ev, e0, outB_nx, take_draw hn hn2 hpos rfl]
    refine ⟨a % n, bagL (a / n) b c cells, ?_, ⟨_, _, _, _, rfl, Int.ediv_nonneg h1 (by omega), h2, h3, h4, h5, h6⟩, Int.emod_nonneg _ (by omega), Int.emod_lt_of_pos _ hn⟩
    simp [close, cut_bag hR]
/-! ### the bag's making -/
def bagM : SM := (sRet (eLst (eCons (eC (.int 0)) (eCons (eC (.int 1234567891)) (eCons (eC (.int 0)) (eCons (eComp (eSeq (eSlice (eVar 0) eNoPart (ePart (eC (.int 63))))) (bName 1) cYes (eCall (g1 absS) (eCons (eVar 1) eNil)) [1]) eNil))))))
@[simp] theorem eSeq_ev {ρ : Env} {M : MS} (m : EM R) : eSeq m ρ M = (m ρ M).bind fun p => (seqSrc p.2 p.1.toSV).bind fun z => some (z, p.2) := by
  unfold eSeq
  rw [seq_ev, fz_ev]
  cases m ρ M with
  | none => rfl
  | some p =>
    simp only [Option.bind_some]
    cases seqSrc p.2 p.1.toSV <;> rfl
def absI (i : Int) : Int := if i < 0 then -i else i
theorem absI_nn (i : Int) : 0 ≤ absI i := by unfold absI; split <;> omega
def unI : SV → Int
  | .dt (.int i) => i
  | _ => 0
theorem bag_ok {ns : List Int} (h : ns.length ≤ 63) (M : MS) (hM : cutOk M M.length = true) : ∃ cells : List Int, runBody bagM 2 [.dt (.scr ns)] M = some (.fr [.int 0, .int 1234567891, .int 0, .lst (cells.map .int)], M) ∧ BagO (bagL 0 1234567891 0 cells) := by
  have cut : cutD (ns.map D.int) none (some 63) = ns.map D.int := by
    unfold cutD
    have e1 : HT.sIx (ns.map D.int).length 0 none = 0 := rfl
    have e2 : HT.sIx (ns.map D.int).length (ns.map D.int).length (some 63) = ns.length := by
      unfold HT.sIx
      simp
      omega
    rw [e1, e2]
    simp only [List.drop_zero, Nat.sub_zero]
    exact List.take_of_length_le (by simp)
  have main : eComp (eSeq (eSlice (eVar 0) eNoPart (ePart (eC (.int 63))))) (bName 1) cYes (eCall (g1 absS) (eCons (eVar 1) eNil)) [1] [some (.dt (.scr ns)), none] M = some (.fr ((((ns.map D.int).map SV.dt).filter fun _ => true).map fun x => .int (absI (unI x))), M) := by
    obtain ⟨src, e, hs⟩ := isSrc_lst (M := M) (ds := ns.map D.int)
    refine comp_pure (fun _ => true) (fun x => .int (absI (unI x))) (src := src) (M0 := M) ?_ hs ?_ ?_
    · simp [eVar, gSl, cut, e]
    · simp
      omega
    · intro x hx
      simp only [List.mem_map] at hx
      obtain ⟨d, ⟨i, hi, rfl⟩, rfl⟩ := hx
      refine ⟨_, rfl, rfl, fun _ => ⟨.sv (.dt (.int (absI i))), ?_, rfl⟩⟩
      simp [eVar, wipeE, absS, absI]
  refine ⟨ns.map absI, ?_, ⟨0, 1234567891, 0, ns.map absI, rfl, by decide, by decide, by decide, by decide, by simpa using h, fun y hy => ?_⟩⟩
  · unfold runBody bagM
    rw [sRet_ev]
    have e : ([SV.dt (D.scr ns)].map some ++ List.replicate (2 - [SV.dt (D.scr ns)].length) none : Env) = [some (.dt (.scr ns)), none] := rfl
    rw [e]
    simp only [eLst_ev, eCons_ev, eC_ev, main, Option.bind_some, toSV_sv, toSV_fr, eNil_ev, allD_dt, allD_nil]
    have ef : ((((ns.map D.int).map SV.dt).filter fun _ => true).map fun x => D.int (absI (unI x))) = (ns.map absI).map D.int := by
      rw [List.filter_eq_self.mpr (fun _ _ => rfl)]
      simp [unI]
    rw [ef]
    simp [close, hM]
  · simp only [List.mem_map] at hy
    obtain ⟨i, _, rfl⟩ := hy
    exact absI_nn i
end Dy

set_option Elab.async false
set_option linter.all false
set_option maxRecDepth 100000
set_option maxHeartbeats 4000000
/-! Layer Dy, part 18: how long a datum's text is; == of data. -/
namespace Dy
open PySem L2 PyProof.Rows
def okS (x : Str) : Bool := x.cps.all (· < 0x110000)
def okK : Key → Bool
  | .inl i => decide (i.natAbs.log2 < 1920)
  | .inr x => okS x
def kwt : Key → Nat
  | .inl _ => 1921
  | .inr x => 10 * x.length + 2
mutual
def goodD : D → Bool
  | .non => true
  | .bl _ => true
  | .int i => decide (i.natAbs.log2 < 1920)
  | .str x => okS x
  | .lst xs => goodL xs
  | .tup xs => goodL xs
  | .dct ks vs => ks.all okK && goodL vs
  | _ => false
def goodL : List D → Bool
  | [] => true
  | d :: r => goodD d && goodL r
end
mutual
def swt : D → Nat
  | .int _ => 1921
  | .str x => 10 * x.length + 2
  | .lst xs => swtL xs + 3
  | .tup xs => swtL xs + 3
  | .dct ks vs => (ks.map kwt).sum + swtL vs + 4 * ks.length + 3
  | _ => 5
def swtL : List D → Nat
  | [] => 0
  | d :: r => swt d + 2 + swtL r
end
mutual
def dep : D → Nat
  | .lst xs => depL xs + 1
  | .tup xs => depL xs + 1
  | .dct _ vs => depL vs + 1
  | _ => 0
def depL : List D → Nat
  | [] => 0
  | d :: r => max (dep d) (depL r)
end
theorem okS_lt {x : Str} (h : okS x = true) : ∀ c ∈ x.cps.toList, c < 16 ^ 8 := fun c hc => by
  unfold okS at h
  rw [← Array.all_toList] at h
  have := of_decide_eq_true (List.all_eq_true.mp h c hc)
  omega
theorem text_int {i : Int} (h : i.natAbs.log2 < 1920) : (PyData.int i).shown.length ≤ 1921 := by
  simp only [PyData.shown]
  exact int_text_len_1921 h
theorem text_str {x : Str} (h : okS x = true) : (PyData.str x).shown.length ≤ 10 * x.length + 2 := by
  simp only [PyData.shown]
  exact StrLaws.reprText_len x (okS_lt h)
theorem len_listText : ∀ ts : List Str, (listText ts).length ≤ piled ts + 2
  | [] => by decide
  | t :: ts => by
    unfold listText
    rw [strLen_append]
    show (textFrom 1 (("[" : Str) ++ ("" : String) ++ t) ts).length + _ ≤ _
    rw [textFrom_length_pos ts 1 _ (by decide), piled_cons, strLen_append, strLen_append]
    have e1 : (("[" : Str)).length = 1 := by decide
    have e2 : (("]" : Str)).length = 1 := by decide
    have e3 : ((("" : String) : Str)).length = 0 := by decide
    omega
theorem len_tupleText (ts : List Str) : (tupleText ts).length ≤ piled ts + 3 := by
  unfold tupleText
  rw [strLen_append, strLen_append]
  have e1 : (("(" : Str)).length = 1 := by decide
  have e2 : (((if ts.length == 1 then ",)" else ")" : String) : Str)).length ≤ 2 := by split <;> decide
  by_cases h : ts = []
  · subst h
    have : (Str.join ", " []).length = 0 := by decide
    omega
  · have := join_length_add ts h
    omega
theorem len_dictText (ts : List Str) : (dictText ts).length ≤ piled ts + 2 := by
  unfold dictText
  rw [strLen_append, strLen_append]
  have e1 : (("{" : Str)).length = 1 := by decide
  have e2 : (("}" : Str)).length = 1 := by decide
  by_cases h : ts = []
  · subst h
    have : (Str.join ", " []).length = 0 := by decide
    omega
  · have := join_length_add ts h
    omega
theorem key_text {k : Key} (h : okK k = true) : (kP k).showable = true ∧ (kP k).shown.length ≤ kwt k ∧ (kP k).depth = 0 := by
  cases k with
  | inl i =>
    have h2 : i.natAbs.log2 < 1920 := of_decide_eq_true h
    exact ⟨by simp only [kP, PyData.showable]; exact decide_eq_true h2, text_int h2, rfl⟩
  | inr x => exact ⟨rfl, text_str h, rfl⟩
theorem good_kv : ∀ (ks : List Key) (ps : List PyData), ks.all okK = true → PyData.showableAll ps = true → PyData.showableKv ((ks.map kP).zip ps) = true ∧
    piled (PyData.shownKv ((ks.map kP).zip ps)) ≤ (ks.map kwt).sum + piled (PyData.shownAll ps) + 4 * ks.length ∧ PyData.depthKv ((ks.map kP).zip ps) ≤ PyData.depthAll ps
  | [], ps, _, _ => ⟨rfl, by show 0 ≤ _; omega, Nat.zero_le _⟩
  | k :: ks, [], _, _ => ⟨rfl, by show 0 ≤ _; omega, Nat.zero_le _⟩
  | k :: ks, p :: ps, h, g => by
    rw [List.all_cons] at h
    obtain ⟨h1, h2⟩ := Bool.and_eq_true_iff.mp h
    simp only [PyData.showableAll] at g
    obtain ⟨g1, g2⟩ := Bool.and_eq_true_iff.mp g
    obtain ⟨a1, a2, a3⟩ := key_text h1
    obtain ⟨b1, b2, b3⟩ := good_kv ks ps h2 g2
    simp only [List.map_cons, List.zip_cons_cons, PyData.showableKv, PyData.shownKv, PyData.depthKv, PyData.shownAll, PyData.depthAll, a1, g1, b1, a3, List.sum_cons, List.length_cons]
    refine ⟨rfl, ?_, by omega⟩
    rw [piled_cons, piled_cons, strLen_append, strLen_append]
    have e : ((": " : Str)).length = 2 := by decide
    omega
mutual
theorem good_toQ : ∀ {d : D}, goodD d = true → ∃ p, toQ d = some p ∧ p.showable = true ∧ p.shown.length ≤ swt d ∧ p.depth ≤ dep d
  | .non, _ => ⟨.none, rfl, rfl, by decide, Nat.le_refl _⟩
  | .bl b, _ => ⟨.bool b, rfl, rfl, by cases b <;> decide, Nat.le_refl _⟩
  | .int i, h => by
    have h := of_decide_eq_true (by simpa only [goodD] using h)
    exact ⟨.int i, by simp only [toQ], by simp only [PyData.showable]; exact decide_eq_true h, by simp only [swt]; exact text_int h, Nat.le_refl _⟩
  | .str x, h => by
    have h : okS x = true := by simpa only [goodD] using h
    exact ⟨.str x, by simp only [toQ], rfl, by simp only [swt]; exact text_str h, Nat.le_refl _⟩
  | .lst xs, h => by
    have h : goodL xs = true := by simpa only [goodD] using h
    obtain ⟨ps, h1, h2, h3, h4⟩ := good_toQl h
    refine ⟨.list ps, by simp only [toQ, h1], by simp only [PyData.showable]; exact h2, ?_, by simp only [PyData.depth, dep]; omega⟩
    simp only [PyData.shown, swt]
    exact Nat.le_trans (len_listText _) (by omega)
  | .tup xs, h => by
    have h : goodL xs = true := by simpa only [goodD] using h
    obtain ⟨ps, h1, h2, h3, h4⟩ := good_toQl h
    refine ⟨.tuple ps, by simp only [toQ, h1], by simp only [PyData.showable]; exact h2, ?_, by simp only [PyData.depth, dep]; omega⟩
    simp only [PyData.shown, swt]
    exact Nat.le_trans (len_tupleText _) (by omega)
  | .dct ks vs, h => by
    simp only [goodD] at h
    obtain ⟨hk, h⟩ := Bool.and_eq_true_iff.mp h
    obtain ⟨ps, h1, h2, h3, h4⟩ := good_toQl h
    obtain ⟨k1, k2, k3⟩ := good_kv ks ps hk h2
    refine ⟨.dict ((ks.map kP).zip ps), by simp only [toQ, h1], by simp only [PyData.showable]; exact k1, ?_, by simp only [PyData.depth, dep]; omega⟩
    simp only [PyData.shown, swt]
    exact Nat.le_trans (len_dictText _) (by omega)
  | .ins .., h => by simp only [goodD] at h; cases h
  | .scr _, h => by simp only [goodD] at h; cases h
  | .obj _, h => by simp only [goodD] at h; cases h
  | .raw _, h => by simp only [goodD] at h; cases h
  | .opq, h => by simp only [goodD] at h; cases h
  | .exc _ _ _, h => by simp only [goodD] at h; cases h
theorem good_toQl : ∀ {ds : List D}, goodL ds = true → ∃ ps, toQl ds = some ps ∧ PyData.showableAll ps = true ∧ piled (PyData.shownAll ps) ≤ swtL ds ∧ PyData.depthAll ps ≤ depL ds
  | [], _ => ⟨[], rfl, rfl, by decide, Nat.le_refl _⟩
  | d :: r, h => by
    simp only [goodL] at h
    obtain ⟨h1, h2⟩ := Bool.and_eq_true_iff.mp h
    obtain ⟨p, a1, a2, a3, a4⟩ := good_toQ h1
    obtain ⟨ps, b1, b2, b3, b4⟩ := good_toQl h2
    refine ⟨p :: ps, by simp only [toQl, a1, b1], by simp only [PyData.showableAll, a2, b2, Bool.and_self], ?_, by simp only [PyData.depthAll, depL]; omega⟩
    simp only [PyData.shownAll, swtL]
    rw [piled_cons]
    omega
end
/-- repr of a datum -/
theorem repr_ok {d : D} (M : MS) (h : goodD d = true) (hw : swt d ≤ 16777216) (hd : dep d ≤ 63) : ∃ x : Str, reprS M (.dt d) = some (.sv (.dt (.str x))) := by
  obtain ⟨p, h1, h2, h3, h4⟩ := good_toQ h
  refine ⟨p.shown, ?_⟩
  unfold reprS
  simp only [peek_dt', h1]
  rw [if_pos ⟨h2, by rw [sizeLine_eq]; omega, by omega⟩]
/-! ### no dict within -/
mutual
def flatB : D → Bool
  | .non => true
  | .bl _ => true
  | .int _ => true
  | .str x => okS x
  | .lst xs => flatL xs
  | .tup xs => flatL xs
  | _ => false
def flatL : List D → Bool
  | [] => true
  | d :: r => flatB d && flatL r
end
mutual
theorem flat_toP : ∀ {d : D}, flatB d = true → ∃ p, toP d = some p ∧ p.canLay0 = true ∧ p.depth ≤ dep d
  | .non, _ => ⟨.none, rfl, rfl, Nat.le_refl _⟩
  | .bl b, _ => ⟨.bool b, rfl, rfl, Nat.le_refl _⟩
  | .int i, _ => ⟨.int i, rfl, rfl, Nat.le_refl _⟩
  | .str x, h => ⟨.str x, rfl, by simp only [flatB] at h; simp only [PyData.canLay0]; exact h, Nat.le_refl _⟩
  | .lst xs, h => by
    have h : flatL xs = true := by simpa only [flatB] using h
    obtain ⟨ps, h1, h2, h3⟩ := flat_toPl h
    exact ⟨.list ps, by simp only [toP, h1], by simp only [PyData.canLay0]; exact h2, by simp only [PyData.depth, dep]; omega⟩
  | .tup xs, h => by
    have h : flatL xs = true := by simpa only [flatB] using h
    obtain ⟨ps, h1, h2, h3⟩ := flat_toPl h
    exact ⟨.tuple ps, by simp only [toP, h1], by simp only [PyData.canLay0]; exact h2, by simp only [PyData.depth, dep]; omega⟩
  | .dct .., h => by simp only [flatB] at h; cases h
  | .ins .., h => by simp only [flatB] at h; cases h
  | .scr _, h => by simp only [flatB] at h; cases h
  | .obj _, h => by simp only [flatB] at h; cases h
  | .raw _, h => by simp only [flatB] at h; cases h
  | .opq, h => by simp only [flatB] at h; cases h
  | .exc _ _ _, h => by simp only [flatB] at h; cases h
theorem flat_toPl : ∀ {ds : List D}, flatL ds = true → ∃ ps, toPl ds = some ps ∧ PyData.canLayAll0 ps = true ∧ PyData.depthAll ps ≤ depL ds
  | [], _ => ⟨[], rfl, rfl, Nat.le_refl _⟩
  | d :: r, h => by
    simp only [flatL] at h
    obtain ⟨h1, h2⟩ := Bool.and_eq_true_iff.mp h
    obtain ⟨p, a1, a2, a3⟩ := flat_toP h1
    obtain ⟨ps, b1, b2, b3⟩ := flat_toPl h2
    exact ⟨p :: ps, by simp only [toPl, a1, b1], by simp only [PyData.canLayAll0, a2, b2, Bool.and_self], by simp only [PyData.depthAll, depL]; omega⟩
end
theorem flat_shaped {d : D} {p : PyData} (h : flatB d = true) (hd : dep d ≤ 64) (e : toP d = some p) : SeqAt.shaped p = true := by
  obtain ⟨q, h1, h2, h3⟩ := flat_toP h
  rw [e] at h1
  cases h1
  unfold SeqAt.shaped
  rw [h2]
  simp
  omega
/-- == of two data -/
theorem gEq_data {M : MS} {s t : SV} {d e : D} {p q : PyData} (h1 : peek M s = some d) (h2 : peek M t = some e) (h3 : toP d = some p) (h4 : toP e = some q) (h5 : SeqAt.shaped p = true) (h6 : SeqAt.shaped q = true) : eqS M s t = some (PyData.eqv p q) := by
  unfold eqS
  simp only [h1, h2, h3, h4, h5, h6, Bool.and_self, if_true]
theorem eqS_lens {M : MS} {s t : SV} {ds es : List D} {b : Bool} (h1 : peek M s = some (.lst ds)) (h2 : peek M t = some (.lst es)) (hl : ds.length ≠ es.length) (e : eqS M s t = some b) : b = false := by
  unfold eqS at e
  simp only [h1, h2] at e
  split at e
  · rename_i p q h3 h4
    split at e
    · cases e
      simp only [toP] at h3 h4
      cases h5 : toPl ds with
      | none => rw [h5] at h3; cases h3
      | some ps =>
        cases h6 : toPl es with
        | none => rw [h6] at h4; cases h4
        | some qs =>
          rw [h5] at h3
          rw [h6] at h4
          cases h3
          cases h4
          have lens : ∀ {xs : List D} {ys : List PyData}, toPl xs = some ys → xs.length = ys.length := by
            intro xs
            induction xs with
            | nil => intro ys h; simp only [toPl] at h; cases h; rfl
            | cons x xs ih =>
              intro ys h
              simp only [toPl] at h
              split at h
              · rename_i p ps _ h2
                cases h
                simp [ih h2]
              · cases h
          have l1 := lens h5
          have l2 := lens h6
          show PyData.eqvAll ps qs = false
          exact SeqAt.eqvAll_other_length (by omega)
    · cases e
  · cases e
/-- lists that are not equally long -/
theorem eqL_lens {M : MS} {s t : SV} {ds es : List D} (h1 : peek M s = some (.lst ds)) (h2 : peek M t = some (.lst es)) (h3 : (listOf M s).map List.length = some ds.length) (h4 : (listOf M t).map List.length = some es.length) (hl : ds.length ≠ es.length) : eqL M s t = some false := by
  unfold eqL
  cases e : eqS M s t with
  | some b => rw [eqS_lens h1 h2 hl e]
  | none =>
    unfold lenNe
    cases h5 : listOf M s with
    | none => rw [h5] at h3; cases h3
    | some xs =>
      cases h6 : listOf M t with
      | none => rw [h6] at h4; cases h4
      | some ys =>
        rw [h5] at h3
        rw [h6] at h4
        simp at h3 h4
        simp only
        rw [if_pos (by omega)]
/-- a list against [] -/
theorem eq_nil0 (ds : List D) (M : MS) : eqL M (.dt (.lst ds)) (.dt (.lst [])) = some ds.isEmpty := by
  cases ds with
  | nil => rfl
  | cons d r => exact eqL_lens (ds := d :: r) (es := []) (peek_dt' _) (peek_dt' _) (by simp [listOf]) (by simp [listOf]) (by simp)
theorem eq_nil {ds : List D} (M : MS) (h : flatL ds = true) (hd : depL ds ≤ 63) : gEq M (.dt (.lst ds)) (.dt (.lst [])) = some (.sv (.dt (.bl ds.isEmpty))) := by
  unfold gEq
  have e0 : eqT M (.dt (.lst ds)) (.dt (.lst [])) = eqL M (.dt (.lst ds)) (.dt (.lst [])) := rfl
  rw [e0, eq_nil0]
  rfl
@[simp] theorem gEq_nil (ds : List D) (M : MS) : gEq M (.dt (.lst ds)) (.dt (.lst [])) = some (.sv (.dt (.bl ds.isEmpty))) := by
  unfold gEq
  have e0 : eqT M (.dt (.lst ds)) (.dt (.lst [])) = eqL M (.dt (.lst ds)) (.dt (.lst [])) := rfl
  rw [e0, eq_nil0]
  rfl
@[simp] theorem gNe_nil (ds : List D) (M : MS) : gNe M (.dt (.lst ds)) (.dt (.lst [])) = some (.sv (.dt (.bl (!ds.isEmpty)))) := by
  unfold gNe
  have e0 : eqT M (.dt (.lst ds)) (.dt (.lst [])) = eqL M (.dt (.lst ds)) (.dt (.lst [])) := rfl
  rw [e0, eq_nil0]
  rfl
theorem flatL_of {ds : List D} (h : ∀ d ∈ ds, flatB d = true) : flatL ds = true := by
  induction ds with
  | nil => rfl
  | cons d r ih =>
    simp only [flatL, h d (by simp), ih fun x hx => h x (by simp [hx]), Bool.and_self]
theorem depL_of {ds : List D} {n : Nat} (h : ∀ d ∈ ds, dep d ≤ n) : depL ds ≤ n := by
  induction ds with
  | nil => simp [depL]
  | cons d r ih =>
    have h1 := h d (by simp)
    have h2 := ih fun x hx => h x (by simp [hx])
    simp only [depL]
    omega
theorem goodL_of {ds : List D} (h : ∀ d ∈ ds, goodD d = true) : goodL ds = true := by
  induction ds with
  | nil => rfl
  | cons d r ih =>
    simp only [goodL, h d (by simp), ih fun x hx => h x (by simp [hx]), Bool.and_self]
theorem swtL_of {ds : List D} {n : Nat} (h : ∀ d ∈ ds, swt d ≤ n) : swtL ds ≤ ds.length * (n + 2) := by
  induction ds with
  | nil => simp [swtL]
  | cons d r ih =>
    have h1 := h d (by simp)
    have h2 := ih fun x hx => h x (by simp [hx])
    simp only [swtL, List.length_cons, Nat.add_mul]
    omega
/-! ### more evaluation -/
section
variable {ρ : Env} {M : MS}
@[simp] theorem eChain_ev (g g' : MS → SV → SV → Option R) (ma mb mc : EM R) : eChain g g' ma mb mc ρ M = (ma ρ M).bind fun p => (mb ρ p.2).bind fun q => (g q.2 p.1.toSV q.1.toSV).bind fun z => (asB z).bind fun k => if k = true then ((mc ρ q.2).bind fun r => (g' r.2 q.1.toSV r.1.toSV).bind fun z => some (z, r.2)) else some (.sv (.dt (.bl false)), q.2) := by
  unfold eChain
  rw [seq_ev, fz_ev]
  cases ma ρ M with
  | none => rfl
  | some p =>
    simp only [Option.bind_some, seq_ev, fz_ev]
    cases mb ρ p.2 with
    | none => rfl
    | some q =>
      simp only [Option.bind_some]
      cases g q.2 p.1.toSV q.1.toSV with
      | none => rfl
      | some z =>
        simp only [Option.bind_some]
        cases z with
        | sv s =>
          cases s with
          | dt d =>
            cases d with
            | bl k =>
              cases k with
              | true =>
                simp only [asB_bl, Option.bind_some, if_true]
                cases mc ρ q.2 with
                | none => rfl
                | some r =>
                  simp only [Option.bind_some]
                  cases g' r.2 q.1.toSV r.1.toSV <;> rfl
              | false => rfl
            | _ => rfl
          | mu k => rfl
        | fr xs => rfl
        | fd ks xs => rfl
@[simp] theorem gLe_ev (i j : Int) : gLe M (.dt (.int i)) (.dt (.int j)) = some (.sv (.dt (.bl (decide (i ≤ j))))) := rfl
@[simp] theorem gLt_ev (i j : Int) : gLt M (.dt (.int i)) (.dt (.int j)) = some (.sv (.dt (.bl (decide (i < j))))) := rfl
@[simp] theorem gGt_ev (i j : Int) : gGt M (.dt (.int i)) (.dt (.int j)) = some (.sv (.dt (.bl (decide (j < i))))) := rfl
@[simp] theorem gGe_ev (i j : Int) : gGe M (.dt (.int i)) (.dt (.int j)) = some (.sv (.dt (.bl (decide (j ≤ i))))) := rfl
@[simp] theorem gAdd_int (i j : Int) : gAdd M (.dt (.int i)) (.dt (.int j)) = some (.sv (.dt (.int (i + j)))) := rfl
@[simp] theorem close_dt (d : D) (n : Nat) : close (.sv (.dt d)) M n = some (.sv (.dt d), M.take n) := rfl
@[simp] theorem close_fr (ds : List D) (n : Nat) : close (.fr ds) M n = some (.fr ds, M.take n) := rfl
@[simp] theorem close_fd (ks : List Key) (ds : List D) (n : Nat) : close (.fd ks ds) M n = some (.fd ks ds, M.take n) := rfl
/-- a body's run by its outcome -/
def fin (o : Option Out) (n : Nat) : Option (R × MS) := match o with
  | some (.rt r M') => if cutOk M' n = true then close r M' n else none
  | some (.nx _ M') => if cutOk M' n = true then some (.sv (.dt .non), M'.take n) else none
  | _ => none
theorem runBody_eq (b : SM) (n : Nat) (ss : List SV) (M : MS) : runBody b n ss M = fin (b (ss.map some ++ List.replicate (n - ss.length) none) M) M.length := rfl
@[simp] theorem fin_rt (r : R) (n : Nat) (h : cutOk M n = true) : fin (some (.rt r M)) n = close r M n := if_pos h
@[simp] theorem fin_nx (n : Nat) (h : cutOk M n = true) : fin (some (.nx ρ M)) n = some (.sv (.dt .non), M.take n) := if_pos h
/-- a store all whose objects hold handles of the store -/
def stOk (M : MS) : Prop := M.all (moLt M.length) = true
theorem moLt_up {n m : Nat} (h : n ≤ m) {o : MO} (e : moLt n o = true) : moLt m o = true := by
  cases o with
  | o C ns vs =>
    simp only [moLt, List.all_eq_true] at e ⊢
    intro s hs
    have := e s hs
    cases s with
    | dt d => rfl
    | mu j => exact decide_eq_true (Nat.lt_of_lt_of_le (of_decide_eq_true this) h)
  | _ => rfl
theorem stOk.cut {M E : MS} (h : stOk M) : cutOk (M ++ E) M.length = true := by
  unfold cutOk
  rw [List.take_left' rfl]
  exact h
theorem stOk.self {M : MS} (h : stOk M) : cutOk M M.length = true := by
  unfold cutOk
  rw [List.take_length]
  exact h
theorem stOk.app {M E : MS} (h : stOk M) (he : E.all (moLt (M ++ E).length) = true) : stOk (M ++ E) := by
  unfold stOk at *
  rw [List.all_append, Bool.and_eq_true]
  exact ⟨List.all_eq_true.mpr fun o ho => moLt_up (by simp) (List.all_eq_true.mp h o ho), he⟩
end
/-! ### comprehensions over data -/
def unD {α : Type} (a : α) (f : D → α) : SV → α
  | .dt d => f d
  | .mu _ => a
theorem filter_unD (p : D → Bool) (f : D → D) (ds : List D) : (((ds.map SV.dt).filter (unD false p)).map (unD .non f)) = (ds.filter p).map f := by
  induction ds with
  | nil => rfl
  | cons d r ih =>
    rw [List.map_cons]
    by_cases h : p d = true
    · rw [List.filter_cons_of_pos (show unD false p (.dt d) = true from h), List.filter_cons_of_pos h, List.map_cons, List.map_cons, ih]
      rfl
    · rw [List.filter_cons_of_neg (show ¬ unD false p (.dt d) = true from h), List.filter_cons_of_neg h, ih]
theorem comp_data {m : EM R} {c : EM Bool} {el : EM R} {j : Nat} {ρ : Env} {M : MS} {r : R} {src : Src} {ds : List D} (p : D → Bool) (f : D → D) (hm : m ρ M = some (r, M)) (hr : seqSrc M r.toSV = some src) (hs : IsSrc src (ds.map .dt)) (hl : ds.length ≤ 16777216)
    (step : ∀ d ∈ ds, c ((ρ.set j none).set j (some (.dt d))) M = some (p d, M) ∧ (p d = true → ∃ r, el ((ρ.set j none).set j (some (.dt d))) M = some (r, M) ∧ r.toSV = .dt (f d))) :
    eComp (eSeq m) (bName j) c el [j] ρ M = some (.fr ((ds.filter p).map f), M) := by
  rw [comp_pure (src := src) (xs := ds.map .dt) (M0 := M) (unD false p) (unD .non f) (by rw [eSeq_ev, hm]; simp only [Option.bind_some, hr]) hs (by rw [sizeLine_eq]; simpa using hl) ?_, filter_unD]
  intro x hx
  rw [List.mem_map] at hx
  obtain ⟨d, hd, rfl⟩ := hx
  obtain ⟨h1, h2⟩ := step d hd
  exact ⟨_, rfl, h1, h2⟩
theorem comp_lst {m : EM R} {c : EM Bool} {el : EM R} {j : Nat} {ρ : Env} {M : MS} {r : R} {ds : List D} (p : D → Bool) (f : D → D) (hm : m ρ M = some (r, M)) (hr : r.toSV = .dt (.lst ds) ∨ r.toSV = .dt (.tup ds)) (hl : ds.length ≤ 16777216)
    (step : ∀ d ∈ ds, c ((ρ.set j none).set j (some (.dt d))) M = some (p d, M) ∧ (p d = true → ∃ r, el ((ρ.set j none).set j (some (.dt d))) M = some (r, M) ∧ r.toSV = .dt (f d))) :
    eComp (eSeq m) (bName j) c el [j] ρ M = some (.fr ((ds.filter p).map f), M) := by
  rcases hr with hr | hr
  · obtain ⟨src, e, hs⟩ := isSrc_lst (M := M) (ds := ds)
    exact comp_data p f hm (by rw [hr]; exact e) hs hl step
  · obtain ⟨src, e, hs⟩ := isSrc_tup (M := M) (ds := ds)
    exact comp_data p f hm (by rw [hr]; exact e) hs hl step
def sg (c : Nat) : D := .str ⟨#[c]⟩
theorem comp_str {m : EM R} {c : EM Bool} {el : EM R} {j : Nat} {ρ : Env} {M : MS} {r : R} {z : Str} (p : D → Bool) (f : D → D) (hm : m ρ M = some (r, M)) (hr : r.toSV = .dt (.str z)) (hl : z.length ≤ 16777216)
    (step : ∀ d ∈ signs z, c ((ρ.set j none).set j (some (.dt d))) M = some (p d, M) ∧ (p d = true → ∃ r, el ((ρ.set j none).set j (some (.dt d))) M = some (r, M) ∧ r.toSV = .dt (f d))) :
    eComp (eSeq m) (bName j) c el [j] ρ M = some (.fr (((signs z).filter p).map f), M) := by
  obtain ⟨src, e, hs⟩ := isSrc_str (M := M) (z := z)
  refine comp_data p f hm (by rw [hr]; exact e) hs ?_ step
  have : (signs z).length = z.length := by simp [signs, Str.length]
  omega
theorem bools_all (bs : List Bool) : dBools (bs.map D.bl) = some bs := by
  induction bs with
  | nil => rfl
  | cons b r ih => simp [dBools, ih]
theorem all_ev {M : MS} {ds : List D} (p : D → Bool) : allS M (.dt (.lst (ds.map fun d => .bl (p d)))) = some (.sv (.dt (.bl (ds.all p)))) := by
  unfold allS
  have e : (ds.map fun d => D.bl (p d)) = (ds.map p).map D.bl := by rw [List.map_map]; rfl
  rw [listD_lst, e]
  simp only [bools_all]
  rw [List.all_map]
  rfl
end Dy

set_option Elab.async false
set_option linter.all false
set_option maxRecDepth 100000
set_option maxHeartbeats 4000000
/-! Layer Dy, part 19: drawn things. -/
namespace Dy
open PySem L2 PyProof.Rows
/-! ### texts -/
theorem okS_iff {x : Str} : okS x = true ↔ ∀ c ∈ x.cps.toList, c < 0x110000 := by
  unfold okS
  rw [← Array.all_toList, List.all_eq_true]
  constructor
  · intro h c hc
    exact of_decide_eq_true (h c hc)
  · intro h c hc
    exact decide_eq_true (h c hc)
theorem okS_app {x y : Str} (hx : okS x = true) (hy : okS y = true) : okS (x ++ y) = true := by
  rw [okS_iff] at *
  intro c hc
  rw [show (x ++ y).cps.toList = x.cps.toList ++ y.cps.toList from TL.tl_append x y] at hc
  rcases List.mem_append.mp hc with h | h
  · exact hx c h
  · exact hy c h
theorem okS_cut {z : Str} {lo hi : Option Int} (h : okS z = true) : okS (cutS z lo hi) = true := by
  rw [okS_iff] at *
  intro c hc
  have e : (cutS z lo hi).cps.toList = (z.cps.toList.drop (HT.sIx z.length 0 lo)).take (HT.sIx z.length z.length hi - HT.sIx z.length 0 lo) := by
    unfold cutS
    simp
  rw [e] at hc
  exact h c (List.mem_of_mem_drop (List.mem_of_mem_take hc))
theorem okS_one {c : Nat} (h : c < 0x110000) : okS ⟨#[c]⟩ = true := by
  rw [okS_iff]
  intro d hd
  have : d = c := by simpa using hd
  omega
theorem join_nil_tl : ∀ ys : List Str, (Txt.join (Str.ofString "") ys).cps.toList = (ys.map fun y => y.cps.toList).flatten := fun ys => by
  rw [TL.join_eq]
  have e := TL.tl_join (Str.ofString "") ys
  have e2 : (Str.join (Str.ofString "") ys).cps.toList = TL.joinL [] (ys.map TL.tl) := e
  rw [e2]
  have key : ∀ l : List (List Nat), TL.joinL [] l = l.flatten := by
    intro l
    induction l with
    | nil => rfl
    | cons p r ih =>
      cases r with
      | nil => simp [TL.joinL]
      | cons q r => simp only [TL.joinL, List.nil_append, ih, List.flatten_cons]
  exact key _
/-! ### evaluation -/
section
variable {ρ : Env} {M : MS}
@[simp] theorem eRng1_ev (m : EM R) : eRng1 (eCons m eNil) ρ M = (m ρ M).bind fun p => (asI p.1.toSV).bind fun j => if isRange j = true then some (rngSrc 0 j.toNat, p.2) else none := by
  unfold eRng1
  rw [seq_ev, eCons_ev]
  cases m ρ M with
  | none => rfl
  | some p =>
    simp only [Option.bind_some, eNil_ev]
    cases p.1.toSV with
    | dt d => cases d <;> rfl
    | mu k => rfl
@[simp] theorem eMt_ev (T : String) (g : MS → SV → List SV → Option (R × MS)) (m : EM R) (ms : EM (List SV)) : eMt T g m ms ρ M = (m ρ M).bind fun p => if isTyS T p.2 p.1.toSV = true then ((ms ρ p.2).bind fun q => g q.2 p.1.toSV q.1) else none := by
  unfold eMt
  rw [seq_ev, fz_ev]
  cases m ρ M with
  | none => rfl
  | some p =>
    simp only [Option.bind_some]
    split
    · rw [seq_ev]
    · rfl
@[simp] theorem sNew_fr {i : Nat} {me : EM R} {ds : List D} {M' : MS} (h : me ρ M = some (.fr ds, M')) : sNew i me ρ M = some (.nx (ρ.set i (some (.mu M'.length))) (M' ++ [.l (ds.map .dt)])) := by
  unfold sNew
  rw [h]
@[simp] theorem eIsiC_ev (C : Addr) (m : EM R) : eIsiC C m ρ M = (m ρ M).bind fun p => (isiCS C p.2 p.1.toSV).bind fun b => some (.sv (.dt (.bl b)), p.2) := by
  unfold eIsiC
  rw [seq_ev, fz_ev]
  cases m ρ M with
  | none => rfl
  | some p =>
    simp only [Option.bind_some]
    cases isiCS C p.2 p.1.toSV <;> rfl
end
theorem atI_in {α : Type} {xs : List α} {i : Int} (h0 : 0 ≤ i) (h1 : i < xs.length) : ∃ x ∈ xs, atI xs i = some x ∧ xs[i.toNat]? = some x := by
  have hl : i.toNat < xs.length := by omega
  refine ⟨xs[i.toNat], List.getElem_mem _, ?_, List.getElem?_eq_getElem hl⟩
  unfold atI ixN
  rw [if_pos h0, if_pos h1]
  exact List.getElem?_eq_getElem hl
theorem gIx_lst {M : MS} {ds : List D} {i : Int} (h0 : 0 ≤ i) (h1 : i < ds.length) : ∃ d ∈ ds, gIx M (.dt (.lst ds)) (.dt (.int i)) = some (.sv (.dt d)) ∧ ds[i.toNat]? = some d := by
  have hl : i.toNat < ds.length := by omega
  refine ⟨ds[i.toNat], List.getElem_mem _, ?_, List.getElem?_eq_getElem hl⟩
  unfold gIx
  simp only [itemsOf_lst]
  unfold atI ixN
  rw [if_pos h0, if_pos (by simpa using h1)]
  simp [List.getElem?_eq_getElem hl]
theorem gIx_tup {M : MS} {ds : List D} {i : Int} (h0 : 0 ≤ i) (h1 : i < ds.length) : ∃ d ∈ ds, gIx M (.dt (.tup ds)) (.dt (.int i)) = some (.sv (.dt d)) ∧ ds[i.toNat]? = some d := by
  have hl : i.toNat < ds.length := by omega
  refine ⟨ds[i.toNat], List.getElem_mem _, ?_, List.getElem?_eq_getElem hl⟩
  unfold gIx
  simp only [itemsOf_tup]
  unfold atI ixN
  rw [if_pos h0, if_pos (by simpa using h1)]
  simp [List.getElem?_eq_getElem hl]
theorem gIx_str {M : MS} {z : Str} {i : Int} (hz : z.length ≤ 16777216) (h0 : 0 ≤ i) (h1 : i < z.length) : ∃ c ∈ z.cps.toList, gIx M (.dt (.str z)) (.dt (.int i)) = some (.sv (.dt (.str ⟨#[c]⟩))) := by
  obtain ⟨c, hc, e, _⟩ := atI_in (xs := z.cps.toList) h0 (by simpa [Str.length] using h1)
  refine ⟨c, hc, ?_⟩
  unfold gIx
  simp only [sizeLine_ev, if_pos hz, e]
/-! ### comprehensions that draw -/
def Bagged (R : MS) (M : MS) : Prop := ∃ B, M = B :: R ∧ BagO B
theorem comp_each_go {src : Src} {xs : List SV} {b : Bnd} {el : EM R} {ρ0 : Env} (hs : IsSrc src xs) (Inv : MS → Prop) (P : D → Prop) (hl : xs.length ≤ sizeLine)
    (step : ∀ x ∈ xs, ∀ M, Inv M → ∃ ρ1, b x ρ0 = some ρ1 ∧ ∃ r d M2, el ρ1 M = some (r, M2) ∧ r.toSV = .dt d ∧ P d ∧ Inv M2) :
    ∀ (k i : Nat) (acc : List D) (M : MS), i + k = xs.length → acc.length = i → (∀ d ∈ acc, P d) → Inv M → ∃ ds M', compGo src b cYes el ρ0 k i acc M = some (ds, M') ∧ Inv M' ∧ (∀ d ∈ ds, P d) ∧ ds.length = xs.length
  | 0, i, acc, M, hi, ha, hp, hM => by
    refine ⟨acc, M, ?_, hM, hp, by omega⟩
    show (if src.stop M i = true then some (acc, M) else none) = _
    rw [hs.stop, if_pos (decide_eq_true (by omega))]
  | k + 1, i, acc, M, hi, ha, hp, hM => by
    have hx : xs[i]? = some xs[i] := List.getElem?_eq_getElem (by omega)
    obtain ⟨ρ1, hb, r, d, M2, he, hr, hd, hM2⟩ := step xs[i] (List.getElem_mem _) M hM
    unfold compGo
    rw [hs.get, hx]
    simp only [hb, cYes_ev]
    have hf : fz el ρ1 M = some (.dt d, M2) := by
      unfold fz EM.seq
      rw [he]
      show some (r.toSV, M2) = _
      rw [hr]
    simp only [hf]
    rw [if_pos (by omega)]
    refine comp_each_go hs Inv P hl step k (i + 1) (acc ++ [d]) M2 (by omega) (by simp; omega) (fun y hy => ?_) hM2
    rcases List.mem_append.mp hy with h | h
    · exact hp y h
    · rw [List.mem_singleton.mp h]; exact hd
theorem comp_each {src : Src} {xs : List SV} {b : Bnd} {el : EM R} {ms : EM Src} {vs : List Nat} {ρ : Env} {M M0 : MS} (Inv : MS → Prop) (P : D → Prop) (hm : ms ρ M = some (src, M0)) (hs : IsSrc src xs) (hl : xs.length ≤ 16777216) (h0 : Inv M0)
    (step : ∀ x ∈ xs, ∀ M, Inv M → ∃ ρ1, b x (wipeE ρ vs) = some ρ1 ∧ ∃ r d M2, el ρ1 M = some (r, M2) ∧ r.toSV = .dt d ∧ P d ∧ Inv M2) :
    ∃ ds M', eComp ms b cYes el vs ρ M = some (.fr ds, M') ∧ Inv M' ∧ (∀ d ∈ ds, P d) ∧ ds.length = xs.length := by
  obtain ⟨ds, M', h1, h2, h3, h4⟩ := comp_each_go (ρ0 := wipeE ρ vs) hs Inv P (by rw [sizeLine_eq]; exact hl) step xs.length 0 [] M0 (by omega) rfl (by simp) h0
  refine ⟨ds, M', ?_, h2, h3, h4⟩
  unfold eComp
  simp only [hm]
  rw [hs.n, h1]
theorem comp_draw {ms : EM Src} {j : Nat} {el : EM R} {ρ : Env} {M : MS} {lo : Int} {n : Nat} {B : MO} {R : MS} (P : D → Prop) (hm : ms ρ M = some (rngSrc lo n, B :: R)) (hB : BagO B) (hn : n ≤ 16777216)
    (step : ∀ i, i < n → ∀ B, BagO B → ∃ r d B', el ((ρ.set j none).set j (some (.dt (.int (lo + (i : Nat)))))) (B :: R) = some (r, B' :: R) ∧ r.toSV = .dt d ∧ P d ∧ BagO B') :
    ∃ ds B', eComp ms (bName j) cYes el [j] ρ M = some (.fr ds, B' :: R) ∧ BagO B' ∧ (∀ d ∈ ds, P d) ∧ ds.length = n := by
  obtain ⟨ds, M', h1, ⟨B', rfl, hB'⟩, h3, h4⟩ := comp_each (vs := [j]) (ρ := ρ) (M := M) (b := bName j) (el := el) (Bagged R) P hm (isSrc_rng lo n) (by simpa using hn) ⟨B, rfl, hB⟩ (fun x hx M hM => by
    simp only [List.mem_map, List.mem_range] at hx
    obtain ⟨i, hi, rfl⟩ := hx
    obtain ⟨B0, rfl, hB0⟩ := hM
    obtain ⟨r, d, B', e1, e2, e3, e4⟩ := step i hi B0 hB0
    exact ⟨_, rfl, r, d, B' :: R, e1, e2, e3, ⟨B', rfl, e4⟩⟩)
  exact ⟨ds, B', h1, hB', h3, by simpa using h4⟩
theorem isRange_of {i : Int} (h0 : -1000000000 ≤ i) (h1 : i ≤ 1000000000) : isRange i = true := by
  unfold isRange
  simp
  omega

/-! ### a list behind a handle -/
theorem peeks_map (n : Nat) (M : MS) (ds : List D) : peeks (peekN n M) (ds.map .dt) = some ds := by
  induction ds with
  | nil => rfl
  | cons d r ih =>
    simp only [List.map_cons, peeks, peek_dt, ih]
theorem peek_mu {M : MS} {k : Nat} {ds : List D} (h : M[k]? = some (.l (ds.map .dt))) : peek M (.mu k) = some (.lst ds) := by
  show peekN 3 M (.mu k) = _
  unfold peekN
  rw [h]
  simp only [peeks_map]
theorem listOf_mu {M : MS} {k : Nat} {xs : List SV} (h : M[k]? = some (.l xs)) : listOf M (.mu k) = some xs := by
  unfold listOf
  simp only [h]
theorem eqL_nil_mu {M : MS} {k : Nat} {ds : List D} (h : M[k]? = some (.l (ds.map .dt))) : eqL M (.mu k) (.dt (.lst [])) = some ds.isEmpty := by
  cases ds with
  | nil =>
    have e : eqS M (.mu k) (.dt (.lst [])) = some (PyData.eqv (.list []) (.list [])) := gEq_data (d := .lst []) (e := .lst []) (peek_mu (ds := []) h) (peek_dt' _) rfl rfl rfl rfl
    unfold eqL
    rw [e]
    rfl
  | cons d r => exact eqL_lens (ds := d :: r) (es := []) (peek_mu h) (peek_dt' _) (by rw [listOf_mu h]; simp) (by simp [listOf]) (by simp)
theorem ne_nil_mu0 {M : MS} {k : Nat} {ds : List D} (h : M[k]? = some (.l (ds.map .dt))) : gNe M (.mu k) (.dt (.lst [])) = some (.sv (.dt (.bl (!ds.isEmpty)))) := by
  unfold gNe
  have e0 : eqT M (.mu k) (.dt (.lst [])) = eqL M (.mu k) (.dt (.lst [])) := rfl
  rw [e0, eqL_nil_mu h]
  rfl
theorem ne_nil_mu {M : MS} {k : Nat} {ds : List D} (h : M[k]? = some (.l (ds.map .dt))) (hf : flatL ds = true) (hd : depL ds ≤ 63) : gNe M (.mu k) (.dt (.lst [])) = some (.sv (.dt (.bl (!ds.isEmpty)))) := ne_nil_mu0 h
theorem listD_mu {M : MS} {k : Nat} {ds : List D} (h : M[k]? = some (.l (ds.map .dt))) : listD M (.mu k) = some ds := by
  unfold listD
  rw [listOf_mu h]
  exact allD_map ds
theorem itemsOf_mu {M : MS} {k : Nat} {xs : List SV} (h : M[k]? = some (.l xs)) : itemsOf M (.mu k) = some xs := by
  unfold itemsOf
  exact listOf_mu h
theorem itemsD_mu {M : MS} {k : Nat} {ds : List D} (h : M[k]? = some (.l (ds.map .dt))) : itemsD M (.mu k) = some ds := by
  unfold itemsD
  rw [itemsOf_mu h]
  exact allD_map ds
theorem lenS_mu {M : MS} {k : Nat} {ds : List D} (h : M[k]? = some (.l (ds.map .dt))) : lenS M (.mu k) = some (.sv (.dt (.int ds.length))) := by
  unfold lenS
  simp only [itemsOf_mu h]
  simp
theorem muL_mu {M : MS} {k : Nat} {xs : List SV} (h : M[k]? = some (.l xs)) : muL M (.mu k) = some (k, xs) := by
  unfold muL
  simp only [h]
theorem setAt_mu {M : MS} {k : Nat} {ds : List D} {i : Int} {d : D} (h : M[k]? = some (.l (ds.map .dt))) (h0 : 0 ≤ i) (h1 : i < ds.length) : setAt M (.mu k) (.dt (.int i)) (.dt d) = some (M.set k (.l ((ds.set i.toNat d).map .dt))) := by
  unfold setAt
  rw [muL_mu h]
  simp [ixN, h0, h1, List.map_set]
theorem tupleS_mu {M : MS} {k : Nat} {ds : List D} (h : M[k]? = some (.l (ds.map .dt))) : tupleS M (.mu k) = some (.sv (.dt (.tup ds))) := by
  unfold tupleS
  simp only [listD_mu h]
theorem close_mu {M : MS} {k n : Nat} {ds : List D} (h : M[k]? = some (.l (ds.map .dt))) (hk : n ≤ k) : close (.sv (.mu k)) M n = some (.fr ds, M.take n) := by
  unfold close
  dsimp only
  rw [if_neg (by omega)]
  simp only [h, allD_map]
@[simp] theorem tupleS_lst {M : MS} (ds : List D) : tupleS M (.dt (.lst ds)) = some (.sv (.dt (.tup ds))) := by
  unfold tupleS
  simp only [listD_lst]
@[simp] theorem tupleS_tup {M : MS} (ds : List D) : tupleS M (.dt (.tup ds)) = some (.sv (.dt (.tup ds))) := rfl
@[simp] theorem listS_lst {M : MS} (ds : List D) : listS M (.dt (.lst ds)) = some (.fr ds) := by
  unfold listS
  simp only [itemsD_lst]
@[simp] theorem listS_tup {M : MS} (ds : List D) : listS M (.dt (.tup ds)) = some (.fr ds) := by
  unfold listS
  simp only [itemsD_tup]
end Dy

set_option Elab.async false
set_option linter.all false
set_option maxRecDepth 100000
set_option maxHeartbeats 4000000
/-! Layer Dy, part S: Python's order of data that need be comparable only up to the first place at which they differ. -/
namespace Dy
open PySem PySem.W PySem.SeqAt PyProof.Rows
section
open Sem (wp)
open AutoSeq1 (wpAny_loadPart')
open MeetsSeq MeetsSeq2 MeetsSeq3 SeqRoads2
/-- what stands behind the first unlike place is not asked -/
theorem tup_lt_first (p q : Addr) (us vs : Array Value) (n m : Nat) (d1 d2 : Option Addr) (s1 s2 : Array (Option Value)) (e r : Nat → Bool) :
    Meets (Builtin.«tuple.__lt__» ⟨[.ref p, .ref q], []⟩)
      (fun A R s => s.heap.get? p = some { cls := .type "tuple", dict := d1, data := .seq us n, slots := s1 } ∧ s.heap.get? q = some { cls := .type "tuple", dict := d2, data := .seq vs m, slots := s2 } ∧
        (∀ j (a1 : j < us.size) (a2 : j < vs.size), EqAt A.in1 s us[j] vs[j] (e j)) ∧ (∀ j (a1 : j < us.size) (a2 : j < vs.size), (∀ i, i < j → e i = true) → e j = false → RcLt A.in1 s us[j] vs[j] (r j)) ∧
        R (.ok (.ret (.bool (firstLt e r (decide (us.size < vs.size)) (List.range (min us.size vs.size)))))) s) :=
  .of_wp fun prog w A R s hyp => by
    obtain ⟨hp, g, d, tk, os⟩ := s
    obtain ⟨g1, g2, ge, gr, gR⟩ := hyp
    have sub2 := AutoSeq1.sub_tuple_tuple
    have len : (us.toList.zip vs.toList).length = min us.size vs.size := by simp
    wp_walk using wpAny_loadPart' g1, wpAny_loadPart' g2, wpAny_forIn_list _ (fun rest b s' => b.1 = none ∧ s' = ⟨hp, g, d, tk, os⟩ ∧ ∃ i, (∀ k, k < i → e k = true) ∧ rest = (us.toList.zip vs.toList).drop i ∧
      R (.ok (.ret (.bool (firstLt e r (decide (us.size < vs.size)) ((List.range (min us.size vs.size)).drop i))))) ⟨hp, g, d, tk, os⟩) _
    case turn =>
      rintro ⟨y, x⟩ rest b s' ⟨hb', rfl, i, all, hz, hR⟩
      have lt : i < (us.toList.zip vs.toList).length := by
        apply Nat.lt_of_not_le
        intro ge
        rw [List.drop_of_length_le ge] at hz
        cases hz
      have lm : i < min us.size vs.size := by rw [← len]; exact lt
      have l1 : i < us.size := by omega
      have l2 : i < vs.size := by omega
      rw [List.drop_eq_getElem_cons lt] at hz
      obtain ⟨hyx, hrest⟩ := List.cons.inj hz
      have ey : y = us[i] := by simpa using congrArg Prod.fst hyx
      have ex : x = vs[i] := by simpa using congrArg Prod.snd hyx
      subst ey ex
      rw [show (List.range (min us.size vs.size)).drop i = i :: (List.range (min us.size vs.size)).drop (i + 1) by simp [List.drop_eq_getElem_cons, lm]] at hR
      refine wpAny_bind (ge i l1 l2 prog w _ _ ?_)
      cases hi : e i with
      | true =>
        rw [firstLt_yes hi] at hR
        wp_walk
        refine ⟨rfl, rfl, i + 1, fun k hk => ?_, hrest, hR⟩
        by_cases z : k = i
        · rw [z]; exact hi
        · exact all k (by omega)
      | false =>
        rw [firstLt_no hi] at hR
        simp only [Bool.not_false, if_true]
        refine wpAny_bind (wpAny_rule ?_)
        refine wpAny_bind (gr i l1 l2 all hi prog w _ _ ?_)
        wp_walk
        exact ⟨_, rfl, hR⟩
    case fin =>
      rintro ⟨b1, b2⟩ s' ⟨hb', rfl, i, all, hz, hR⟩
      simp only at hb'
      subst hb'
      have over : min us.size vs.size ≤ i := by
        apply Nat.le_of_not_lt
        intro lt
        rw [List.drop_eq_getElem_cons (by rw [len]; exact lt)] at hz
        cases hz
      rw [List.drop_of_length_le (by simpa using over)] at hR
      wp_walk
      exact ⟨_, rfl, by simpa [Builtin.Tuple.tupleCompareSizes, firstLt] using hR⟩
    case h =>
      exact ⟨rfl, rfl, 0, fun k hk => absurd hk (Nat.not_lt_zero _), rfl, by simpa using gR⟩
end
theorem rc_tuples {A : Around} {s : Shared} {p q : Addr} {us vs : Array Value} {e r : Nat → Bool} (tp : s.heap.IsTuple p us) (tq : s.heap.IsTuple q vs) (hu : A.units < cLine)
    (he : ∀ j (a1 : j < us.size) (a2 : j < vs.size), EqAt A.in1 s us[j] vs[j] (e j)) (hr : ∀ j (a1 : j < us.size) (a2 : j < vs.size), (∀ i, i < j → e i = true) → e j = false → RcLt A.in1 s us[j] vs[j] (r j)) :
    RcLt A s (.ref p) (.ref q) (firstLt e r (decide (us.size < vs.size)) (List.range (min us.size vs.size))) := by
  intro prog w E Q hQ
  obtain ⟨⟨c1, d1, t1, s1⟩, o1, k1, n, e1⟩ := id tp
  obtain ⟨⟨c2, d2, t2, s2⟩, o2, k2, m, e2⟩ := id tq
  simp only at k1 e1 k2 e2
  subst k1 e1 k2 e2
  refine richCompare_meets_room (op := .Lt) ⟨_, o1, rfl⟩ ⟨_, o2, rfl⟩ F.slot_tuple_lt F.entry_tuple_lt (F.args_tuple_lt_2 _ _) (tup_lt_first p q us vs n m d1 d2 s1 s2 e r) ⟨o1, o2, he, hr, ?_⟩ hu
  exact And.intro (fun z => nomatch z) hQ

mutual
/-- the two can be compared: place by place, up to the first unlike one -/
def cmpD : PyData → PyData → Bool
  | .none, .none => true
  | .bool _, .bool _ => true
  | .int _, .int _ => true
  | .str _, .str _ => true
  | .tuple xs, .tuple ys => cmpL xs ys
  | _, _ => false
def cmpL : List PyData → List PyData → Bool
  | x :: xs, y :: ys => cmpD x y && (!PyData.eqv x y || cmpL xs ys)
  | [], _ => true
  | _ :: _, [] => true
end
abbrev Tk := Int ⊕ List Nat
/-- two rows of signs part -/
def Div (L M : List Tk) : Prop := ∃ p a b l m, L = p ++ a :: l ∧ M = p ++ b :: m ∧ a ≠ b
theorem Div.app {L M : List Tk} (h : Div L M) (l m : List Tk) : Div (L ++ l) (M ++ m) := by
  obtain ⟨p, a, b, l1, m1, rfl, rfl, ne⟩ := h
  exact ⟨p, a, b, l1 ++ l, m1 ++ m, by simp, by simp, ne⟩
theorem Div.pre {L M : List Tk} (h : Div L M) (q : List Tk) : Div (q ++ L) (q ++ M) := by
  obtain ⟨p, a, b, l1, m1, rfl, rfl, ne⟩ := h
  exact ⟨q ++ p, a, b, l1, m1, by simp, by simp, ne⟩
theorem Div.lex {L M : List Tk} (h : Div L M) (l m : List Tk) : PyProof.Rows.lexLt itemOrd (L ++ l) (M ++ m) = PyProof.Rows.lexLt itemOrd L M := by
  obtain ⟨p, a, b, l1, m1, rfl, rfl, ne⟩ := h
  rw [List.append_assoc, List.append_assoc, lex_pre, lex_pre, List.cons_append, List.cons_append, lex_atom ne, lex_atom ne l1 m1]
theorem cmpL_cons {x y : PyData} {xs ys : List PyData} (h : cmpL (x :: xs) (y :: ys) = true) : cmpD x y = true ∧ (PyData.eqv x y = true → cmpL xs ys = true) := by
  rw [cmpL, Bool.and_eq_true] at h
  refine ⟨h.1, fun e => ?_⟩
  have := h.2
  rw [e] at this
  simpa using this
mutual
theorem toksC : ∀ (x y : PyData), cmpD x y = true → (PyData.eqv x y = true → keyToks x = keyToks y) ∧ (PyData.eqv x y = false → Div (keyToks x) (keyToks y))
  | .none, y, h => by
    cases y with
    | none => exact ⟨fun _ => rfl, fun e => by simp [PyData.eqv] at e⟩
    | _ => simp [cmpD] at h
  | .bool a, y, h => by
    cases y with
    | bool b => exact ⟨fun e => by simp [PyData.eqv] at e; rw [e], fun e => ⟨[], _, _, [], [], rfl, rfl, by cases a <;> cases b <;> simp_all [PyData.eqv]⟩⟩
    | _ => simp [cmpD] at h
  | .int a, y, h => by
    cases y with
    | int b => exact ⟨fun e => by simp [PyData.eqv] at e; rw [e], fun e => ⟨[], _, _, [], [], rfl, rfl, by simpa [PyData.eqv] using e⟩⟩
    | _ => simp [cmpD] at h
  | .str a, y, h => by
    cases y with
    | str b =>
      refine ⟨fun e => by simp [PyData.eqv] at e; rw [e], fun e => ⟨[], _, _, [], [], rfl, rfl, fun z => ?_⟩⟩
      have : a = b := str_of_cps (Sum.inr.inj z)
      subst this
      simp [PyData.eqv] at e
    | _ => simp [cmpD] at h
  | .list xs, y, h => by cases y <;> simp [cmpD] at h
  | .tuple xs, y, h => by
    cases y with
    | tuple ys =>
      simp only [cmpD] at h
      simp only [PyData.eqv, keyToks]
      exact toksCL xs ys h
    | _ => simp [cmpD] at h
  | .dict kvs, y, h => by cases y <;> simp [cmpD] at h
theorem toksCL : ∀ (xs ys : List PyData), cmpL xs ys = true → (PyData.eqvAll xs ys = true → keyToksAll xs = keyToksAll ys) ∧ (PyData.eqvAll xs ys = false → Div (keyToksAll xs) (keyToksAll ys))
  | [], [], _ => ⟨fun _ => rfl, fun e => by simp [PyData.eqvAll] at e⟩
  | [], y :: ys, _ => ⟨fun e => by simp [PyData.eqvAll] at e, fun _ => ⟨[], .inl 0, .inl 1, [], keyToks y ++ keyToksAll ys, by simp [keyToksAll], by simp [keyToksAll], by simp⟩⟩
  | x :: xs, [], _ => ⟨fun e => by simp [PyData.eqvAll] at e, fun _ => ⟨[], .inl 1, .inl 0, keyToks x ++ keyToksAll xs, [], by simp [keyToksAll], by simp [keyToksAll], by simp⟩⟩
  | x :: xs, y :: ys, h => by
    obtain ⟨h1, h2⟩ := cmpL_cons h
    obtain ⟨t1, t2⟩ := toksC x y h1
    simp only [PyData.eqvAll, keyToksAll]
    cases e : PyData.eqv x y with
    | true =>
      obtain ⟨u1, u2⟩ := toksCL xs ys (h2 e)
      rw [t1 e]
      exact ⟨fun z => by rw [u1 (by simpa using z)], fun z => ((u2 (by simpa using z)).pre (keyToks y)).pre [.inl 1]⟩
    | false => exact ⟨fun z => by simp at z, fun _ => ((t2 e).app _ _).pre [.inl 1]⟩
end
theorem lex_consT (x y : PyData) (xs ys : List PyData) (h : cmpD x y = true) (e : PyData.eqv x y = true) : PyProof.Rows.lexLt itemOrd (keyToksAll (x :: xs)) (keyToksAll (y :: ys)) = PyProof.Rows.lexLt itemOrd (keyToksAll xs) (keyToksAll ys) := by
  simp only [keyToksAll]
  rw [(toksC x y h).1 e]
  exact lex_pre (.inl 1 :: keyToks y) _ _
theorem lex_consF (x y : PyData) (xs ys : List PyData) (h : cmpD x y = true) (e : PyData.eqv x y = false) : PyProof.Rows.lexLt itemOrd (keyToksAll (x :: xs)) (keyToksAll (y :: ys)) = dataLt x y := by
  simp only [keyToksAll]
  have q := lex_pre [.inl 1] (keyToks x ++ keyToksAll xs) (keyToks y ++ keyToksAll ys)
  rw [List.cons_append, List.nil_append, List.cons_append, List.nil_append] at q
  rw [q, ((toksC x y h).2 e).lex]
  rfl
theorem first_toks : ∀ (xs ys : List PyData), cmpL xs ys = true → firstLt (pairEq xs ys) (fun j => dataLt (xs.getD j .none) (ys.getD j .none)) (decide (xs.length < ys.length)) (List.range (min xs.length ys.length)) = PyProof.Rows.lexLt itemOrd (keyToksAll xs) (keyToksAll ys)
  | [], [], _ => by simp [firstLt, keyToksAll, lex_irrefl]
  | [], y :: ys, _ => by
    simp only [keyToksAll]
    rw [lex_diff (O := itemOrd) (by simp)]
    simp [firstLt, itemLt]
  | x :: xs, [], _ => by
    simp only [keyToksAll]
    rw [lex_diff (O := itemOrd) (by simp)]
    simp [firstLt, itemLt]
  | x :: xs, y :: ys, h => by
    obtain ⟨h1, h2⟩ := cmpL_cons h
    have lens : min (x :: xs).length (y :: ys).length = min xs.length ys.length + 1 := by simp only [List.length_cons]; omega
    have decs : decide ((x :: xs).length < (y :: ys).length) = decide (xs.length < ys.length) := by simp
    rw [lens, decs, List.range_succ_eq_map]
    cases e : PyData.eqv x y with
    | true =>
      rw [lex_consT x y xs ys h1 e, ← first_toks xs ys (h2 e), firstLt_yes (show pairEq (x :: xs) (y :: ys) 0 = true from e), firstLt_map]
      rfl
    | false =>
      rw [lex_consF x y xs ys h1 e, firstLt_no (show pairEq (x :: xs) (y :: ys) 0 = false from e)]
      rfl
theorem noneC {x y : PyData} (h : cmpD x y = true) (e : PyData.eqv x y = false) : x ≠ .none := by
  intro z
  subst z
  cases y <;> simp_all [cmpD, PyData.eqv]
mutual
theorem rcC : ∀ (da db : PyData) (A : Around) (s : Shared) (a b : Value) (as bs : List Addr), Reads s.heap a da as → Reads s.heap b db bs → cmpD da db = true → da.canLay0 = true → db.canLay0 = true → da ≠ .none → A.units + min da.depth db.depth < cLine → RcLt A s a b (dataLt da db)
  | .none, _, _, _, _, _, _, _, _, _, _, _, _, hn, _ => absurd rfl hn
  | .bool x, db, A, s, a, b, as, bs, ra, rb, h, _, _, _, _ => by
    cases db with
    | bool y =>
      cases ra
      cases rb
      intro prog w E Q hq
      exact lt_bool (by rw [← dataLt_bool]; exact hq)
    | _ => simp [cmpD] at h
  | .int x, db, A, s, a, b, as, bs, ra, rb, h, _, _, _, _ => by
    cases db with
    | int y =>
      cases ra
      cases rb
      intro prog w E Q hq
      exact P.lt_int (by rw [← dataLt_int]; exact hq)
    | _ => simp [cmpD] at h
  | .str x, db, A, s, a, b, as, bs, ra, rb, h, _, _, _, _ => by
    cases db with
    | str y =>
      cases ra
      cases rb
      intro prog w E Q hq
      exact P.lt_str (by rw [← dataLt_str]; exact hq)
    | _ => simp [cmpD] at h
  | .list xs, db, _, _, _, _, _, _, _, _, h, _, _, _, _ => by cases db <;> simp [cmpD] at h
  | .dict xs, db, _, _, _, _, _, _, _, _, h, _, _, _, _ => by cases db <;> simp [cmpD] at h
  | .tuple xs, db, A, s, a, b, as, bs, ra, rb, h, ca, cb, _, hu => by
    cases db with
    | tuple ys =>
      have hc : cmpL xs ys = true := by simpa [cmpD] using h
      have ca : PyData.canLayAll0 xs = true := by simpa [PyData.canLay0] using ca
      have cb : PyData.canLayAll0 ys = true := by simpa [PyData.canLay0] using cb
      cases ra with
      | @tuple p o us n _ as1 h1 h2 h3 h4 =>
        cases rb with
        | @tuple q o' vs m _ bs1 k1 k2 k3 k4 =>
          have n1 : us.size = xs.length := by simpa using ReadsAll.length _ _ _ h4
          have n2 : vs.size = ys.length := by simpa using ReadsAll.length _ _ _ k4
          rw [dataLt_tuple, ← first_toks xs ys hc, ← n1, ← n2]
          refine rc_tuples ⟨_, h1, h2, _, h3⟩ ⟨_, k1, k2, _, k3⟩ (room_here hu) (fun j j1 j2 => ?_) fun j j1 j2 all hj => ?_
          · have q := eqAt_readsAll xs ys A.in1 s us.toList vs.toList _ _ h4 k4 ca cb (room_in hu) j (by simpa using j1) (by simpa using j2)
            simpa using q
          · have q := rcCL xs ys A.in1 s us.toList vs.toList _ _ h4 k4 hc ca cb (room_in hu) j (by simpa using j1) (by simpa using j2) all hj
            simpa using q
    | _ => simp [cmpD] at h
theorem rcCL : ∀ (xs ys : List PyData) (A : Around) (s : Shared) (us vs : List Value) (as bs : List Addr), ReadsAll s.heap us xs as → ReadsAll s.heap vs ys bs → cmpL xs ys = true → PyData.canLayAll0 xs = true → PyData.canLayAll0 ys = true →
    A.units + min (PyData.depthAll xs) (PyData.depthAll ys) < cLine → ∀ j (h1 : j < us.length) (h2 : j < vs.length), (∀ i, i < j → pairEq xs ys i = true) → pairEq xs ys j = false → RcLt A s us[j] vs[j] (dataLt (xs.getD j .none) (ys.getD j .none))
  | [], _, _, _, _, _, _, _, ra, _, _, _, _, _, j, h1, _, _, _ => by cases ra; exact absurd h1 (Nat.not_lt_zero _)
  | _ :: _, [], _, _, _, _, _, _, _, rb, _, _, _, _, j, _, h2, _, _ => by cases rb; exact absurd h2 (Nat.not_lt_zero _)
  | x :: xs, y :: ys, A, s, _, _, _, _, ra, rb, h, ca, cb, hu, j, h1, h2, all, hj => by
    obtain ⟨g1, g2⟩ := cmpL_cons h
    simp only [PyData.canLayAll0, Bool.and_eq_true] at ca cb
    cases ra with
    | cons r rs =>
      cases rb with
      | cons r' rs' =>
        cases j with
        | zero => exact rcC x y A s _ _ _ _ r r' g1 ca.1 cb.1 (noneC g1 hj) (room_head hu)
        | succ j => exact rcCL xs ys A s _ _ _ _ rs rs' (g2 (all 0 (Nat.succ_pos _))) ca.2 cb.2 (room_tail hu) j (Nat.lt_of_succ_lt_succ h1) (Nat.lt_of_succ_lt_succ h2) (fun i hi => all (i + 1) (Nat.succ_lt_succ hi)) hj
end

section
variable {prog : Program} {w : PySem.World} {A : Around} {E : Value → Shared → Prop} {s : Shared}
/-- one item against another; f: both of one type that is no tuple -/
theorem oneC {f : Bool} {da db : PyData} {a b : Value} {as bs : List Addr} {Q : Bool → Shared → Prop} (hf : f = true → ∀ xs, da ≠ .tuple xs) (ra : Reads s.heap a da as) (rb : Reads s.heap b db bs) (h : cmpD da db = true) (ca : da.canLay0 = true) (cb : db.canLay0 = true) (hn : da ≠ .none)
    (hu : A.units + min da.depth db.depth < cLine) (hq : Q (dataLt da db) s) : wpAny (model prog w) A (oneLt' f a b) Q E s := by
  cases f with
  | false =>
    rw [oneLt'_eq]
    simp only [Bool.false_eq_true, if_false]
    refine wpAny_bind (rcC da db A s a b as bs ra rb h ca cb hn hu prog w E _ ?_)
    exact wpAny_truthy_bool hq
  | true =>
    have hal : alike da db = true := by
      cases da <;> cases db <;> first | rfl | (simp [cmpD] at h; done) | skip
      · exact absurd rfl (hf rfl _)
    exact oneLt_alike hf ra rb hal hn hu hq
theorem katC {b fin : Bool} {Q : Bool → Shared → Prop} : ∀ (xs ys : List PyData) (i : Nat) (us vs : List Value) (as bs : List Addr), ReadsAll s.heap us xs as → ReadsAll s.heap vs ys bs → cmpL xs ys = true → PyData.canLayAll0 xs = true → PyData.canLayAll0 ys = true →
    A.units + min (PyData.depthAll xs) (PyData.depthAll ys) < cLine → (b = true → i = 0 → ∀ x r t, xs = x :: r → x ≠ .tuple t) → fin = decide (xs.length < ys.length) → Q (PyProof.Rows.lexLt itemOrd (keyToksAll xs) (keyToksAll ys)) s → KatLex prog w A b fin Q (us.zip vs) i s
  | [], [], i, _, _, _, _, ra, rb, _, _, _, _, _, hf, hq => by
    cases ra
    cases rb
    rw [lex_irrefl] at hq
    exact kat_nil (by rw [hf]; simpa using hq)
  | [], y :: ys, i, _, _, _, _, ra, rb, _, _, _, _, _, hf, hq => by
    cases ra
    simp only [keyToksAll] at hq
    rw [lex_diff (O := itemOrd) (by simp)] at hq
    rw [List.zip_nil_left]
    exact kat_nil (by rw [hf]; simpa [itemLt] using hq)
  | x :: xs, [], i, _, _, _, _, ra, rb, _, _, _, _, _, hf, hq => by
    cases rb
    simp only [keyToksAll] at hq
    rw [lex_diff (O := itemOrd) (by simp)] at hq
    rw [List.zip_nil_right]
    exact kat_nil (by rw [hf]; simpa [itemLt] using hq)
  | x :: xs, y :: ys, i, _, _, _, _, ra, rb, h, ca, cb, hu, hb, hf, hq => by
    obtain ⟨h1, h2⟩ := cmpL_cons h
    simp only [PyData.canLayAll0, Bool.and_eq_true] at ca cb
    have hf' : fin = decide (xs.length < ys.length) := by rw [hf]; simp
    cases ra with
    | cons r rs =>
      cases rb with
      | cons r' rs' =>
        rw [List.zip_cons_cons]
        refine kat_cons (eqAt_reads x y A s _ _ _ _ r r' ca.1 cb.1 (room_head hu) prog w _ _ ?_)
        cases e : PyData.eqv x y with
        | true =>
          rw [lex_consT x y xs ys h1 e] at hq
          exact kat_yes (katC xs ys (i + 1) _ _ _ _ rs rs' (h2 e) ca.2 cb.2 (room_tail hu) (fun _ z => absurd z (Nat.succ_ne_zero i)) hf' hq)
        | false =>
          rw [lex_consF x y xs ys h1 e] at hq
          refine kat_no (oneC (fun z t => ?_) r r' h1 ca.1 cb.1 (noneC h1 e) (room_head hu) hq)
          rw [Bool.and_eq_true] at z
          exact hb z.1 (by simpa using z.2) x xs t rfl
theorem typeC {x y : PyData} (h : cmpD x y = true) : dataType x = dataType y := by
  cases x <;> cases y <;> first | rfl | (simp [cmpD] at h)
def AllCmp (ds : List PyData) : Prop := ∀ d, d ∈ ds → d.canLay0 = true ∧ ∀ d', d' ∈ ds → cmpD d d' = true
theorem kindC {h : Heap} {ds : List PyData} (hal : AllCmp ds) {v : Value} {d : PyData} {as : List Addr} (hd : d ∈ ds) (r : Reads h v d as) : (dataKind h ds).keyOf v = some (keyToks d) := by
  have q : ∃ d, d ∈ ds ∧ ∃ as, Reads h v d as := ⟨d, hd, as, r⟩
  have e : (dataKind h ds).keyOf v = some (keyToks q.choose) := dif_pos q
  obtain ⟨h1, as', h2⟩ := q.choose_spec
  rw [e, ← readOf_eq (hal _ h1).1 h2, readOf_eq (hal _ hd).1 r]
/-- tuples that can be compared with one another can be sorted -/
theorem sortsC {vs : List Value} {ds : List PyData} (e : EachIs (fun v d => ∃ as, Reads s.heap v d as) vs ds) (hal : AllCmp ds) (ht : ∀ d, d ∈ ds → ∃ x r, d = .tuple (x :: r)) (hu : ∀ d, d ∈ ds → A.units + d.depth < cLine) : SortsAt prog w A s (dataKind s.heap ds) vs := by
  have room : ∀ {d d' : PyData}, d ∈ ds → A.units + min d.depth d'.depth < cLine := fun {d d'} hd => Nat.lt_of_le_of_lt (Nat.add_le_add_left (Nat.min_le_left _ _) _) (hu d hd)
  refine ⟨fun v hv => ?_, ?_⟩
  · obtain ⟨d, hd, as, r⟩ := e.left v hv
    exact ⟨_, kindC hal hd r⟩
  · cases ds with
    | nil =>
      cases e
      refine ⟨general', fun E x y a b Q ha _ _ => ?_, fun h2 => absurd h2 (by simp)⟩
      obtain ⟨d, _, hd, _⟩ := dataKind_inv ha
      exact absurd hd (by simp)
    | cons d0 ds0 =>
      obtain ⟨x0, r0, e0⟩ := ht d0 (by simp)
      have firsts : ∀ x r, PyData.tuple (x :: r) ∈ d0 :: ds0 → cmpD x x0 = true := by
        intro x r hm
        have q := (hal _ hm).2 d0 (by simp)
        rw [e0] at q
        exact (cmpL_cons (by simpa [cmpD] using q)).1
      refine ⟨tuples' (dataType x0 != Value.type "tuple"), ?_, fun h2 E Q hq => ?_⟩
      · intro E x y a b Q ha hb hq
        obtain ⟨d, as, hd, ra, rfl⟩ := dataKind_inv ha
        obtain ⟨d', as', hd', rb, rfl⟩ := dataKind_inv hb
        have c := (hal d hd).2 d' hd'
        have l1 := (hal d hd).1
        have l2 := (hal d' hd').1
        have hroom := room (d' := d') hd
        obtain ⟨x1, r1, rfl⟩ := ht d hd
        obtain ⟨x2, r2, rfl⟩ := ht d' hd'
        have hq' : Q (dataLt (.tuple (x1 :: r1)) (.tuple (x2 :: r2))) s := hq
        rw [dataLt_tuple] at hq'
        cases ra with
        | @tuple l o xs n _ _ h1 h2 h3 h4 =>
          cases rb with
          | @tuple l' o' xs' n' _ _ k1 k2 k3 k4 =>
            have n1 : xs.size = (x1 :: r1).length := by simpa using SeqAt.ReadsAll.length _ _ _ h4
            have n2 : xs'.size = (x2 :: r2).length := by simpa using SeqAt.ReadsAll.length _ _ _ k4
            refine kat_lt h1 h3 k1 k3 (katC (x1 :: r1) (x2 :: r2) 0 _ _ _ _ h4 k4 (by simpa [cmpD] using c) (by simpa [PyData.canLay0] using l1) (by simpa [PyData.canLay0] using l2) (by have q := SeqAt.room_in hroom; omega) (fun hb _ x r t ex => ?_) (by rw [n1, n2]) hq')
            obtain ⟨rfl, rfl⟩ := List.cons.inj ex
            rw [← typeC (firsts _ _ hd)] at hb
            exact dataType_tuple hb t
      · obtain ⟨fs, t1, t2, t3⟩ := each_katTups e ht
        refine kat_kind (T := dataType x0) t1 (by omega) (fun f hf => ?_) (beq_self_eq_true _) hq
        obtain ⟨x, r, as, m1, m2⟩ := t3 f hf
        rw [← typeC (firsts x r m1)]
        exact looks_reads m2
end
end Dy

set_option Elab.async false
set_option linter.all false
set_option maxRecDepth 100000
set_option maxHeartbeats 4000000
/-! Layer Dy, part T: sorted(tuple). -/
namespace Dy
open PySem PySem.W PySem.SeqAt PyProof.Rows PySem.Calls
section
variable {prog : Program} {w : PySem.World} {A : Around} {E : Value → Shared → Prop} {s : Shared}
theorem collect_tup {l : Addr} {vs : List Value} {Q : List Value → Shared → Prop} (tl : s.heap.IsTuple l vs.toArray) (hz : vs.length ≤ sizeLine)
    (hq : Q vs { s with heap := (s.heap.push (seqObj "list" #[] 0)).update s.heap.objs.size (Obj.mapSeq (· ++ vs.toArray)) }) :
    wpAny (model prog w) A (collect (.ref l)) Q E s := by
  obtain ⟨o, ho, hc, n, hd⟩ := id tl
  have got : (s.heap.push (seqObj "list" #[] 0)).get? l = some o := Heap.get?_push_of_some _ ho
  have new : (s.heap.push (seqObj "list" #[] 0)).get? s.heap.objs.size = some (seqObj "list" #[] 0) := Heap.get?_push_size _ rfl
  have fits : (#[] ++ vs.toArray).size ≤ sizeLine + 1 := by
    rw [Array.size_append, List.size_toArray]
    show 0 + vs.length ≤ sizeLine + 1
    omega
  unfold collect
  refine wpAny_bind (wpAny_runValue (codeAny_builtin entry_proto_collect' ?_))
  show wpAny _ _ (do again (.builtin "list.__iadd__" ⟨[← newList [], .ref l], []⟩)) _ _ s
  refine wpAny_bind (wpAny_newList (wpAny_pure ⟨Code.quiet_builtin _ (by decide +kernel), codeAny_builtin entry_list_iadd' ?_⟩))
  show wpAny _ _ (Builtin.List.listExtendWith (.ref s.heap.objs.size) (.ref l) (.ref s.heap.objs.size)) _ _ { s with heap := s.heap.push (seqObj "list" #[] 0) }
  unfold Builtin.List.listExtendWith
  refine wpAny_bind (wpAny_typeOf (T := "tuple") ⟨o, got, hc⟩ ?_)
  rw [if_pos (by simp)]
  refine wpAny_bind (listItems_at got hd ?_)
  refine wpAny_bind (listItems_at (xs := #[]) (n := 0) new rfl ?_)
  rw [if_neg (by simp)]
  refine wpAny_bind (listUpdate_at (xs := #[]) (n := 0) new rfl ?_ (Nat.zero_le _) fits)
  refine wpAny_pure ?_
  refine wpAny_bind (wpAny_load (get?_update_seq new _) ?_)
  show wpAny _ _ (pure ((#[] : Array Value) ++ vs.toArray).toList) Q E _
  have e : ((#[] : Array Value) ++ vs.toArray).toList = vs := by simp
  rw [e]
  exact wpAny_pure hq
theorem sorted_tup {κ : PyProof.Rows.KeyKind} {l : Addr} {vs : List Value} {Q : Value → Shared → Prop} (tl : s.heap.IsTuple l vs.toArray) (S : SortsAt prog w A.in1.in1 { s with heap := sortingHeap (copyHeap s.heap vs) (s.heap.objs.size + 1) vs } κ vs) (hz : vs.length ≤ sizeLine)
    (hq : Q (.ref (s.heap.objs.size + 1)) { s with heap := sortedAll s.heap vs (sortVals κ false vs vs).toArray }) : wpAny (model prog w) A (call (.builtin "sorted") [.ref l]) Q E s := by
  refine call_function_entry_kw kind_sorted plain_sorted entry_sorted (args_sorted1 _) ?_
  unfold Builtin.«sorted»
  refine wpAny_bind (m := checkCount "sorted" 1 1 _) (wpAny_pure ?_)
  refine wpAny_bind (collect_tup tl hz ?_)
  refine wpAny_bind (wpAny_newList ?_ hz)
  show wpAny _ _ _ _ _ { s with heap := copyHeap s.heap vs }
  rw [show ((s.heap.push (seqObj "list" #[] 0)).update s.heap.objs.size (Obj.mapSeq (· ++ vs.toArray))).objs.size = s.heap.objs.size + 1 by rw [Heap.size_update, size_push']]
  refine wpAny_bind (wpAny_holding (wpAny_call_entry_kw slot_list_sort ⟨_, copyHeap_at s.heap vs, rfl⟩ entry_list_sort ?body (args_list_sort _)))
  case body =>
    show wpAny (model prog w) A.in1.in1 (Builtin.«list.sort» ⟨[.ref (s.heap.objs.size + 1)], []⟩) _ _ _
    exact list_sort_vals (s := { s with heap := copyHeap s.heap vs }) (copyHeap_at s.heap vs) S hz ⟨_, rfl, wpAny_pure ⟨_, rfl, hq⟩⟩
end
end Dy

set_option Elab.async false
set_option linter.all false
set_option maxRecDepth 100000
set_option maxHeartbeats 4000000
/-! Layer Dy, part 20: sorted(list of tuples). -/
namespace Dy
open PySem PySem.Spec PyProof.Rows L2
def pD (d : D) : PyData := (toP d).getD .none
def tupN : D → Bool
  | .tup (_ :: _) => true
  | _ => false
def isStrD : D → Bool
  | .str _ => true
  | _ => false
def isIntD : D → Bool
  | .int _ => true
  | _ => false
def sortOk (ds : List D) : Bool := (ds.all fun d => (toP d).isSome && ((SeqAt.shaped (pD d) && decide ((pD d).depth ≤ 62)) && ds.all fun e => cmpD (pD d) (pD e))) && (ds.all tupN || (ds.all isStrD || ds.all isIntD))
def leD (d e : D) : Bool := !PySem.W.dataLt (pD e) (pD d)
def sortD (ds : List D) : List D := ds.mergeSort leD
theorem toP_pD {d : D} (h : (toP d).isSome = true) : toP d = some (pD d) := by
  unfold pD
  cases e : toP d with
  | none => rw [e] at h; cases h
  | some p => rfl
structure SortOk (ds : List D) : Prop where
  p : ∀ d ∈ ds, toP d = some (pD d)
  t : (∀ d ∈ ds, tupN d = true) ∨ (∀ d ∈ ds, isStrD d = true) ∨ ∀ d ∈ ds, isIntD d = true
  s : ∀ d ∈ ds, SeqAt.shaped (pD d) = true
  l : ∀ d ∈ ds, (pD d).depth ≤ 62
  c : ∀ d ∈ ds, ∀ e ∈ ds, cmpD (pD d) (pD e) = true
theorem SortOk.of {ds : List D} (h : sortOk ds = true) : SortOk ds := by
  unfold sortOk at h
  rw [Bool.and_eq_true] at h
  obtain ⟨h, k⟩ := h
  rw [List.all_eq_true] at h
  refine ⟨fun d hd => ?_, ?_, fun d hd => ?_, fun d hd => ?_, fun d hd e he => ?_⟩
  · have q := h d hd
    simp only [Bool.and_eq_true] at q
    exact toP_pD q.1
  · simp only [Bool.or_eq_true, List.all_eq_true] at k
    exact k
  · have q := h d hd
    simp only [Bool.and_eq_true] at q
    exact q.2.1.1
  · have q := h d hd
    simp only [Bool.and_eq_true] at q
    exact of_decide_eq_true q.2.1.2
  · have q := h d hd
    simp only [Bool.and_eq_true] at q
    exact List.all_eq_true.mp q.2.2 e he
theorem SortOk.all {ds : List D} (h : SortOk ds) : AllCmp (ds.map pD) := by
  intro d hd
  rw [List.mem_map] at hd
  obtain ⟨x, hx, rfl⟩ := hd
  refine ⟨SeqAt.canLay_of_shaped (h.s x hx), fun d' hd' => ?_⟩
  rw [List.mem_map] at hd'
  obtain ⟨y, hy, rfl⟩ := hd'
  exact h.c x hx y hy
theorem tup_pD {x : D} (ht : tupN x = true) (hp : toP x = some (pD x)) : ∃ y r, pD x = .tuple (y :: r) := by
  cases x with
  | tup ys =>
    cases ys with
    | nil => cases ht
    | cons y ys =>
      simp only [toP, toPl] at hp
      cases h1 : toP y with
      | none => rw [h1] at hp; cases hp
      | some p =>
        cases h2 : toPl ys with
        | none => rw [h1, h2] at hp; cases hp
        | some ps =>
          rw [h1, h2] at hp
          exact ⟨p, ps, (Option.some.inj hp).symm⟩
  | _ => cases ht
theorem SortOk.sorts {prog : Program} {w : PySem.World} {A : Around} {s : Shared} {vs : List Value} {ds : List D} (h : SortOk ds) (e : PySem.W.EachIs (fun v d => ∃ as, Reads s.heap v d as) vs (ds.map pD)) (hu : ∀ d, d ∈ ds.map pD → A.units + d.depth < cLine) : PySem.W.SortsAt prog w A s (PySem.W.dataKind s.heap (ds.map pD)) vs := by
  rcases h.t with t | t | t
  · refine sortsC e h.all (fun d hd => ?_) hu
    rw [List.mem_map] at hd
    obtain ⟨x, hx, rfl⟩ := hd
    exact tup_pD (t x hx) (h.p x hx)
  · have q : ∀ d, d ∈ ds.map pD → ∃ x, d = .str x := fun d hd => by
      rw [List.mem_map] at hd
      obtain ⟨x, hx, rfl⟩ := hd
      have := t x hx
      cases x with
      | str z => exact ⟨z, rfl⟩
      | _ => cases this
    refine PySem.W.SortsAt.data e (fun d hd d' hd' => ?_) (.inr fun d hd => ?_) hu
    · obtain ⟨x, rfl⟩ := q d hd
      obtain ⟨y, rfl⟩ := q d' hd'
      simp [PySem.W.alike]
    · obtain ⟨x, rfl⟩ := q d hd
      exact ⟨by simp, by simp⟩
  · have q : ∀ d, d ∈ ds.map pD → ∃ x, d = .int x := fun d hd => by
      rw [List.mem_map] at hd
      obtain ⟨x, hx, rfl⟩ := hd
      have := t x hx
      cases x with
      | int z => exact ⟨z, rfl⟩
      | _ => cases this
    refine PySem.W.SortsAt.data e (fun d hd d' hd' => ?_) (.inr fun d hd => ?_) hu
    · obtain ⟨x, rfl⟩ := q d hd
      obtain ⟨y, rfl⟩ := q d' hd'
      simp [PySem.W.alike]
    · obtain ⟨x, rfl⟩ := q d hd
      exact ⟨by simp, by simp⟩
theorem each_of {K : PySem.W.Frag} {Hk : Hp} {X : Cx} : ∀ {xs : List V} {ds : List D} {us : List Value}, RpA K Hk xs ds → Vals xs us → PySem.W.EachIs (fun (u : Value) (d : D) => ∃ x, RelV x u ∧ Rp K Hk x d) us ds
  | _, _, _, .nil, .nil => .nil
  | _, _, _, .cons r t, .cons rv rt => .cons ⟨_, rv, r⟩ (each_of (X := X) t rt)
theorem of_each {K : PySem.W.Frag} {Hk : Hp} : ∀ {ds : List D} {us : List Value}, PySem.W.EachIs (fun (u : Value) (d : D) => ∃ x, RelV x u ∧ Rp K Hk x d) us ds → ∃ xs, Vals xs us ∧ RpA K Hk xs ds
  | _, _, .nil => ⟨[], .nil, .nil⟩
  | _, _, .cons ⟨x, h1, h2⟩ t => by
    obtain ⟨xs, h3, h4⟩ := of_each t
    exact ⟨x :: xs, .cons h1 h3, .cons h2 h4⟩
def rSortedD (K : PySem.W.Frag) : List V → Hp → VK → Prop := fun vs H Q => ∃ (a : Addr) (xs : List V) (Hk : Hp) (ds : List D), vs = [.ref a] ∧ (SqL K H a xs ∨ SqT K H a xs) ∧ Same Hk H ∧ RpA K Hk xs ds ∧ sortOk ds = true ∧
  ∀ ys p, RpA K Hk ys (sortD ds) → H p = none → Q (.ref p) (upd H p (.lst ys))
theorem cr_sortedD {X : Cx} (hu : X.A.units + 64 < cLine) : CallR X (.builtin "sorted") (rSortedD X.K) := by
  intro pins s σ H vs us Q I r h
  obtain ⟨a, xs, Hk, ds, rfl, hs, sub, ra, ok, q⟩ := h
  have S := SortOk.of ok
  have both : ∃ its : List Value, Vals xs its ∧ (s.heap.IsList a its.toArray ∨ s.heap.IsTuple a its.toArray) ∧ xs.length ≤ sizeLine := by
    rcases hs with hs | hs
    · obtain ⟨its, rv, hl, hz⟩ := I.list hs
      exact ⟨its, rv, .inl hl.isList, hz⟩
    · obtain ⟨its, rv, hl, hz⟩ := I.tuple hs
      exact ⟨its, rv, .inr hl, hz⟩
  obtain ⟨its, rv, hl, hz⟩ := both
  obtain ⟨u, rfl, ru⟩ := vals1 r
  obtain rfl : u = Value.ref a := ru
  have ea := each_of (X := X) ra rv
  have er : ∀ h' : Heap, (∀ b o, s.heap.get? b = some o → h'.get? b = some o) → PySem.W.EachIs (fun (u : Value) (d : D) => ∃ as, Reads h' u (pD d) as) its ds := fun h' k => by
    refine (PySem.W.each_mem ea).mono fun u d ⟨⟨x, h1, h2⟩, hd⟩ => ?_
    obtain ⟨as, hr⟩ := Dp.reads I (pD d) x u (toP_ok (Rp.mono sub h2) (S.p d hd)) h1
    exact ⟨as, PyProof.Rows.Reads.keeps k hr⟩
  have hlen : its.length = ds.length := by rw [← rv.length, ra.length]
  have k1 := er (PySem.W.sortingHeap (PySem.W.copyHeap s.heap its) (s.heap.objs.size + 1) its) fun _ _ => PySem.W.sorting_copy_old
  have k2 := PySem.W.each_map (R := fun v d => ∃ as, Reads (PySem.W.sortingHeap (PySem.W.copyHeap s.heap its) (s.heap.objs.size + 1) its) v d as) pD k1
  have depth : ∀ d, d ∈ ds.map pD → (X.A.in1.in1).units + d.depth < cLine := fun d hd => by
    rw [List.mem_map] at hd
    obtain ⟨x, hx, rfl⟩ := hd
    have h1 := S.l x hx
    have h2 : (X.A.in1.in1).units = X.A.units + 2 := rfl
    omega
  have srt : ∀ E, (∀ Q' : Value → Shared → Prop, Q' (.ref (s.heap.objs.size + 1)) { s with heap := sortedAll s.heap its (PySem.W.sortVals (PySem.W.dataKind (PySem.W.sortingHeap (PySem.W.copyHeap s.heap its) (s.heap.objs.size + 1) its) (ds.map pD)) false its its).toArray } → wpAny (model X.prog X.w) X.A (call (.builtin "sorted") [.ref a]) Q' E s) := fun E Q' hq => by
    have ss := S.sorts (prog := X.prog) (w := X.w) (A := X.A.in1.in1) (s := { s with heap := PySem.W.sortingHeap (PySem.W.copyHeap s.heap its) (s.heap.objs.size + 1) its }) k2 depth
    have hz' : its.length ≤ sizeLine := by rw [← rv.length]; exact hz
    rcases hl with hl | hl
    · exact PySem.W.sorted_vals hl ss hz' hq
    · exact sorted_tup hl ss hz' hq
  refine srt _ _ ?_
  have out : PySem.W.EachIs (fun (u : Value) (d : D) => ∃ x, RelV x u ∧ Rp X.K Hk x d) (PySem.W.sortVals (PySem.W.dataKind (PySem.W.sortingHeap (PySem.W.copyHeap s.heap its) (s.heap.objs.size + 1) its) (ds.map pD)) false its its) (sortD ds) :=
    PySem.W.sortVals_each (κ := PySem.W.dataKind (PySem.W.sortingHeap (PySem.W.copyHeap s.heap its) (s.heap.objs.size + 1) its) (ds.map pD)) (fun d => PySem.W.keyToks (pD d)) ea
      ((PySem.W.each_mem k1).mono fun u d ⟨⟨as, hr⟩, hd⟩ => kindC S.all (List.mem_map.mpr ⟨d, hd, rfl⟩) hr)
  generalize PySem.W.sortVals _ false its its = res at out ⊢
  obtain ⟨ys, v1, v2⟩ := of_each out
  obtain ⟨n, hn⟩ := sortedAll_at s.heap its res.toArray
  refine ⟨.ref (s.heap.objs.size + 1), upd H (s.heap.objs.size + 1) (.lst ys), I.laid (t' := s.toks) (fun b o e => sortedAll_old e) (Nat.le_succ _) ⟨?_, res, n, v1, hn⟩, rfl, q ys _ v2 (I.hok.fresh (Nat.le_succ _))⟩
  rw [v2.length]
  show (sortD ds).length ≤ sizeLine
  unfold sortD
  rw [List.length_mergeSort, ← ra.length]
  exact hz

/-- sorted(e): a list of tuples, of texts, of ints -/
def sortedS (M : MS) (s : SV) : Option R := match itemsD M s with
  | some ds => if sortOk ds = true then some (.fr (sortD ds)) else none
  | none => none
theorem calld_sortedD {K : PySem.W.Frag} : CallD K (rSortedD K) (g1 sortedS) := CallD.one fun Hk H M ls v s z Q w r e q => by
  unfold sortedS at e
  split at e
  · rename_i ds hd
    split at e
    · rename_i ok
      cases e
      obtain ⟨a, vs, rfl, hq, ra⟩ := itemsD_ok w r hd
      exact ⟨a, vs, Hk, ds, rfl, hq, w.sub, ra, ok, fun ys p ry hp => q.newL w hp ry⟩
    · cases e
  · cases e
theorem pm_sortedD {X : Cx} {e : Expr} {ms : EM (List SV)} {p pos : Pos} (B : Blt X.mg) (hu : X.A.units + 64 < cLine) (ha : PAm X [e] ms) (hg : Gl X "sorted" := by rfl) (he : starEach (e :: []) X.env = (false, eval e X.env) :: starEach [] X.env := by rfl) : PM X (.Call (.Name "sorted" p) [e] [] pos) (eCall (g1 sortedS) ms) :=
  pm_callB (cr_sortedD hu) calld_sortedD hg (B _ (by decide +kernel)) (by decide +kernel) ha (by decide) (by decide) he rfl
end Dy

set_option Elab.async false
set_option linter.all false
set_option maxRecDepth 100000
set_option maxHeartbeats 4000000
/-! Layer Dy, part 21: dicts behind handles, in of data of any depth. -/
namespace Dy
open PySem PySem.Spec PyProof.Rows L2
/-! ### d[k] = v -/
def muD (M : MS) : SV → Option (Nat × List Key × List SV)
  | .mu k => match M[k]? with
    | some (.d ks xs) => some (k, ks, xs)
    | _ => none
  | _ => none
theorem muD_ok {K : PySem.W.Frag} {Hk H : Hp} {M : MS} {ls : List Addr} {v : V} {s : SV} {k : Nat} {ks : List Key} {xs : List SV} (w : World K Hk H M ls) (r : SVr K Hk ls ls.length v s) (e : muD M s = some (k, ks, xs)) :
    ∃ l kvs, v = .ref l ∧ ls[k]? = some l ∧ M[k]? = some (.d ks xs) ∧ H l = some (.dK kvs) ∧ kvs.map (·.1) = ks ∧ SVs K Hk ls k (kvs.map (·.2)) xs := by
  unfold muD at e
  split at e
  · split at e
    · rename_i ks' ys hM
      cases e
      obtain ⟨_, l, hl, rfl⟩ := r
      obtain ⟨l', hl', kvs, h1, h2, h3⟩ := w.ms _ _ hM
      rw [hl] at hl'; cases hl'
      exact ⟨l, kvs, rfl, hl, hM, h1, h2, h3⟩
    · cases e
  · cases e
def putAt (M : MS) (s t d : SV) : Option MS := match muD M s, keyD t, d with
  | some (k, ks, xs), some key, .dt d => match allD xs with
    | some ds => if ks.length < sizeLine then some (M.set k (.d (putKD key d ks ds).1 ((putKD key d ks ds).2.map .dt))) else none
    | none => none
  | _, _, _ => none
def sPutD (mo mi me : EM R) : SM := fun ρ M => match fz me ρ M with
  | some (d, M1) => match fz mo ρ M1 with
    | some (s, M2) => match fz mi ρ M2 with
      | some (t, M3) => match putAt M3 s t d with
        | some M4 => some (.nx ρ M4)
        | none => none
      | none => none
    | none => none
  | none => none
section
variable {X : Cx} {o i e e2 f : Expr} {mo mi me md : EM R} {pos pos' apos : Pos}
theorem psm_putD (hu : X.A.units + 64 < cLine) (he : PM X e me) (ho : PM X o mo) (hi : PM X i mi) (hs : swapsWith e (some (.Subscript o i pos')) pos.line X.env = pure false := by rfl) : PSm X (.Assign [.Subscript o i pos'] e pos) (sPutD mo mi me) :=
  PS.imp (ps_dput (by omega) (PM.v ho) (PM.v hi) (PM.v he) hs) fun E σ H ⟨Hk, ls, ρ, M, out, w, en, hm, q⟩ => by
  unfold sPutD at hm
  cases h1 : fz me ρ M with
  | none => rw [h1] at hm; cases hm
  | some p1 =>
    obtain ⟨d, M1⟩ := p1
    simp only [h1] at hm
    cases h2 : fz mo ρ M1 with
    | none => rw [h2] at hm; cases hm
    | some p2 =>
      obtain ⟨s, M2⟩ := p2
      simp only [h2] at hm
      cases h3 : fz mi ρ M2 with
      | none => rw [h3] at hm; cases hm
      | some p3 =>
        obtain ⟨t, M3⟩ := p3
        simp only [h3] at hm
        cases h4 : putAt M3 s t d with
        | none => rw [h4] at hm; cases hm
        | some M4 =>
          simp only [h4] at hm
          cases hm
          refine ⟨Hk, ls, ρ, M, d, M1, w, en, h1, fun v Hk1 H1 w1 x1 r1 => ?_⟩
          refine ⟨Hk1, ls, ρ, M1, s, M2, w1, en.mono x1.kk, h2, fun u Hk2 H2 w2 x2 r2 => ?_⟩
          have en2 := (en.mono x1.kk).mono x2.kk
          refine ⟨Hk2, ls, ρ, M2, t, M3, w2, en2, h3, fun y Hk3 H3 w3 x3 r3 => ?_⟩
          have rv := (r1.mono x2.kk).mono x3.kk
          have rs := r2.mono x3.kk
          unfold putAt at h4
          split at h4
          · rename_i k ks xs key d' hmu hkey
            split at h4
            · rename_i ds hds
              split at h4
              · rename_i hlen
                cases h4
                obtain ⟨l, kvs, rfl, hl, hM, hH, hk, hsv⟩ := muD_ok w3 rs hmu
                have ra := hsv.toA hds
                subst hk
                obtain ⟨p1, p2⟩ := putKD_ok (k := key) (show Rp X.K Hk3 v d' from rv) ra
                refine ⟨l, upd H3 l (.dK (putK kvs key v)), rfl, ?_, ?_⟩
                · rw [keyD_ok r3 hkey]
                  exact DPut.k hH (by simpa using hlen)
                · exact q _ Hk3 _ ls (w3.setM hl hM ⟨_, upd_same, p1, SVs.ofA p2⟩) (((x1.trans x2).trans x3).trans (Ext.setM (List.mem_of_getElem? hl))).s (en2.mono x3.kk)
              · cases h4
            · cases h4
          · cases h4
end

/-! ### d.get(k, x), d[k] -/
def lookK {α : Type} (k : Key) : List Key → List α → Option α
  | j :: ks, x :: xs => if j = k then some x else lookK k ks xs
  | _, _ => none
def dictOf (M : MS) : SV → Option (List Key × List SV)
  | .dt (.dct ks ds) => some (ks, ds.map .dt)
  | .mu k => match M[k]? with
    | some (.d ks xs) => some (ks, xs)
    | _ => none
  | _ => none
theorem dictOf_ok {K : PySem.W.Frag} {Hk H : Hp} {M : MS} {ls : List Addr} {v : V} {s : SV} {ks : List Key} {xs : List SV} (w : World K Hk H M ls) (r : SVr K Hk ls ls.length v s) (e : dictOf M s = some (ks, xs)) :
    ∃ a kvs, v = .ref a ∧ H a = some (.dK kvs) ∧ kvs.map (·.1) = ks ∧ SVs K Hk ls ls.length (kvs.map (·.2)) xs := by
  unfold dictOf at e
  split at e
  · cases e
    cases r with
    | dct h hk hx a =>
      subst hk hx
      exact ⟨_, _, rfl, w.sub _ _ h, rfl, SVs.ofA a⟩
  · split at e
    · rename_i k _ ks' ys hM
      cases e
      obtain ⟨hk, l, hl, rfl⟩ := r
      obtain ⟨l', hl', kvs, h1, h2, h3⟩ := w.ms _ _ hM
      rw [hl] at hl'; cases hl'
      exact ⟨l, kvs, rfl, h1, h2, h3.up (Nat.le_of_lt hk)⟩
    · cases e
  · cases e
theorem lookK_ok {K : PySem.W.Frag} {Hk : Hp} {ls : List Addr} {n : Nat} {k : Key} : ∀ {kvs : List (Key × V)} {xs : List SV}, SVs K Hk ls n (kvs.map (·.2)) xs →
    (lookK k (kvs.map (·.1)) xs = none → valV kvs k = none) ∧ ∀ x, lookK k (kvs.map (·.1)) xs = some x → ∃ v, valV kvs k = some v ∧ SVr K Hk ls n v x
  | [], _, r => by
    cases r
    exact ⟨fun _ => rfl, (fun x e => by cases e)⟩
  | (j, u) :: kvs, _, .cons (s := s) (ss := ss) r t => by
    obtain ⟨h1, h2⟩ := lookK_ok (k := k) t
    by_cases h : j = k
    · simp only [List.map_cons, lookK, if_pos h]
      refine ⟨(fun e => by cases e), fun x e => ?_⟩
      cases e
      exact ⟨u, by simp [valV, h], r⟩
    · simp only [List.map_cons, lookK, if_neg h]
      have e : valV ((j, u) :: kvs) k = valV kvs k := by simp [valV, h]
      rw [e]
      exact ⟨h1, h2⟩

def eDGet2 (mo mi md : EM R) : EM R := (fz mo).seq fun s => fun ρ M => match dictOf M s with
  | some _ => ((fz mi).seq fun t => (fz md).seq fun z => fun _ M3 => match dictOf M3 s, keyD t with
    | some (ks, xs), some k => some (.sv ((lookK k ks xs).getD z), M3)
    | _, _ => none) ρ M
  | none => none
theorem pm_dget2 {X : Cx} {o e f : Expr} {mo mi md : EM R} {apos cpos : Pos} (hu : X.A.units + 64 < cLine) (ho : PM X o mo) (he : PM X e mi) (hf : PM X f md) (m : M2 X o "get" apos e f cpos := by exact ⟨rfl, rfl, rfl, rfl⟩) : PM X (.Call (.Attribute o "get" apos) [e, f] [] cpos) (eDGet2 mo mi md) :=
  PE.imp (pe_dget2 (by omega) (PM.v ho) (PM.v he) (PM.v hf) m) fun σ H Q ⟨Hk, ls, ρ, M, r, M', w, en, hm, q⟩ => by
  obtain ⟨s, M1, h1, h2⟩ := seq_some hm
  refine ⟨Hk, ls, ρ, M, s, M1, w, en, h1, fun v Hk1 H1 w1 x1 r1 => ?_⟩
  split at h2
  · rename_i pq hd
    obtain ⟨ks0, xs0⟩ := pq
    obtain ⟨a, kvs0, rfl, hH0, _, _⟩ := dictOf_ok w1 r1 hd
    refine ⟨a, rfl, .inl ⟨kvs0, .inl hH0⟩, ?_⟩
    obtain ⟨t, M2, h3, h4⟩ := seq_some h2
    obtain ⟨z, M3, h5, h6⟩ := seq_some h4
    refine ⟨Hk1, ls, ρ, M1, t, M2, w1, en.mono x1.kk, h3, fun y Hk2 H2 w2 x2 r2 => ?_⟩
    refine ⟨Hk2, ls, ρ, M2, z, M3, w2, (en.mono x1.kk).mono x2.kk, h5, fun u Hk3 H3 w3 x3 r3 => ?_⟩
    split at h6
    · rename_i ks xs k hdd hk
      cases h6
      obtain ⟨a', kvs, e1, hH, hks, hsv⟩ := dictOf_ok w3 ((r1.mono x2.kk).mono x3.kk) hdd
      cases e1
      subst hks
      obtain ⟨l1, l2⟩ := lookK_ok (k := k) hsv
      have ey := keyD_ok (r2.mono x3.kk) hk
      subst ey
      refine ⟨valV kvs k, DGet.k hH, ?_⟩
      cases hl : lookK k (kvs.map (·.1)) xs with
      | none =>
        rw [l1 hl]
        rw [hl] at q
        exact q u Hk3 H3 w3 ((x1.trans x2).trans x3) r3
      | some x =>
        obtain ⟨v', hv, rv⟩ := l2 x hl
        rw [hv]
        rw [hl] at q
        exact q v' Hk3 H3 w3 ((x1.trans x2).trans x3) rv
    · cases h6
  · cases h2
def eDGet (mo mi : EM R) : EM R := (fz mo).seq fun s => (fz mi).seq fun t => fun _ M => match dictOf M s, keyD t with
  | some (ks, xs), some k => match lookK k ks xs with
    | some x => some (.sv x, M)
    | none => none
  | _, _ => none
theorem pm_dgetI {X : Cx} {o e : Expr} {mo mi : EM R} {pos : Pos} (hu : X.A.units + 64 < cLine) (ho : PM X o mo) (he : PM X e mi) (hs : NoSl e := by exact fun _ _ => rfl) : PM X (.Subscript o e pos) (eDGet mo mi) :=
  PE.imp (pe_dget (by omega) (PM.v ho) (PM.v he) hs) fun σ H Q ⟨Hk, ls, ρ, M, r, M', w, en, hm, q⟩ => by
  obtain ⟨s, M1, h1, h2⟩ := seq_some hm
  obtain ⟨t, M2, h3, h4⟩ := seq_some h2
  refine ⟨Hk, ls, ρ, M, s, M1, w, en, h1, fun v Hk1 H1 w1 x1 r1 => ?_⟩
  refine ⟨Hk1, ls, ρ, M1, t, M2, w1, en.mono x1.kk, h3, fun y Hk2 H2 w2 x2 r2 => ?_⟩
  split at h4
  · rename_i ks xs k hdd hk
    obtain ⟨a, kvs, rfl, hH, hks, hsv⟩ := dictOf_ok w2 (r1.mono x2.kk) hdd
    subst hks
    obtain ⟨l1, l2⟩ := lookK_ok (k := k) hsv
    have ey := keyD_ok r2 hk
    subst ey
    cases hl : lookK k (kvs.map (·.1)) xs with
    | none => rw [hl] at h4; cases h4
    | some x =>
      rw [hl] at h4
      cases h4
      obtain ⟨v', hv, rv⟩ := l2 x hl
      exact ⟨a, v', rfl, by rw [← hv]; exact DGet.k hH, q v' Hk2 H2 w2 (x1.trans x2) rv⟩
  · cases h4
/-! ### in: data of any depth -/
def rInDT (K : PySem.W.Frag) : R2 := fun x y H Q => ∃ d ds, Dp K H x d ∧ Dp K H y (.tuple ds) ∧ SeqAt.shaped d = true ∧ SeqAt.shaped (.tuple ds) = true ∧ Q (.bl (ds.any fun z => PyData.eqv z d)) H
def rNotInDT (K : PySem.W.Frag) : R2 := fun x y H Q => ∃ d ds, Dp K H x d ∧ Dp K H y (.tuple ds) ∧ SeqAt.shaped d = true ∧ SeqAt.shaped (.tuple ds) = true ∧ Q (.bl (!ds.any fun z => PyData.eqv z d)) H
theorem op_inDT {X : Cx} (hu : X.A.units + 65 < cLine) : OpR X (compareOp .In) (rInDT X.K) := by
  intro pins s σ H x y v u Q I rx ry h
  obtain ⟨d, ds, hd, he, sd, se, q⟩ := h
  obtain ⟨as, r1⟩ := Dp.reads I d x v hd rx
  obtain ⟨bs, r2⟩ := Dp.reads I (.tuple ds) y u he ry
  exact SeqAt.in_tuple_reads r2 r1 (SeqAt.canLay_of_shaped se) (SeqAt.canLay_of_shaped sd) (room_in_shaped sd hu) ⟨.bl _, H, I, rfl, q⟩
theorem op_notInDT {X : Cx} (hu : X.A.units + 65 < cLine) : OpR X (compareOp .NotIn) (rNotInDT X.K) := by
  intro pins s σ H x y v u Q I rx ry h
  obtain ⟨d, ds, hd, he, sd, se, q⟩ := h
  obtain ⟨as, r1⟩ := Dp.reads I d x v hd rx
  obtain ⟨bs, r2⟩ := Dp.reads I (.tuple ds) y u he ry
  exact SeqAt.notIn_tuple_reads r2 r1 (SeqAt.canLay_of_shaped se) (SeqAt.canLay_of_shaped sd) (room_in_shaped sd hu) ⟨.bl _, H, I, rfl, q⟩
def inDS (M : MS) (s t : SV) : Option Bool := match peek M s, peek M t with
  | some d, some (.lst es) => match toP d, toPl es with
    | some p, some ps => if SeqAt.shaped p && SeqAt.shaped (.list ps) then some (ps.any fun z => PyData.eqv z p) else none
    | _, _ => none
  | some d, some (.tup es) => match toP d, toPl es with
    | some p, some ps => if SeqAt.shaped p && SeqAt.shaped (.tuple ps) then some (ps.any fun z => PyData.eqv z p) else none
    | _, _ => none
  | _, _ => none
def gInD (M : MS) (s t : SV) : Option R := match inS M s t with
  | some b => rB b
  | none => match inDS M s t with
    | some b => rB b
    | none => none
def gNotInD (M : MS) (s t : SV) : Option R := match inS M s t with
  | some b => rB (!b)
  | none => match inDS M s t with
    | some b => rB (!b)
    | none => none
theorem inDS_ok {K : PySem.W.Frag} {Hk H : Hp} {M : MS} {ls : List Addr} {x y : V} {s t : SV} {b : Bool} (w : World K Hk H M ls) (rx : SVr K Hk ls ls.length x s) (ry : SVr K Hk ls ls.length y t) (e : inDS M s t = some b) :
    ∃ p ps, Dp K H x p ∧ SeqAt.shaped p = true ∧ ((Dp K H y (.list ps) ∧ SeqAt.shaped (.list ps) = true) ∨ (Dp K H y (.tuple ps) ∧ SeqAt.shaped (.tuple ps) = true)) ∧ b = ps.any fun z => PyData.eqv z p := by
  unfold inDS at e
  split at e
  · rename_i d es h1 h2
    split at e
    · rename_i p ps h3 h4
      split at e
      · rename_i hs
        cases e
        rw [Bool.and_eq_true] at hs
        exact ⟨p, ps, toP_ok (peek_ok w _ _ _ _ _ rx h1) h3, hs.1, .inl ⟨toP_ok (peek_ok w _ _ _ _ _ ry h2) (by simp only [toP, h4]), hs.2⟩, rfl⟩
      · cases e
    · cases e
  · rename_i d es h1 h2
    split at e
    · rename_i p ps h3 h4
      split at e
      · rename_i hs
        cases e
        rw [Bool.and_eq_true] at hs
        exact ⟨p, ps, toP_ok (peek_ok w _ _ _ _ _ rx h1) h3, hs.1, .inr ⟨toP_ok (peek_ok w _ _ _ _ _ ry h2) (by simp only [toP, h4]), hs.2⟩, rfl⟩
      · cases e
    · cases e
  · cases e
theorem opd_inD {K : PySem.W.Frag} : OpD K (fun x y H Q => rInS K x y H Q ∨ rInD K x y H Q ∨ rInDT K x y H Q) gInD := by
  intro Hk H M ls x y s t z Q w rx ry e q
  unfold gInD at e
  split at e
  · rename_i b hb
    refine .inl (opd_in Hk H M ls x y s t z Q w rx ry ?_ q)
    unfold gIn
    rw [hb]
    exact e
  · split at e
    · rename_i b hb
      cases e
      obtain ⟨p, ps, h1, h2, h3, rfl⟩ := inDS_ok w rx ry hb
      rcases h3 with ⟨h3, h4⟩ | ⟨h3, h4⟩
      · exact .inr (.inl ⟨p, ps, h1, h3, h2, h4, q.dt w (.bl _)⟩)
      · exact .inr (.inr ⟨p, ps, h1, h3, h2, h4, q.dt w (.bl _)⟩)
    · cases e
theorem opd_notInD {K : PySem.W.Frag} : OpD K (fun x y H Q => rNotInS K x y H Q ∨ rNotInD K x y H Q ∨ rNotInDT K x y H Q) gNotInD := by
  intro Hk H M ls x y s t z Q w rx ry e q
  unfold gNotInD at e
  split at e
  · rename_i b hb
    refine .inl (opd_notIn Hk H M ls x y s t z Q w rx ry ?_ q)
    unfold gNotIn
    rw [hb]
    exact e
  · split at e
    · rename_i b hb
      cases e
      obtain ⟨p, ps, h1, h2, h3, rfl⟩ := inDS_ok w rx ry hb
      rcases h3 with ⟨h3, h4⟩ | ⟨h3, h4⟩
      · exact .inr (.inl ⟨p, ps, h1, h3, h2, h4, q.dt w (.bl _)⟩)
      · exact .inr (.inr ⟨p, ps, h1, h3, h2, h4, q.dt w (.bl _)⟩)
    · cases e
end Dy

set_option Elab.async false
set_option linter.all false
set_option maxRecDepth 100000
set_option maxHeartbeats 4000000
/-! Layer Dy, part 22: several fresh things at once: x, y = [..], [..]; x = [f(), g()] whose items are changed later. -/
namespace Dy
open PySem PySem.Spec PyProof.Rows L2
def isFr : R → Bool
  | .sv _ => false
  | _ => true
inductive RrS (K : PySem.W.Frag) (H0 Hk H : Hp) (ls : List Addr) : List V → List R → Prop
  | nil : RrS K H0 Hk H ls [] []
  | cons {v : V} {vs : List V} {r : R} {rs : List R} : Rr K H0 Hk H ls v r → RrS K H0 Hk H ls vs rs → (isFr r = true → ∀ (i : Nat) (v' : V) (r' : R), vs[i]? = some v' → rs[i]? = some r' → isFr r' = true → v' ≠ v) → RrS K H0 Hk H ls (v :: vs) (r :: rs)
section
variable {K : PySem.W.Frag} {H0 Hk H Hk' H' Hk0 : Hp} {ls : List Addr} {M : MS}
theorem Rr.keep {v : V} {r : R} (h : Rr K H0 Hk H ls v r) (x : Ext ls Hk H Hk' H') : Rr K H0 Hk' H' ls v r := by
  have nk : ∀ l o, H l = some o → Hk l = none → Hk' l = none := fun l o h1 h2 => by
    cases e : Hk' l with
    | none => rfl
    | some u =>
      rcases x.gr l (by rw [e]; simp) with z | z
      · exact absurd h2 z
      · rw [h1] at z; cases z
  cases r with
  | sv s => exact SVr.mono x.kk h
  | fr ds =>
    obtain ⟨l, vs, e, h0, hn, hl, hh, ha⟩ := h
    exact ⟨l, vs, e, h0, nk l _ hh hn, hl, x.fr l _ hh hl, RpA.mono x.kk ha⟩
  | fd ks ds =>
    obtain ⟨l, kvs, e, h0, hn, hl, hh, hk, ha⟩ := h
    exact ⟨l, kvs, e, h0, nk l _ hh hn, hl, x.fr l _ hh hl, hk, RpA.mono x.kk ha⟩
theorem RrS.back {H1 Hk1 : Hp} (x : Ext ls Hk0 H0 Hk1 H1) : ∀ {vs : List V} {rs : List R}, RrS K H1 Hk H ls vs rs → RrS K H0 Hk H ls vs rs
  | _, _, .nil => .nil
  | _, _, .cons r t d => .cons (ebin_go.rr_back x r) (RrS.back x t) d
theorem Rr.new {v : V} {r : R} (h : Rr K H0 Hk H ls v r) (hf : isFr r = true) : ∃ l, v = .ref l ∧ H0 l = none ∧ H l ≠ none := by
  cases r with
  | sv s => cases hf
  | fr ds =>
    obtain ⟨l, vs, e, h0, hn, hl, hh, ha⟩ := h
    exact ⟨l, e, h0, by rw [hh]; simp⟩
  | fd ks ds =>
    obtain ⟨l, kvs, e, h0, hn, hl, hh, hk, ha⟩ := h
    exact ⟨l, e, h0, by rw [hh]; simp⟩
theorem RrS.at {vs : List V} {rs : List R} (h : RrS K H0 Hk H ls vs rs) : ∀ (i : Nat) (v : V) (r : R), vs[i]? = some v → rs[i]? = some r → Rr K H0 Hk H ls v r := by
  induction h with
  | nil => intro i v r e; simp at e
  | cons h t d ih =>
    intro i v r e1 e2
    cases i with
    | zero =>
      simp at e1 e2
      subst e1 e2
      exact h
    | succ i => exact ih i v r (by simpa using e1) (by simpa using e2)
end
def tAR (K : PySem.W.Frag) (m : EM (List R)) : TA := fun σ H Q => ∃ Hk ls ρ M r M', World K Hk H M ls ∧ EnvR K Hk ls σ ρ ∧ m ρ M = some (r, M') ∧
  ∀ vs Hk' H', World K Hk' H' M' ls → Ext ls Hk H Hk' H' → RrS K H Hk' H' ls vs r → Q vs H'
abbrev PAR (X : Cx) (es : List Expr) (m : EM (List R)) : Prop := PA X es (tAR X.K m)
def rNil : EM (List R) := EM.ret []
/-- an item that stays fresh -/
def rConsN (m : EM R) (ms : EM (List R)) : EM (List R) := m.seq fun r => ms.seq fun rs => EM.ret (r :: rs)
/-- an item that is a datum from here on -/
def rConsD (m : EM R) (ms : EM (List R)) : EM (List R) := (fz m).seq fun s => ms.seq fun rs => EM.ret (.sv s :: rs)
section
variable {X : Cx} {e : Expr} {es : List Expr} {m : EM R} {ms : EM (List R)}
theorem par_nil : PAR X [] rNil := PA.imp pa_nil fun σ H Q ⟨Hk, ls, ρ, M, r, M', w, en, hm, q⟩ => by
  cases hm
  exact q [] Hk H w (Ext.refl _ _ _) .nil
theorem par_consN (h : PM X e m) (hs : PAR X es ms) (hst : starEach (e :: es) X.env = (false, eval e X.env) :: starEach es X.env := by rfl) : PAR X (e :: es) (rConsN m ms) :=
  PA.imp (pa_cons h hs hst) fun σ H Q ⟨Hk, ls, ρ, M, r, M', w, en, hm, q⟩ => by
  obtain ⟨r1, M1, h1, h2⟩ := seq_some hm
  obtain ⟨rs, M2, h3, h4⟩ := seq_some h2
  cases h4
  refine ⟨Hk, ls, ρ, M, r1, M1, w, en, h1, fun v Hk1 H1 w1 x1 k1 => ?_⟩
  refine ⟨Hk1, ls, ρ, M1, rs, _, w1, en.mono x1.kk, h3, fun vs Hk2 H2 w2 x2 k2 => ?_⟩
  refine q (v :: vs) Hk2 H2 w2 (x1.trans x2) (.cons (k1.keep x2) (k2.back x1) fun hf i v' r' e1 e2 hf' z => ?_)
  subst z
  obtain ⟨l, rfl, _, n1⟩ := k1.new hf
  obtain ⟨l', e, n2, _⟩ := (k2.at i _ r' e1 e2).new hf'
  cases e
  exact n1 n2
theorem par_consD (h : PM X e m) (hs : PAR X es ms) (hst : starEach (e :: es) X.env = (false, eval e X.env) :: starEach es X.env := by rfl) : PAR X (e :: es) (rConsD m ms) :=
  PA.imp (pa_cons (PM.v h) hs hst) fun σ H Q ⟨Hk, ls, ρ, M, r, M', w, en, hm, q⟩ => by
  obtain ⟨s, M1, h1, h2⟩ := seq_some hm
  obtain ⟨rs, M2, h3, h4⟩ := seq_some h2
  cases h4
  refine ⟨Hk, ls, ρ, M, s, M1, w, en, h1, fun v Hk1 H1 w1 x1 k1 => ?_⟩
  refine ⟨Hk1, ls, ρ, M1, rs, _, w1, en.mono x1.kk, h3, fun vs Hk2 H2 w2 x2 k2 => ?_⟩
  exact q (v :: vs) Hk2 H2 w2 (x1.trans x2) (.cons (SVr.mono x2.kk k1) (k2.back x1) fun hf => by cases hf)
end
/-- each fresh thing gets a handle -/
def allocL : List R → MS → List SV × MS
  | [], M => ([], M)
  | .sv s :: rs, M => (s :: (allocL rs M).1, (allocL rs M).2)
  | .fr ds :: rs, M => (.mu M.length :: (allocL rs (M ++ [.l (ds.map .dt)])).1, (allocL rs (M ++ [.l (ds.map .dt)])).2)
  | .fd ks ds :: rs, M => (.mu M.length :: (allocL rs (M ++ [.d ks (ds.map .dt)])).1, (allocL rs (M ++ [.d ks (ds.map .dt)])).2)
section
variable {K : PySem.W.Frag} {H0 Hk H : Hp}
theorem RrS.more {ls : List Addr} {l : Addr} : ∀ {vs : List V} {rs : List R}, RrS K H0 Hk H ls vs rs → (∀ (i : Nat) (v' : V) (r' : R), vs[i]? = some v' → rs[i]? = some r' → isFr r' = true → v' ≠ .ref l) → RrS K H0 Hk H (ls ++ [l]) vs rs
  | _, _, .nil, _ => .nil
  | _, _, .cons (v := v) (r := r) h t d, n => by
    refine .cons ?_ (RrS.more t fun i v' r' e1 e2 => n (i + 1) v' r' (by simpa using e1) (by simpa using e2)) d
    have n0 := n 0 v r (by simp) (by simp)
    cases r with
    | sv s => exact SVr.moreS (fun _ _ e => e) ⟨[l], rfl⟩ h
    | fr ds =>
      obtain ⟨a, vs, e, h0, hn, hl, hh, ha⟩ := h
      refine ⟨a, vs, e, h0, hn, fun z => ?_, hh, ha⟩
      rcases List.mem_append.mp z with z | z
      · exact hl z
      · have : a = l := by simpa using z
        subst this
        exact n0 rfl e
    | fd ks ds =>
      obtain ⟨a, kvs, e, h0, hn, hl, hh, hk, ha⟩ := h
      refine ⟨a, kvs, e, h0, hn, fun z => ?_, hh, hk, ha⟩
      rcases List.mem_append.mp z with z | z
      · exact hl z
      · have : a = l := by simpa using z
        subst this
        exact n0 rfl e
theorem alloc_ok : ∀ {vs : List V} {rs : List R} {M : MS} {ls : List Addr}, World K Hk H M ls → RrS K H0 Hk H ls vs rs → ∃ t, World K Hk H (allocL rs M).2 (ls ++ t) ∧ SVs K Hk (ls ++ t) (ls ++ t).length vs (allocL rs M).1 ∧ ∀ a ∈ t, H0 a = none
  | _, _, M, ls, w, .nil => ⟨[], by simpa [allocL] using w, by simpa [allocL] using SVs.nil, by simp⟩
  | _, _, M, ls, w, .cons (v := v) (r := r) h t d => by
    cases r with
    | sv s =>
      obtain ⟨u, w2, s2, n2⟩ := alloc_ok w t
      exact ⟨u, w2, .cons (SVr.moreS (fun _ _ e => e) ⟨u, rfl⟩ h) s2, n2⟩
    | fr ds =>
      obtain ⟨a, us, e, h0, hn, hl, hh, ha⟩ := h
      subst e
      have w1 := w.push (o := .l (ds.map .dt)) hl hn ⟨us, hh, SVs.ofA ha⟩
      obtain ⟨u, w2, s2, n2⟩ := alloc_ok w1 (t.more (l := a) fun i v' r' e1 e2 hf => d rfl i v' r' e1 e2 hf)
      refine ⟨a :: u, by simpa [allocL] using w2, ?_, fun b hb => ?_⟩
      · rw [List.append_assoc] at s2
        refine .cons ⟨by rw [w.len]; simp, a, ?_, rfl⟩ s2
        rw [w.len, List.getElem?_append_right (Nat.le_refl _)]
        simp
      · rcases List.mem_cons.mp hb with rfl | hb
        · exact h0
        · exact n2 b hb
    | fd ks ds =>
      obtain ⟨a, kvs, e, h0, hn, hl, hh, hk, ha⟩ := h
      subst e
      have w1 := w.push (o := .d ks (ds.map .dt)) hl hn ⟨kvs, hh, hk, SVs.ofA ha⟩
      obtain ⟨u, w2, s2, n2⟩ := alloc_ok w1 (t.more (l := a) fun i v' r' e1 e2 hf => d rfl i v' r' e1 e2 hf)
      refine ⟨a :: u, by simpa [allocL] using w2, ?_, fun b hb => ?_⟩
      · rw [List.append_assoc] at s2
        refine .cons ⟨by rw [w.len]; simp, a, ?_, rfl⟩ s2
        rw [w.len, List.getElem?_append_right (Nat.le_refl _)]
        simp
      · rcases List.mem_cons.mp hb with rfl | hb
        · exact h0
        · exact n2 b hb
end
def sPar2N (i j : Nat) (ms : EM (List R)) : SM := fun ρ M => match ms ρ M with
  | some (rs, M1) => match allocL rs M1 with
    | ([s, t], M2) => some (.nx ((ρ.set i (some s)).set j (some t)) M2)
    | _ => none
  | none => none
def sPar3N (i j l : Nat) (ms : EM (List R)) : SM := fun ρ M => match ms ρ M with
  | some (rs, M1) => match allocL rs M1 with
    | ([s, t, u], M2) => some (.nx (((ρ.set i (some s)).set j (some t)).set l (some u)) M2)
    | _ => none
  | none => none
theorem extS_alloc {ls t : List Addr} {Hk H Hk1 H1 : Hp} (x : Ext ls Hk H Hk1 H1) (n : ∀ a ∈ t, H a = none) : ExtS ls (ls ++ t) Hk H Hk1 H1 :=
  ⟨⟨t, rfl⟩, x.kk, x.fr, x.gr, fun a ha => by
    rcases List.mem_append.mp ha with h | h
    · exact .inl h
    · exact .inr (n a h), x.st⟩
section
variable {X : Cx} {ms : EM (List R)} {st : Stmt}
theorem psm_par2N {i j : Nat} (h : PS X st (tPar i j (tAR X.K ms))) : PSm X st (sPar2N i j ms) := PS.imp h fun E σ H ⟨Hk, ls, ρ, M, o, w, en, hm, q⟩ => by
  unfold sPar2N at hm
  split at hm
  · rename_i rs M1 h1
    split at hm
    · rename_i s t M2 ha
      cases hm
      refine ⟨Hk, ls, ρ, M, rs, M1, w, en, h1, fun vs Hk1 H1 w1 x1 k1 => ?_⟩
      obtain ⟨u, w2, s2, n2⟩ := alloc_ok w1 k1
      rw [ha] at w2 s2
      have xs := extS_alloc x1 n2
      cases s2 with
      | cons a1 s2 =>
        cases s2 with
        | cons a2 s2 =>
          cases s2
          exact ⟨_, _, rfl, q _ Hk1 H1 _ w2 xs (((en.extS xs).set a1).set a2)⟩
    · cases hm
  · cases hm
theorem psm_par3N {i j l : Nat} (h : PS X st (tPar3 i j l (tAR X.K ms))) : PSm X st (sPar3N i j l ms) := PS.imp h fun E σ H ⟨Hk, ls, ρ, M, o, w, en, hm, q⟩ => by
  unfold sPar3N at hm
  split at hm
  · rename_i rs M1 h1
    split at hm
    · rename_i s t z M2 ha
      cases hm
      refine ⟨Hk, ls, ρ, M, rs, M1, w, en, h1, fun vs Hk1 H1 w1 x1 k1 => ?_⟩
      obtain ⟨u, w2, s2, n2⟩ := alloc_ok w1 k1
      rw [ha] at w2 s2
      have xs := extS_alloc x1 n2
      cases s2 with
      | cons a1 s2 =>
        cases s2 with
        | cons a2 s2 =>
          cases s2 with
          | cons a3 s2 =>
            cases s2
            exact ⟨_, _, _, rfl, q _ Hk1 H1 _ w2 xs ((((en.extS xs).set a1).set a2).set a3)⟩
    · cases hm
  · cases hm
/-- x = [..], its items perhaps with handles -/
def sNewL (i : Nat) (ms : EM (List R)) : SM := fun ρ M => match ms ρ M with
  | some (rs, M1) => if (allocL rs M1).1.length ≤ sizeLine then some (.nx (ρ.set i (some (.mu (allocL rs M1).2.length))) ((allocL rs M1).2 ++ [.l (allocL rs M1).1])) else none
  | none => none
theorem psm_newL {i : Nat} (h : PS X st (tAsg (tLst (tAR X.K ms)) (gName i))) : PSm X st (sNewL i ms) := PS.imp h fun E σ H ⟨Hk, ls, ρ, M, o, w, en, hm, q⟩ => by
  unfold sNewL at hm
  split at hm
  · rename_i rs M1 h1
    split at hm
    · rename_i hz
      cases hm
      refine ⟨Hk, ls, ρ, M, rs, M1, w, en, h1, fun vs Hk1 H1 w1 x1 k1 => ?_⟩
      obtain ⟨t, w2, s2, n2⟩ := alloc_ok w1 k1
      refine ⟨by rw [s2.length]; exact hz, fun p hp => ?_⟩
      have f2 := w2.fresh hp
      have w3 := (w2.upd_new (o := .lst vs) hp).push (o := .l (allocL rs M1).1) f2.2 f2.1 ⟨vs, upd_same, by rw [w2.len]; exact s2⟩
      have x2 : Ext ls Hk H Hk1 (upd H1 p (.lst vs)) := x1.trans (Ext.upd_new hp)
      have hp0 : H p = none := by
        cases e : H p with
        | none => rfl
        | some o => exact absurd hp (x1.st p (by rw [e]; simp))
      have xs : ExtS ls (ls ++ t ++ [p]) Hk H Hk1 (upd H1 p (.lst vs)) := by
        rw [List.append_assoc]
        refine extS_alloc x2 fun a ha => ?_
        rcases List.mem_append.mp ha with h | h
        · exact n2 a h
        · have : a = p := by simpa using h
          subst this
          exact hp0
      refine q _ Hk1 _ _ w3 xs ((en.extS xs).set ⟨by rw [w2.len]; simp, p, ?_, rfl⟩)
      rw [w2.len, List.getElem?_append_right (Nat.le_refl _)]
      simp
    · cases hm
  · cases hm
end
end Dy
namespace Dy
open PySem PySem.Spec PyProof.Rows L2
section
variable {X : Cx} {a b : Expr} {ma mb : EM R} {pos : Pos}
theorem pm_inD (hu : X.A.units + 65 < cLine) (ha : PM X a ma) (hb : PM X b mb) (hm : behindInMarks .In b = false := by rfl) : PM X (.Compare a [.In] [b] pos) (eBin gInD ma mb) := pm_cmp (OpR.or op_inS (OpR.or (op_inD hu) (op_inDT hu))) opd_inD ha hb hm
theorem pm_notInD (hu : X.A.units + 65 < cLine) (ha : PM X a ma) (hb : PM X b mb) (hm : behindInMarks .NotIn b = false := by rfl) : PM X (.Compare a [.NotIn] [b] pos) (eBin gNotInD ma mb) := pm_cmp (OpR.or op_notInS (OpR.or (op_notInD hu) (op_notInDT hu))) opd_notInD ha hb hm
theorem ptm_inD (hu : X.A.units + 65 < cLine) (ha : PM X a ma) (hb : PM X b mb) (hm : behindInMarks .In b = false := by rfl) : PTm X (.Compare a [.In] [b] pos) (eBool (eBin gInD ma mb)) := ptm_cmp (OpR.or op_inS (OpR.or (op_inD hu) (op_inDT hu))) opd_inD ha hb hm
theorem ptm_notInD (hu : X.A.units + 65 < cLine) (ha : PM X a ma) (hb : PM X b mb) (hm : behindInMarks .NotIn b = false := by rfl) : PTm X (.Compare a [.NotIn] [b] pos) (eBool (eBin gNotInD ma mb)) := ptm_cmp (OpR.or op_notInS (OpR.or (op_notInD hu) (op_notInDT hu))) opd_notInD ha hb hm
end
end Dy

set_option Elab.async false
set_option linter.all false
set_option maxRecDepth 100000
set_option maxHeartbeats 2000000
/-! Own errors whose __init__ says super().__init__(..) and stores fields: the walk over the heap. -/
namespace Ex
open PySem PySem.W PySem.Calls PyProof.Rows
/-- a class over MoveError over ValueError -/
structure ClsX (K : Frag) (C : Addr) : Prop where
  cls : ∃ nm q N bs bm sn sub ab col dd k0 k1 k2 k3 k5, K.lookup C = some (excClassObj nm q C N bs bm true sn sub ab col dd k0 k1 k2 k3 k5 "ValueError.__new__") ∧ HandSPX.refsVE bm = true
  sa : findIn K (.ref C) "__setattr__" = some (some (.builtin "object.__setattr__"))
  ga : findIn K (.ref C) "__getattribute__" = some (some (.builtin "BaseException.__getattribute__"))
  gg : findIn K (.ref C) "__getattr__" = some none
  kC : keepIn K (.ref C) = true
  exC : subIn K (.ref C) (.type "BaseException") = some true
  tyC : typeIn K (.ref C) = some (.type "type")
  hdC : hasDictIn K C = true
  op : nsIn K cStatics "thirdparty.any" = some none
  ve : mroIn K C (.type "ValueError") = some true
  me : mroIn K C (.ref C) = some true
  sup : ks_superIn K C C "__init__" = some (some (.builtin "ValueError.__init__"))
section
variable {prog : Program} {w : World} {A : Around} {E : Value → Shared → Prop} {s : Shared} {K : Frag} {C x L fI cda cc : Addr} {m mg mb : Str → Option Value}
/-- ValueError.__init__, bound to the exception, called -/
theorem call_mw {h : Heap} {g : Array GenState} {d : Drawn} {t : Nat} {os : OsState} {u e t0 : Addr} {rest : List Value} {Q : Value → Shared → Prop}
    {nm q : Str} {N : Addr} {bs bm : List Value} {hdct : Bool} {sn : List Str} {sub : List Value} {ab : Bool} {col : Option Bool} {dd : Option Addr} {k0 k1 k2 k3 k5 : Option Value}
    (hC : h.get? C = some (excClassObj nm q C N bs bm hdct sn sub ab col dd k0 k1 k2 k3 k5 "ValueError.__new__")) (he : h.get? e = some (HandSPX.excO C t0)) (hu : h.get? u = some (kxs_mw "ValueError.__init__" e)) (hrest : rest.length ≤ sizeLine)
    (hq : ∀ h' t1, (∀ b o, b ≠ e → h.get? b = some o → h'.get? b = some o) → h'.get? e = some (HandSPX.excO C t1) → h.objs.size ≤ h'.objs.size → Q .none ⟨h', g, d, t, os⟩) :
    wpAny (model prog w) A (call (.ref u) rest) Q E ⟨h, g, d, t, os⟩ := by
  refine wpAny_call (codeAny_of_tree ?_)
  show wpAny _ A.in1 (callAny (.ref u) ⟨rest, []⟩) _ _ _
  simp only [callAny]
  refine wpAny_bind (wpAny_load hu ?_)
  simp only [kxs_mw, show (Value.type "method-wrapper" == Value.type "method" || Value.type "method-wrapper" == Value.type "builtin_function_or_method" || Value.type "method-wrapper" == Value.type "method-wrapper") = true by decide, if_true]
  refine W.KFB.if_so (by decide) ?_
  refine wpAny_bind (ESX.check_bound F.excBase_ValueError hC he rfl ?_)
  refine wpAny_bind (wpAny_pure (wpAny_pure ?_))
  refine ⟨Code.quiet_builtin _ (by decide +kernel), codeAny_builtin F.excBase_ValueError.initEntry ?_⟩
  rw [Around.under_plainId F.excBase_ValueError.init.plain _]
  have hz : ¬ (rest.toArray.size > sizeLine) := by simpa using hrest
  wp_walk
  rw [if_neg hz]
  wp_walk
  refine hq _ h.objs.size (fun b o hb ho => ?_) ?_ ?_
  · rw [Heap.get?_update_other _ _ (Ne.symm hb)]
    exact Heap.get?_push_of_some _ ho
  · rw [Heap.get?_update_self _ (Heap.get?_push_of_some _ he) rfl]
    rfl
  · rw [Heap.size_update, Heap.size_push]
    exact Nat.le_succ _
/-- super().__init__(..), its args evaluated by the caller -/
theorem super_init {body : List Stmt} {qual : Str} {scope : Scope} {p0 p1 p2 p3 : Pos} {args : List Expr} {us : List Value} {t0 : Addr} {fd : FuncData} {ar : Arg} {vs : Array Value} {file : Str} {tf : Tok} {oc ccl cl : Value} {od cdd cld : Option Addr} {osl ccs csl : Array (Option Value)} {Q : Value → Shared → Prop}
    (T : ClsX K C) (X : K.In s.heap) (hn : s.heap.Ns L m) (hs : m ar.arg = some (.ref x)) (hx : s.heap.get? x = some (HandSPX.excO C t0))
    (hG : s.heap.Ns mainGlobals mg) (hm : mg "super" = none) (hB : s.heap.Ns builtinsNs mb) (hb : mb "super" = some (.type "super"))
    (hf : K.lookup fI = some ⟨oc, od, .func fd, osl⟩) (hp : (fd.params.posonlyargs ++ fd.params.args).head? = some ar)
    (hcode : K.lookup cda = some ⟨ccl, cdd, .fields vs, ccs⟩) (hvs : vs[2]? = some (.str file tf)) (hfile : ((prog.main.file : Str) == file) = true)
    (hcell : K.lookup cc = some ⟨cl, cld, .cell (some (.ref C)), csl⟩)
    (hks : scope.names.lookup ("super" : Str) = some .globalImplicit) (hkc : scope.names.lookup ("__class__" : Str) = some .free) (hka : scope.names.lookup ar.arg = some .local) (hk : scope.kind = .function)
    (htop : (prog.main.scope.names.lookup ("super" : Str)).isSome = false) (hz : us.length ≤ sizeLine)
    (hargs : ∀ (s' : Shared) (u : Addr) (Q : Value → Shared → Prop), (∀ b o, s.heap.get? b = some o → s'.heap.get? b = some o) → s'.heap.get? u = some (kxs_mw "ValueError.__init__" x) → wpAny (model prog w) A (call (.ref u) us) Q E s' → wpAny (model prog w) A (callWith p3 (.ref u) [] (backTo p3 (starEach args (ksEnv qual scope L fI (.ref cda) cc))) []) Q E s')
    (hpl : ∃ pl : Sem Bool, eval (.Call (.Attribute (.Call (.Name "super" p0) [] [] p1) "__init__" p2) args [] p3) (ksEnv qual scope L fI (.ref cda) cc) = (do
      let ov ← attributeBase (.Call (.Name "super" p0) [] [] p1) "__init__" (ksEnv qual scope L fI (.ref cda) cc) (eval (.Call (.Name "super" p0) [] [] p1) (ksEnv qual scope L fI (.ref cda) cc))
      standAt p2.atName
      let (f, first) ← holding [ov] (getMethod ov "__init__" pl)
      callWith p3 f first (backTo p3 (starEach args (ksEnv qual scope L fI (.ref cda) cc))) []))
    (hq : ∀ h' t1 tk, (∀ b o, b ≠ x → s.heap.get? b = some o → h'.get? b = some o) → h'.get? x = some (HandSPX.excO C t1) → s.heap.objs.size ≤ h'.objs.size → Q .none { s with heap := h', toks := tk }) :
    _root_.PySem.wpAt (model prog w) A (.func body (ksEnv qual scope L fI (.ref cda) cc)) (eval (.Call (.Attribute (.Call (.Name "super" p0) [] [] p1) "__init__" p2) args [] p3) (ksEnv qual scope L fI (.ref cda) cc)) Q E s := by
  obtain ⟨pl, hpl⟩ := hpl
  obtain ⟨nm, q, N, bs, bm, sn, sub, ab, col, dd, k0, k1, k2, k3, k5, hC, hbm⟩ := T.cls
  obtain ⟨hh, g, d, t, os⟩ := s
  have hCh : hh.get? C = _ := X _ _ hC
  have hcl : ∃ cdC, clsIn K C = some cdC ∧ (excClassObj nm q C N bs bm true sn sub ab col dd k0 k1 k2 k3 k5 "ValueError.__new__").data = .cls cdC := by
    refine ⟨_, ?_, rfl⟩
    unfold clsIn
    rw [hC]
  obtain ⟨cdC, hcC, hdC⟩ := hcl
  have I : InstAt hh x (HandSPX.excO C t0) C none := ⟨hx, rfl, rfl, trivial⟩
  refine ks_wpAt_MethodCall (pl := pl) ?_ hpl
  refine ks_wpAt_super_base (env := ksEnv qual scope L fI (.ref cda) cc) hks hkc (by decide) rfl (X _ _ hf) rfl hp rfl (X _ _ hcode) rfl hvs hfile htop ?_
  refine ks_loadName_global hk hks (loadGlobal_builtin (env := ksEnv qual scope L fI (.ref cda) cc) hG hm hB hb ⟨rfl, ?_⟩)
  refine wpAny_loadName_free hk hkc rfl ⟨_, X _ _ hcell, rfl⟩ ?_
  refine wpAny_loadName_local hk hka hn hs ?_
  refine ks_wpAny_isType_cls hCh hdC ⟨rfl, ?_⟩
  refine ks_wpAny_call_super hCh hdC hx rfl (fun c e => nomatch e) (looks_mroIn X T.me) (fun h1 e1 k1' => ?_)
  have X1 : K.In h1 := X.keeps k1'
  have sup := T.sup
  unfold ks_superIn at sup
  rw [hcC] at sup
  have I1 : InstAt h1 x (HandSPX.excO C t0) C none := ⟨k1' _ _ hx, rfl, rfl, trivial⟩
  refine kxs_getMethod kxs_ValueError e1 (looks_opaque X1 T.op) (l₀ := cdC.mro) (fun A Q E s k q => wpAny_bind ((looks_clsIn X1 hcC) A _ E s k (wpAny_pure q))) rfl X1 sup (I1.type.andThen (looks_mroIn X1 T.ve)) (ks_ne X I hcC) (by decide) ?_
  have k2' : ∀ b o, hh.get? b = some o → (h1.push (kxs_mw "ValueError.__init__" x)).get? b = some o := fun b o e => Heap.get?_push_of_some _ (k1' b o e)
  refine hargs _ _ _ k2' (Heap.get?_push_at rfl rfl) ?_
  refine call_mw (k2' _ _ hCh) (k2' _ _ hx) (Heap.get?_push_at rfl rfl) hz fun h' t1 kk hx' sz => ?_
  refine hq h' t1 _ (fun b o hb e => kk b o hb (k2' b o e)) hx' (Nat.le_trans ?_ sz)
  rw [Heap.size_push]
  exact Nat.le_trans (Nat.le_of_lt (Heap.lt_size e1)) (Nat.le_succ _)
end
end Ex

set_option Elab.async false
set_option linter.all false
set_option maxRecDepth 100000
set_option maxHeartbeats 2000000
/-! Own errors: __init__ of one field. -/
namespace Ex
open PySem PySem.W PySem.Calls PyProof.Rows
/-- the text of an __init__ of one field -/
def iA1 (f : Str) (p1 p2 : Pos) : Arguments := { posonlyargs := [], args := [{ arg := "self", annotation := none, pos := p1 }, { arg := f, annotation := none, pos := p2 }], vararg := none, kwonlyargs := [], kw_defaults := [], kwarg := none, defaults := [] }
def iB1 (f : Str) (a1 a2 a3 a4 a5 a6 b1 b2 b3 b4 : Pos) : List Stmt := [.Expr (.Call (.Attribute (.Call (.Name "super" a1) [] [] a2) "__init__" a3) [.Name f a4] [] a5) a6, .Assign [.Attribute (.Name "self" b1) f b2] (.Name f b3) b4]
def iS (fs : List Str) : Scope := { kind := .function, names := (PySem.Str.ofString "self", NameKind.local) :: (fs.map fun f : Str => (f, NameKind.local)) ++ [(PySem.Str.ofString "__class__", NameKind.free), (PySem.Str.ofString "super", NameKind.globalImplicit)], isGenerator := false, isCoroutine := false, more := [] }
/-- a field's name -/
structure Nm1 (f : Str) : Prop where
  ne : (f == ("self" : Str)) = false
  ne' : (("self" : Str) == f) = false
  db : (f == ("__debug__" : Str)) = false
  l1 : (iS [f]).names.lookup f = some .local
  l2 : (iS [f]).names.lookup ("__class__" : Str) = some .free
  l3 : (iS [f]).names.lookup ("super" : Str) = some .globalImplicit
  bd : ∀ (qual : Str) (p1 p2 : Pos) (body : List Stmt) (doc pm : Value) (an : Option Addr) (cda : Addr) (ct : Value) (cc : Addr) (x v : Value), bindArgs (ksFn "__init__" qual (iA1 f p1 p2) body (iS [f]) .none .none doc pm an (.ref cda) ct cc) ⟨[x, v], []⟩ = pure [(("self" : Str), x), (f, v)]
theorem nm_place : Nm1 "place" := ⟨by decide, by decide, by decide, by decide, by decide, by decide, by intros; rfl⟩
/-- what the module's spaces say -/
structure Spaces (prog : Program) (h : Heap) : Prop where
  g : ∃ mg, h.Ns mainGlobals mg ∧ mg "super" = none
  b : ∃ mb, h.Ns builtinsNs mb ∧ mb "super" = some (.type "super")
  top : (prog.main.scope.names.lookup ("super" : Str)).isSome = false
theorem Spaces.keeps {prog : Program} {h h' : Heap} (S : Spaces prog h) (k : ∀ b o, h.get? b = some o → h'.get? b = some o) : Spaces prog h' := by
  obtain ⟨⟨mg, g1, g2⟩, ⟨mb, b1, b2⟩, t⟩ := S
  exact ⟨⟨mg, g1.keeps k, g2⟩, ⟨mb, b1.keeps k, b2⟩, t⟩
/-- an __init__ with the class's cell -/
structure InitF (prog : Program) (K : Frag) (C fI : Addr) (qual : Str) (params : Arguments) (body : List Stmt) (scope : Scope) : Prop where
  iC : findIn K (.ref C) "__init__" = some (some (.ref fI))
  tI : typeIn K (.ref fI) = some (.type "function")
  fn : ∃ (oc : Value) (od : Option Addr) (doc pm : Value) (an : Option Addr) (cda cc : Addr) (ct : Value) (osl : Array (Option Value)) (ccl : Value) (cdd : Option Addr) (vs : Array Value) (ccs : Array (Option Value)) (file : Str) (tf : Tok) (cl : Value) (cld : Option Addr) (csl : Array (Option Value)),
    K.lookup fI = some ⟨oc, od, .func (ksFn "__init__" qual params body scope .none .none doc pm an (.ref cda) ct cc), osl⟩ ∧ codeIn K (.ref cda) qual = true ∧ K.lookup cda = some ⟨ccl, cdd, .fields vs, ccs⟩ ∧ vs[2]? = some (.str file tf) ∧ ((prog.main.file : Str) == file) = true ∧ K.lookup cc = some ⟨cl, cld, .cell (some (.ref C)), csl⟩
/-- what __init__ leaves of a fresh exception at x -/
structure InitEnd (h h' : Heap) (x C : Addr) (dx : Option Addr) (t1 : Addr) (fs : List (Str × Value)) : Prop where
  keep : ∀ b o, b ≠ x → h.get? b = some o → h'.get? b = some o
  obj : h'.get? x = some { cls := .ref C, dict := dx, data := .fields #[.ref t1, .none, .none, .none, .bool false, .none] }
  dx : match dx with
    | some d => h.objs.size ≤ d ∧ d ≠ x ∧ h'.Ns1 d (fun y => fs.lookup y)
    | none => fs = []
theorem keep_ns {h h' : Heap} {L x : Addr} {m : Str → Option Value} (hn : h.Ns L m) (hx : L ≠ x) (k : ∀ b o, b ≠ x → h.get? b = some o → h'.get? b = some o) : h'.Ns L m := by
  obtain ⟨oL, es, ep, hL, r⟩ := hn
  exact ⟨oL, es, ep, k _ _ hx hL, r⟩
theorem kept_but {K : Frag} {h h' : Heap} {x : Addr} (X : K.In h) (hx : K.lookup x = none) (k : ∀ b o, b ≠ x → h.get? b = some o → h'.get? b = some o) : K.In h' := fun a o e =>
  k a o (fun z => by rw [z, hx] at e; cases e) (X a o e)
/-- the bound ValueError.__init__ called with args -/
theorem callWith_mw {M : Model} {A : Around} {E : Value → Shared → Prop} {s : Shared} {pos : Pos} {env : Env} {e : Expr} {rest : List Expr} {u x : Addr} {Q : Value → Shared → Prop}
    (h : wpAny M A (spliced (backTo pos (starEach (e :: rest) env))) (fun vs s₁ => s₁.heap.get? u = some (kxs_mw "ValueError.__init__" x) ∧ wpAny M A (call (.ref u) vs) Q E s₁) E s)
    (he : starEach (e :: rest) env = (false, eval e env) :: starEach rest env := by rfl) (hplain : (backTo pos (starEach rest env)).any (·.1) = false := by rfl) :
    wpAny M A (callWith pos (.ref u) [] (backTo pos (starEach (e :: rest) env)) []) Q E s := by
  rw [he] at h ⊢
  refine kxs_callWith (i := "ValueError.__init__") (x := x) (by show (false || (backTo pos (starEach rest env)).any (·.1)) = false; rw [hplain]; rfl) ?_
  exact evalArgs_plain h
theorem ld_loc {M : Model} {A : Around} {E : Value → Shared → Prop} {s : Shared} {env : Env} {m : Str → Option Value} {x : Str} {pos : Pos} {v : Value} {Q : Value → Shared → Prop} (hk : env.scope.kind = .function) (hl : env.kindOf x = some .local) (hn : s.heap.Ns env.locals m) (hv : m x = some v) (hd : (x == ("__debug__" : Str)) = false) (h : Q v s) :
    wpAny M A (eval (.Name x pos) env) Q E s := wpAny_Name (wpAny_loadName_local hk hl hn hv h) hd
section
variable {prog : Program} {w : World} {A : Around} {E : Value → Shared → Prop} {R : Result → Shared → Prop} {s : Shared} {K : Frag} {C fI : Addr} {qual f : Str}
theorem init1 {p1 p2 a1 a2 a3 a4 a5 a6 b1 b2 b3 b4 : Pos} (T : ClsX K C) (F1 : InitF prog K C fI qual (iA1 f p1 p2) (iB1 f a1 a2 a3 a4 a5 a6 b1 b2 b3 b4) (iS [f])) (S : Spaces prog s.heap) (nof : findIn K (.ref C) f = some none) (nf : Nm1 f)
    (hev : ∀ (L cda cc : Addr), ∃ pl : Sem Bool, eval (.Call (.Attribute (.Call (.Name "super" a1) [] [] a2) "__init__" a3) [.Name f a4] [] a5) (ksEnv qual (iS [f]) L fI (.ref cda) cc) = (do
      let ov ← attributeBase (.Call (.Name "super" a1) [] [] a2) "__init__" (ksEnv qual (iS [f]) L fI (.ref cda) cc) (eval (.Call (.Name "super" a1) [] [] a2) (ksEnv qual (iS [f]) L fI (.ref cda) cc))
      standAt a3.atName
      let (g, first) ← holding [ov] (getMethod ov "__init__" pl)
      callWith a5 g first (backTo a5 (starEach [.Name f a4] (ksEnv qual (iS [f]) L fI (.ref cda) cc))) []))
    {x t0 : Addr} {v : Value} (X : K.In s.heap) (hlim : s.heap.NoLimit) (hx : s.heap.get? x = some (HandSPX.excO C t0)) (hnx : K.lookup x = none) (hroom : A.depth < recursionLimit)
    (hq : ∀ h' tk dx t1, InitEnd s.heap h' x C (some dx) t1 [(f, v)] → R (.ok (.ret .none)) { s with heap := h', toks := tk }) :
    codeAny (model prog w) A (.call (.ref fI) ⟨[.ref x, v], []⟩) R s := by
  obtain ⟨oc, od, doc, pm, an, cda, cc, ct, osl, ccl, cdd, vs, ccs, file, tf, cl, cld, csl, ho, hcd, hcode, hvs, hfile, hcell⟩ := F1.fn
  obtain ⟨⟨mg, g1, g2⟩, ⟨mb, bb1, bb2⟩, htop⟩ := S
  obtain ⟨nm, q, N, bs, bm, sn, sub, ab, col, dd, k0, k1, k2, k3, k5, hC, hbm⟩ := T.cls
  have hcl : clsIn K C = some { name := nm, bases := bs, mro := .ref C :: bm, ns := N, qualname := q, hasDict := true, slotNames := sn, subclasses := sub, abstract := ab, collection := col, hasDel := false } := by unfold clsIn; rw [hC] <;> rfl
  refine ks_codeAny_call_defAt (fd := ksFn "__init__" qual (iA1 f p1 p2) (iB1 f a1 a2 a3 a4 a5 a6 b1 b2 b3 b4) (iS [f]) .none .none doc pm an (.ref cda) ct cc) (body := iB1 f a1 a2 a3 a4 a5 a6 b1 b2 b3 b4) (binds := [("self", .ref x), (f, v)]) hroom (X _ _ ho) rfl hlim (codeRec_of X hcd) rfl (BindsTo.of_eq (nf.bd ..)) (by
    intro y hy
    simp only [iS, List.map_cons, List.map_nil, List.cons_append, List.nil_append, List.mem_cons, List.not_mem_nil, or_false] at hy
    rcases hy with rfl | rfl | rfl | rfl <;> (intro z; cases z)) (by
    intro y hy
    simp only [List.mem_cons, List.not_mem_nil, or_false] at hy
    rcases hy with rfl | rfl
    · rfl
    · exact nf.l1) (fun h₁ hns hk₁ => ?_)
  have hLx : s.heap.objs.size ≠ x := Nat.ne_of_gt (Heap.lt_size hx)
  have X₁ : K.In h₁ := X.keeps hk₁
  have m1 : ([(("self" : Str), Value.ref x), (f, v)].reverse.lookup ("self" : Str)) = some (.ref x) := by
    simp [List.lookup, nf.ne']
  have m2 : ([(("self" : Str), Value.ref x), (f, v)].reverse.lookup f) = some v := by
    simp [List.lookup]
  show _root_.PySem.wpAt _ _ (.func _ (ksEnv qual (iS [f]) s.heap.objs.size fI (.ref cda) cc)) (execs (iB1 f a1 a2 a3 a4 a5 a6 b1 b2 b3 b4) (ksEnv qual (iS [f]) s.heap.objs.size fI (.ref cda) cc)) _ _ _
  unfold iB1
  refine ks_wpAt_execs_cons (ks_wpAt_Expr_any ?_)
  refine super_init (us := [v]) (mg := mg) (mb := mb) (ar := ⟨"self", none, p1⟩) (fd := ksFn "__init__" qual (iA1 f p1 p2) (iB1 f a1 a2 a3 a4 a5 a6 b1 b2 b3 b4) (iS [f]) .none .none doc pm an (.ref cda) ct cc) T X₁ hns m1 (hk₁ _ _ hx) (g1.keeps hk₁) g2 (bb1.keeps hk₁) bb2 ho rfl hcode hvs hfile hcell nf.l3 nf.l2 rfl rfl htop (by rw [sizeLine_eq]; exact (by decide : 1 ≤ 16777216)) (fun s' u Q k' hu hcall => ?_) (hev _ _ _) (fun h₂ t₂ tk₂ kk hx₂ sz => ?_)
  · refine callWith_mw (x := x) (args_cons (ld_loc rfl nf.l1 (hns.keeps k') m2 nf.db (args_nil ⟨hu, hcall⟩)))
  · refine ks_wpAt_execs_cons (ks_wpAt_Assign_Attr (wpAt_of_wpAny ?_))
    have hn₂ : h₂.Ns s.heap.objs.size (fun y => [(("self" : Str), Value.ref x), (f, v)].reverse.lookup y) := keep_ns hns hLx kk
    have X₂ : K.In h₂ := kept_but X₁ hnx kk
    refine ld_loc rfl nf.l1 hn₂ m2 nf.db (ld_loc rfl rfl hn₂ m1 (by decide) ?_)
    refine set_plain X₂ (ox := HandSPX.excO C t₂) (od := none) ⟨hx₂, rfl, rfl, trivial⟩ T.sa ?_
    refine HandSPX.exc_osa X₂ hx₂ hcl (show HandSPX.refsVE (.ref C :: bm) = true from hbm) rfl nof (fun h₃ tk₃ dx k₃ dn dne hx₃ hn₃ => ?_)
    refine wpAt_of_wpAny (wpAny_execs_nil ?_)
    refine hq h₃ tk₃ dx t₂ ⟨fun b o hb e => k₃ b o hb (kk b o hb (hk₁ b o e)), hx₃, ?_, dne, ?_⟩
    · have z1 : s.heap.objs.size < h₁.objs.size := hns.lt
      have z2 : h₁.objs.size ≤ h₂.objs.size := sz
      exact Nat.le_trans (Nat.le_trans (Nat.le_of_lt z1) z2) dn
    · have e : (fun y => if y = f then some v else none) = fun y => [(f, v)].lookup y := by
        funext y
        by_cases hy : y = f
        · subst hy
          simp [List.lookup]
        · have : (y == f) = false := by simpa using hy
          simp [List.lookup, hy, this]
      rw [e] at hn₃
      exact hn₃
end
end Ex

set_option Elab.async false
set_option linter.all false
set_option maxRecDepth 100000
set_option maxHeartbeats 2000000
/-! Own errors: __init__ of no field, of two fields. -/
namespace Ex
open PySem PySem.W PySem.Calls PyProof.Rows
def iA0 (p1 : Pos) : Arguments := { posonlyargs := [], args := [{ arg := "self", annotation := none, pos := p1 }], vararg := none, kwonlyargs := [], kw_defaults := [], kwarg := none, defaults := [] }
def iB0 (a1 a2 a3 a5 a6 : Pos) : List Stmt := [.Expr (.Call (.Attribute (.Call (.Name "super" a1) [] [] a2) "__init__" a3) [] [] a5) a6]
def iA2 (f g : Str) (p1 p2 p3 : Pos) : Arguments := { posonlyargs := [], args := [{ arg := "self", annotation := none, pos := p1 }, { arg := f, annotation := none, pos := p2 }, { arg := g, annotation := none, pos := p3 }], vararg := none, kwonlyargs := [], kw_defaults := [], kwarg := none, defaults := [] }
def iB2 (f g : Str) (a1 a2 a3 a4 a7 a5 a6 b1 b2 b3 b4 c1 c2 c3 c4 : Pos) : List Stmt := [.Expr (.Call (.Attribute (.Call (.Name "super" a1) [] [] a2) "__init__" a3) [.Name f a4, .Name g a7] [] a5) a6, .Assign [.Attribute (.Name "self" b1) f b2] (.Name f b3) b4, .Assign [.Attribute (.Name "self" c1) g c2] (.Name g c3) c4]
theorem bd0 (qual : Str) (p1 : Pos) (body : List Stmt) (doc pm : Value) (an : Option Addr) (cda : Addr) (ct : Value) (cc : Addr) (x : Value) : bindArgs (ksFn "__init__" qual (iA0 p1) body (iS []) .none .none doc pm an (.ref cda) ct cc) ⟨[x], []⟩ = pure [(("self" : Str), x)] := rfl
structure Nm2 (f g : Str) : Prop where
  nf : (("self" : Str) == f) = false
  ng : (("self" : Str) == g) = false
  fg : (f == g) = false
  gf : g ≠ f
  df : (f == ("__debug__" : Str)) = false
  dg : (g == ("__debug__" : Str)) = false
  lf : (iS [f, g]).names.lookup f = some .local
  lg : (iS [f, g]).names.lookup g = some .local
  l2 : (iS [f, g]).names.lookup ("__class__" : Str) = some .free
  l3 : (iS [f, g]).names.lookup ("super" : Str) = some .globalImplicit
  bd : ∀ (qual : Str) (p1 p2 p3 : Pos) (body : List Stmt) (doc pm : Value) (an : Option Addr) (cda : Addr) (ct : Value) (cc : Addr) (x v u : Value), bindArgs (ksFn "__init__" qual (iA2 f g p1 p2 p3) body (iS [f, g]) .none .none doc pm an (.ref cda) ct cc) ⟨[x, v, u], []⟩ = pure [(("self" : Str), x), (f, v), (g, u)]
theorem nm_un : Nm2 "address" "name" := ⟨by decide, by decide, by decide, by decide, by decide, by decide, by decide, by decide, by decide, by decide, by intros; rfl⟩
section
variable {prog : Program} {w : World} {A : Around} {E : Value → Shared → Prop} {R : Result → Shared → Prop} {s : Shared} {K : Frag} {C fI : Addr} {qual f g : Str}
theorem init0 {p1 a1 a2 a3 a5 a6 : Pos} (T : ClsX K C) (F1 : InitF prog K C fI qual (iA0 p1) (iB0 a1 a2 a3 a5 a6) (iS [])) (S : Spaces prog s.heap)
    (hev : ∀ (L cda cc : Addr), ∃ pl : Sem Bool, eval (.Call (.Attribute (.Call (.Name "super" a1) [] [] a2) "__init__" a3) [] [] a5) (ksEnv qual (iS []) L fI (.ref cda) cc) = (do
      let ov ← attributeBase (.Call (.Name "super" a1) [] [] a2) "__init__" (ksEnv qual (iS []) L fI (.ref cda) cc) (eval (.Call (.Name "super" a1) [] [] a2) (ksEnv qual (iS []) L fI (.ref cda) cc))
      standAt a3.atName
      let (g, first) ← holding [ov] (getMethod ov "__init__" pl)
      callWith a5 g first (backTo a5 (starEach [] (ksEnv qual (iS []) L fI (.ref cda) cc))) []))
    {x t0 : Addr} (X : K.In s.heap) (hlim : s.heap.NoLimit) (hx : s.heap.get? x = some (HandSPX.excO C t0)) (hnx : K.lookup x = none) (hroom : A.depth < recursionLimit)
    (hq : ∀ h' tk t1, InitEnd s.heap h' x C none t1 [] → R (.ok (.ret .none)) { s with heap := h', toks := tk }) :
    codeAny (model prog w) A (.call (.ref fI) ⟨[.ref x], []⟩) R s := by
  obtain ⟨oc, od, doc, pm, an, cda, cc, ct, osl, ccl, cdd, vs, ccs, file, tf, cl, cld, csl, ho, hcd, hcode, hvs, hfile, hcell⟩ := F1.fn
  obtain ⟨⟨mg, g1, g2⟩, ⟨mb, bb1, bb2⟩, htop⟩ := S
  refine ks_codeAny_call_defAt (fd := ksFn "__init__" qual (iA0 p1) (iB0 a1 a2 a3 a5 a6) (iS []) .none .none doc pm an (.ref cda) ct cc) (body := iB0 a1 a2 a3 a5 a6) (binds := [("self", .ref x)]) hroom (X _ _ ho) rfl hlim (codeRec_of X hcd) rfl (BindsTo.of_eq (bd0 ..)) (by
    intro y hy
    simp only [iS, List.map_nil, List.cons_append, List.nil_append, List.mem_cons, List.not_mem_nil, or_false] at hy
    rcases hy with rfl | rfl | rfl <;> (intro z; cases z)) (by
    intro y hy
    simp only [List.mem_cons, List.not_mem_nil, or_false] at hy
    subst hy
    rfl) (fun h₁ hns hk₁ => ?_)
  have X₁ : K.In h₁ := X.keeps hk₁
  show _root_.PySem.wpAt _ _ (.func _ (ksEnv qual (iS []) s.heap.objs.size fI (.ref cda) cc)) (execs (iB0 a1 a2 a3 a5 a6) (ksEnv qual (iS []) s.heap.objs.size fI (.ref cda) cc)) _ _ _
  unfold iB0
  refine ks_wpAt_execs_cons (ks_wpAt_Expr_any ?_)
  refine super_init (us := []) (mg := mg) (mb := mb) (ar := ⟨"self", none, p1⟩) (fd := ksFn "__init__" qual (iA0 p1) (iB0 a1 a2 a3 a5 a6) (iS []) .none .none doc pm an (.ref cda) ct cc) T X₁ hns rfl (hk₁ _ _ hx) (g1.keeps hk₁) g2 (bb1.keeps hk₁) bb2 ho rfl hcode hvs hfile hcell rfl rfl rfl rfl htop (by rw [sizeLine_eq]; exact (by decide : 0 ≤ 16777216)) (fun s' u Q k' hu hcall => ?_) (hev _ _ _) (fun h₂ t₂ tk₂ kk hx₂ sz => ?_)
  · exact kxs_callWith (i := "ValueError.__init__") (x := x) rfl (PyProof.Rows.evalArgs_none ⟨hu, hcall⟩)
  · refine wpAt_of_wpAny (wpAny_execs_nil ?_)
    exact hq h₂ tk₂ t₂ ⟨fun b o hb e => kk b o hb (hk₁ b o e), hx₂, rfl⟩
theorem init2 {p1 p2 p3 a1 a2 a3 a4 a7 a5 a6 b1 b2 b3 b4 c1 c2 c3 c4 : Pos} (T : ClsX K C) (F1 : InitF prog K C fI qual (iA2 f g p1 p2 p3) (iB2 f g a1 a2 a3 a4 a7 a5 a6 b1 b2 b3 b4 c1 c2 c3 c4) (iS [f, g])) (S : Spaces prog s.heap) (nof : findIn K (.ref C) f = some none) (nog : findIn K (.ref C) g = some none) (nn : Nm2 f g)
    (hev : ∀ (L cda cc : Addr), ∃ pl : Sem Bool, eval (.Call (.Attribute (.Call (.Name "super" a1) [] [] a2) "__init__" a3) [.Name f a4, .Name g a7] [] a5) (ksEnv qual (iS [f, g]) L fI (.ref cda) cc) = (do
      let ov ← attributeBase (.Call (.Name "super" a1) [] [] a2) "__init__" (ksEnv qual (iS [f, g]) L fI (.ref cda) cc) (eval (.Call (.Name "super" a1) [] [] a2) (ksEnv qual (iS [f, g]) L fI (.ref cda) cc))
      standAt a3.atName
      let (k, first) ← holding [ov] (getMethod ov "__init__" pl)
      callWith a5 k first (backTo a5 (starEach [.Name f a4, .Name g a7] (ksEnv qual (iS [f, g]) L fI (.ref cda) cc))) []))
    {x t0 : Addr} {v u : Value} (X : K.In s.heap) (hlim : s.heap.NoLimit) (hx : s.heap.get? x = some (HandSPX.excO C t0)) (hnx : K.lookup x = none) (hroom : A.depth < recursionLimit)
    (hq : ∀ h' tk dx t1, InitEnd s.heap h' x C (some dx) t1 [(g, u), (f, v)] → R (.ok (.ret .none)) { s with heap := h', toks := tk }) :
    codeAny (model prog w) A (.call (.ref fI) ⟨[.ref x, v, u], []⟩) R s := by
  obtain ⟨oc, od, doc, pm, an, cda, cc, ct, osl, ccl, cdd, vs, ccs, file, tf, cl, cld, csl, ho, hcd, hcode, hvs, hfile, hcell⟩ := F1.fn
  obtain ⟨⟨mg, g1, g2⟩, ⟨mb, bb1, bb2⟩, htop⟩ := S
  obtain ⟨nm, q, N, bs, bm, sn, sub, ab, col, dd, k0, k1, k2, k3, k5, hC, hbm⟩ := T.cls
  have hcl : clsIn K C = some { name := nm, bases := bs, mro := .ref C :: bm, ns := N, qualname := q, hasDict := true, slotNames := sn, subclasses := sub, abstract := ab, collection := col, hasDel := false } := by unfold clsIn; rw [hC] <;> rfl
  refine ks_codeAny_call_defAt (fd := ksFn "__init__" qual (iA2 f g p1 p2 p3) (iB2 f g a1 a2 a3 a4 a7 a5 a6 b1 b2 b3 b4 c1 c2 c3 c4) (iS [f, g]) .none .none doc pm an (.ref cda) ct cc) (body := iB2 f g a1 a2 a3 a4 a7 a5 a6 b1 b2 b3 b4 c1 c2 c3 c4) (binds := [("self", .ref x), (f, v), (g, u)]) hroom (X _ _ ho) rfl hlim (codeRec_of X hcd) rfl (BindsTo.of_eq (nn.bd ..)) (by
    intro y hy
    simp only [iS, List.map_cons, List.map_nil, List.cons_append, List.nil_append, List.mem_cons, List.not_mem_nil, or_false] at hy
    rcases hy with rfl | rfl | rfl | rfl | rfl <;> (intro z; cases z)) (by
    intro y hy
    simp only [List.mem_cons, List.not_mem_nil, or_false] at hy
    rcases hy with rfl | rfl | rfl
    · rfl
    · exact nn.lf
    · exact nn.lg) (fun h₁ hns hk₁ => ?_)
  have hLx : s.heap.objs.size ≠ x := Nat.ne_of_gt (Heap.lt_size hx)
  have X₁ : K.In h₁ := X.keeps hk₁
  have m1 : ([(("self" : Str), Value.ref x), (f, v), (g, u)].reverse.lookup ("self" : Str)) = some (.ref x) := by
    simp [List.lookup, nn.nf, nn.ng]
  have m2 : ([(("self" : Str), Value.ref x), (f, v), (g, u)].reverse.lookup f) = some v := by
    simp [List.lookup, nn.fg]
  have m3 : ([(("self" : Str), Value.ref x), (f, v), (g, u)].reverse.lookup g) = some u := by
    simp [List.lookup]
  show _root_.PySem.wpAt _ _ (.func _ (ksEnv qual (iS [f, g]) s.heap.objs.size fI (.ref cda) cc)) (execs (iB2 f g a1 a2 a3 a4 a7 a5 a6 b1 b2 b3 b4 c1 c2 c3 c4) (ksEnv qual (iS [f, g]) s.heap.objs.size fI (.ref cda) cc)) _ _ _
  unfold iB2
  refine ks_wpAt_execs_cons (ks_wpAt_Expr_any ?_)
  refine super_init (us := [v, u]) (mg := mg) (mb := mb) (ar := ⟨"self", none, p1⟩) (fd := ksFn "__init__" qual (iA2 f g p1 p2 p3) (iB2 f g a1 a2 a3 a4 a7 a5 a6 b1 b2 b3 b4 c1 c2 c3 c4) (iS [f, g]) .none .none doc pm an (.ref cda) ct cc) T X₁ hns m1 (hk₁ _ _ hx) (g1.keeps hk₁) g2 (bb1.keeps hk₁) bb2 ho rfl hcode hvs hfile hcell nn.l3 nn.l2 rfl rfl htop (by rw [sizeLine_eq]; exact (by decide : 2 ≤ 16777216)) (fun s' u Q k' hu hcall => ?_) (hev _ _ _) (fun h₂ t₂ tk₂ kk hx₂ sz => ?_)
  · refine callWith_mw (x := x) (args_cons (ld_loc rfl nn.lf (hns.keeps k') m2 nn.df (args_cons (ld_loc rfl nn.lg (hns.keeps k') m3 nn.dg (args_nil ⟨hu, hcall⟩)))))
  · refine ks_wpAt_execs_cons (ks_wpAt_Assign_Attr (wpAt_of_wpAny ?_))
    have hn₂ : h₂.Ns s.heap.objs.size (fun y => [(("self" : Str), Value.ref x), (f, v), (g, u)].reverse.lookup y) := keep_ns hns hLx kk
    have X₂ : K.In h₂ := kept_but X₁ hnx kk
    refine ld_loc rfl nn.lf hn₂ m2 nn.df (ld_loc rfl rfl hn₂ m1 (by decide) ?_)
    refine set_plain X₂ (ox := HandSPX.excO C t₂) (od := none) ⟨hx₂, rfl, rfl, trivial⟩ T.sa ?_
    refine HandSPX.exc_osa X₂ hx₂ hcl (show HandSPX.refsVE (.ref C :: bm) = true from hbm) rfl nof (fun h₃ tk₃ dx k₃ dn dne hx₃ hn₃ => ?_)
    have X₃ : K.In h₃ := kept_but X₂ hnx k₃
    have hn₃' : h₃.Ns s.heap.objs.size (fun y => [(("self" : Str), Value.ref x), (f, v), (g, u)].reverse.lookup y) := keep_ns hn₂ hLx k₃
    have z1 : s.heap.objs.size < h₁.objs.size := hns.lt
    have zd : s.heap.objs.size ≤ dx := Nat.le_trans (Nat.le_trans (Nat.le_of_lt z1) sz) dn
    have zd' : h₂.objs.size ≤ dx := dn
    refine ks_wpAt_execs_cons (ks_wpAt_Assign_Attr (wpAt_of_wpAny ?_))
    refine ld_loc rfl nn.lg hn₃' m3 nn.dg (ld_loc rfl rfl hn₃' m1 (by decide) ?_)
    obtain ⟨oD, esD, epD, hoD, hdD, _⟩ := hn₃.count (ns := [f]) (fun y hy => by
      by_cases z : y = f
      · simp [z]
      · simp [z] at hy)
    refine set_plain X₃ (ox := { cls := .ref C, dict := some dx, data := .fields #[.ref t₂, .none, .none, .none, .bool false, .none] }) (od := some oD) ⟨hx₃, rfl, rfl, hoD⟩ T.sa ?_
    refine OEX.osa_old (nl := [f]) X₃ hx₃ hn₃ (fun y hy => by
      by_cases z : y = f
      · simp [z]
      · simp [z] at hy) (by simp) hcl (show HandSPX.refsVE (.ref C :: bm) = true from hbm) rfl nog (fun h₄ tk₄ k₄ hn₄ => ?_)
    refine wpAt_of_wpAny (wpAny_execs_nil ?_)
    have old : ∀ b o, s.heap.get? b = some o → b ≠ dx := fun b o e z => by
      have z2 : b < s.heap.objs.size := Heap.lt_size e
      rw [z] at z2
      exact absurd zd (Nat.not_le_of_lt z2)
    refine hq h₄ tk₄ dx t₂ ⟨fun b o hb e => k₄ b o (old b o e) (k₃ b o hb (kk b o hb (hk₁ b o e))), k₄ _ _ dne.symm hx₃, zd, dne, ?_⟩
    have e : (fun y => if y = g then some u else if y = f then some v else none) = fun y => [(g, u), (f, v)].lookup y := by
      funext y
      by_cases hy : y = g
      · subst hy
        simp [List.lookup]
      · have h1 : (y == g) = false := by simpa using hy
        by_cases hf : y = f
        · subst hf
          simp [List.lookup, hy, h1]
        · have h2 : (y == f) = false := by simpa using hf
          simp [List.lookup, hy, h1, hf, h2]
    rw [e] at hn₄
    exact hn₄
end
end Ex

set_option Elab.async false
set_option linter.all false
set_option maxRecDepth 100000
set_option maxHeartbeats 2000000
/-! Own errors: made, as an expression. -/
namespace Ex
open PySem PySem.W PySem.Calls PyProof.Rows
/-- __init__ called with us stores fs -/
def InitOk (prog : Program) (w : World) (K : Frag) (C fI : Addr) (us : List Value) (fs : List (Str × Value)) (hasD : Bool) : Prop :=
  ∀ {A : Around} {R : Result → Shared → Prop} {s : Shared} {x t0 : Addr}, K.In s.heap → Spaces prog s.heap → s.heap.NoLimit → s.heap.get? x = some (HandSPX.excO C t0) → K.lookup x = none → A.depth < recursionLimit →
    (∀ h' tk (dx : Option Addr) t1, dx.isSome = hasD → InitEnd s.heap h' x C dx t1 fs → R (.ok (.ret .none)) { s with heap := h', toks := tk }) → codeAny (model prog w) A (.call (.ref fI) ⟨.ref x :: us, []⟩) R s
/-- a made error -/
structure OwnMade (h h' : Heap) (e C : Addr) (d : Option Addr) (fs : List (Str × Value)) : Prop where
  keep : ∀ b o, h.get? b = some o → h'.get? b = some o
  new : h.objs.size ≤ e
  obj : ∃ oe vs, h'.get? e = some oe ∧ oe.cls = .ref C ∧ oe.dict = d ∧ oe.data = .fields vs ∧ vs[1]? = some .none ∧ vs[2]? = some .none
  dx : match d with
    | some d => h.objs.size ≤ d ∧ d ≠ e ∧ h'.Ns1 d (fun y => fs.lookup y)
    | none => fs = []
section
variable {prog : Program} {w : World} {A : Around} {R : Result → Shared → Prop} {s : Shared} {K : Frag} {C fI : Addr} {us : List Value} {fs : List (Str × Value)} {hasD : Bool}
theorem made (T : ClsX K C) (iC : findIn K (.ref C) "__init__" = some (some (.ref fI))) (tI : typeIn K (.ref fI) = some (.type "function")) (hi : InitOk prog w K C fI us fs hasD) (X : K.In s.heap) (S : Spaces prog s.heap) (hlim : s.heap.NoLimit) (hroom : A.depth + 1 < recursionLimit) (hz : us.length ≤ sizeLine)
    (hq : ∀ h' tk e d, d.isSome = hasD → OwnMade s.heap h' e C d fs → R (.ok (.ret (.ref e))) { s with heap := h', toks := tk }) :
    codeAny (model prog w) A (.call (.ref C) ⟨us, []⟩) R s := by
  obtain ⟨nm, q, N, bs, bm, sn, sub, ab, col, dd, k0, k1, k2, k3, k5, hC, hbm⟩ := T.cls
  obtain ⟨hp, g, dr, tk, os⟩ := s
  have k : ∀ b o, hp.get? b = some o → ((hp.push (kdv_tup us)).push (HandSPX.excO C hp.objs.size)).get? b = some o := fun b o e => Heap.get?_push_of_some _ (Heap.get?_push_of_some _ e)
  have hget : ((hp.push (kdv_tup us)).push (HandSPX.excO C hp.objs.size)).get? (hp.objs.size + 1) = some (HandSPX.excO C hp.objs.size) := by heap_get
  have hnx : K.lookup (hp.objs.size + 1) = none := by
    cases e : K.lookup (hp.objs.size + 1) with
    | none => rfl
    | some o =>
      have z : hp.get? (hp.objs.size + 1) = some o := X _ _ e
      exact absurd (Nat.lt_of_succ_lt (Heap.lt_size z)) (Nat.lt_irrefl _)
  refine HandSPX.call_own F.excBase_ValueError (fun X => HandSPX.refsVE_contains X bm hbm) (X _ _ hC) (looks_findIn X iC) (fun self => bind_fn X self tI) hz ?_
  refine hi (s := ⟨(hp.push (kdv_tup us)).push (HandSPX.excO C hp.objs.size), g, dr, tk, os⟩) (X.keeps k) (S.keeps k) (hlim.keeps k) hget hnx ?_ fun h' tk' dx t1 hdx E => ?_
  · show A.depth + 1 < recursionLimit
    exact hroom
  · have old : ∀ b o, hp.get? b = some o → h'.get? b = some o := fun b o e => E.keep b o (Nat.ne_of_lt (Nat.lt_succ_of_lt (Heap.lt_size e))) (k b o e)
    refine ⟨rfl, hq h' tk' (hp.objs.size + 1) dx hdx ⟨old, Nat.le_succ _, ⟨_, _, E.obj, rfl, rfl, rfl, rfl, rfl⟩, ?_⟩⟩
    have hd := E.dx
    cases dx with
    | none => exact hd
    | some d =>
      obtain ⟨h1, h2, h3⟩ := hd
      refine ⟨?_, h2, h3⟩
      have z : hp.objs.size + 1 + 1 ≤ d := by
        first
          | (simpa only [Heap.size_push] using h1)
          | exact h1
          | (have q := h1; rw [Heap.size_push, Heap.size_push] at q; exact q)
      exact Nat.le_trans (Nat.le_trans (Nat.le_succ _) (Nat.le_succ _)) z
end
end Ex

set_option Elab.async false
set_option linter.all false
set_option maxRecDepth 100000
set_option maxHeartbeats 2000000
/-! Own errors: made, as a rule of the hand layer. -/
namespace Ex
open PySem PySem.Spec PySem.Calls PyProof.Rows L2
theorem relO_rev {ps : List (Str × V)} {qs : List (Str × Value)} : ∀ {ns : List Str} {vs : List V} {us : List Value}, Vals vs us → (∀ f, RelO (ps.lookup f) (qs.lookup f)) → ∀ f, RelO (((ns.zip vs).reverse ++ ps).lookup f) (((ns.zip us).reverse ++ qs).lookup f)
  | [], _, _, _, h, f => by simpa using h f
  | n :: ns, [], [], .nil, h, f => by simpa using h f
  | n :: ns, v :: vs, u :: us, .cons r t, h, f => by
    have z := relO_rev (ps := (n, v) :: ps) (qs := (n, u) :: qs) (ns := ns) t (fun g => by
      by_cases hg : g = n
      · subst hg
        simp only [List.lookup, beq_self_eq_true]
        exact r
      · have : (g == n) = false := by simpa using hg
        simpa [List.lookup, this] using h g) f
    simpa using z
theorem relO_zip {ns : List Str} {vs : List V} {us : List Value} (h : Vals vs us) (f : Str) : RelO ((ns.zip vs).reverse.lookup f) ((ns.zip us).reverse.lookup f) := by
  have z := relO_rev (ps := []) (qs := []) (ns := ns) h (fun g => trivial) f
  simpa using z
/-- an own error class, as the module knows it -/
structure Own (prog : Program) (w : World) (K : PySem.W.Frag) (mg : Str → Option Value) (nm : Str) (C fI : Addr) (names : List Str) : Prop where
  T : ClsX K C
  gC : mg nm = some (.ref C)
  iC : PySem.W.findIn K (.ref C) "__init__" = some (some (.ref fI))
  tI : PySem.W.typeIn K (.ref fI) = some (.type "function")
  sup : mg "super" = none
  top : (prog.main.scope.names.lookup ("super" : Str)).isSome = false
  init : ∀ us : List Value, us.length = names.length → InitOk prog w K C fI us (names.zip us).reverse (!names.isEmpty)
section
variable {X : Cx} {C fI : Addr} {nm : Str} {names : List Str}
theorem spaces {pins : List (Addr × Obj)} {σ : L2.St} {H : Hp} {s : Shared} (I : Inv X pins σ H s) (hm : X.mg "super" = none) (ht : (X.prog.main.scope.names.lookup ("super" : Str)).isSome = false) : Spaces X.prog s.heap := by
  obtain ⟨mb, h1, h2⟩ := I.mod.blt
  exact ⟨⟨X.mg, I.mod.glob.keeps I.bk, hm⟩, ⟨mb, h1.keeps I.bk, (h2 "super" (by decide)).trans (by decide +kernel)⟩, ht⟩
/-- nm(a, ..) -/
def tMkX (C : Addr) (names : List Str) (ta : TA) : L2.St → Hp → XK → Prop := fun σ H Q => ta σ H fun vs H1 => vs.length = names.length ∧ vs.length ≤ 1000 ∧ ∀ d, H1 d = none → Q (.ref C) (some d) (upd H1 d (.xd (names.zip vs).reverse))
theorem own_end {pins : List (Addr × Obj)} {σ : L2.St} {H1 : Hp} {hp h' : Heap} {g : Array GenState} {dr : Drawn} {tk tk' : Nat} {os : OsState} {e : Addr} {d : Option Addr} {us : List Value} {vs : List V} {Q : XK} (O : Own X.prog X.w X.K X.mg nm C fI names) (I1 : Inv X pins σ H1 ⟨hp, g, dr, tk, os⟩) (r1 : Vals vs us) (hdx : d.isSome = !names.isEmpty) (M : OwnMade hp h' e C d (names.zip us).reverse)
    (q0 : names.isEmpty = true → Q (.ref C) none H1) (q1 : names.isEmpty = false → ∀ d, H1 d = none → Q (.ref C) (some d) (upd H1 d (.xd (names.zip vs).reverse))) : L2N.MkP X pins σ Q (.ref e) ⟨h', g, dr, tk', os⟩ := by
  obtain ⟨oe, fv, hoe, hc, hd, hdat, h1, h2⟩ := M.obj
  have zn : L2N.Zn (.ref C) d oe := ⟨hc, hd, fun vs' q => by rw [hdat] at q; cases q; exact h2⟩
  obtain ⟨G', g1, g2⟩ := restrict h' fun b => decide (b ≠ e)
  have gk : ∀ b, b ≠ e → G'.get? b = h'.get? b := fun b hb => g1 b (decide_eq_true hb)
  have ge : G'.get? e = none := g2 e (by simp)
  have old : ∀ b o, hp.get? b = some o → G'.get? b = some o := fun b o q => (gk b (Nat.ne_of_lt (Nat.lt_of_lt_of_le (Heap.lt_size q) M.new))).trans (M.keep b o q)
  have up : ∀ b o, G'.get? b = some o → h'.get? b = some o := fun b o q => by
    by_cases hb : b = e
    · rw [hb, ge] at q; cases q
    · exact (gk b hb).symm.trans q
  cases hn : names.isEmpty with
  | true =>
    rw [hn] at hdx
    cases d with
    | some d => cases hdx
    | none =>
      have J : Inv X pins σ H1 ⟨G', g, dr, tk', os⟩ := I1.kept (t' := tk') old
      exact ⟨e, oe, fv, ⟨G', g, dr, tk', os⟩, H1, .ref C, none, rfl, J, up, ge, hoe, zn, hdat, h1, I1.hok.fresh M.new, rfl, I1.bare, raises_own O.T.exC O.T.tyC, q0 hn⟩
  | false =>
    rw [hn] at hdx
    cases d with
    | none => cases hdx
    | some d =>
      obtain ⟨dbig, dne, hns⟩ := M.dx
      have ob : ObjOk X.prog X.w (upd H1 d (.xd (names.zip vs).reverse)) G' d (.xd (names.zip vs).reverse) :=
        ⟨_, hns.at (fun o q => (gk d dne).trans q), fun f => relO_zip r1 f⟩
      have J : Inv X pins σ (upd H1 d (.xd (names.zip vs).reverse)) ⟨G', g, dr, tk', os⟩ := I1.laid (t' := tk') old dbig ob
      refine ⟨e, oe, fv, ⟨G', g, dr, tk', os⟩, _, .ref C, some d, rfl, J, up, ge, hoe, zn, hdat, h1, ?_, rfl, I1.bare, raises_own O.T.exC O.T.tyC, q1 hn d (I1.hok.fresh dbig)⟩
      rw [upd_ne (Ne.symm dne)]
      exact I1.hok.fresh M.new
theorem pmk_own {a : Expr} {as : List Expr} {ta : TA} {p pos : Pos} {k : Nat} (O : Own X.prog X.w X.K X.mg nm C fI names) (hne : names.isEmpty = false) (hr : Room k X.A) (ha : PA X (a :: as) ta) (hg : Gl X nm := by rfl)
    (he : starEach (a :: as) X.env = (false, eval a X.env) :: starEach as X.env := by rfl) (hpl : (backTo pos (starEach as X.env)).any (·.1) = false := by rfl) (hd : (nm == ("__debug__" : Str)) = false := by decide) :
    L2N.PMk X (.Call (.Name nm p) (a :: as) [] pos) (tMkX C names ta) := by
  intro pins s σ H Q I h
  refine wpAny_Call_Name_kw (ld_glob I hg O.gC ?_ hd)
  refine PySem.W.callWith_K (h₀ := X.base) I.ok.mod.kin O.T.kC (thn (ha.run pos pins s σ H _ I h) fun us s1 hh => ?_) he hpl
  obtain ⟨vs, H1, I1, r1, hl, hz, q1⟩ := hh
  refine ⟨I1.kIn, ?_⟩
  show wpAny _ _ (call (.ref C) us) _ _ _
  have hlim := I1.nolimit
  have S := spaces I1 O.sup O.top
  have hlu : us.length = names.length := by rw [← r1.length]; exact hl
  obtain ⟨hp, g, dr, tk, os⟩ := s1
  refine wpAny_call (made O.T O.iC O.tI (O.init us hlu) I1.kIn S hlim (by have := hr.dp; omega) (by rw [sizeLine_eq, hlu]; omega) fun h' tk' e d hdx M => ?_)
  exact own_end O I1 r1 hdx M (fun z => absurd (hne.symm.trans z) Bool.false_ne_true) fun _ => q1
/-- nm() -/
theorem pmk_own0 {p pos : Pos} {k : Nat} (O : Own X.prog X.w X.K X.mg nm C fI []) (hr : Room k X.A) (hg : Gl X nm := by rfl) (hd : (nm == ("__debug__" : Str)) = false := by decide) :
    L2N.PMk X (.Call (.Name nm p) [] [] pos) (fun _ H Q => Q (.ref C) none H) := by
  intro pins s σ H Q I h
  refine wpAny_Call_Name_kw (ld_glob I hg O.gC ?_ hd)
  refine PySem.W.callWith_K0 (first := []) I.kIn O.T.kC ?_
  show wpAny _ _ (call (.ref C) []) _ _ _
  have hlim := I.nolimit
  have S := spaces I O.sup O.top
  obtain ⟨hp, g, dr, tk, os⟩ := s
  refine wpAny_call (made O.T O.iC O.tI (O.init [] rfl) I.kIn S hlim (by have := hr.dp; omega) (by simp) fun h' tk' e d hdx M => ?_)
  exact own_end (us := []) (vs := []) O I .nil hdx M (fun _ => h) fun z => nomatch z
end
end Ex

set_option Elab.async false
set_option linter.all false
set_option maxRecDepth 100000
set_option maxHeartbeats 4000000
/-! Layer Dy, part E: mirrors that may raise. -/
namespace Dy
open PySem PySem.Spec PyProof.Rows L2
/-- a raised own error: its class, its fields -/
structure XV where
  C : Addr
  ns : List Str
  ds : List SV
def XRr (K : PySem.W.Frag) (H0 Hk H : Hp) (ls : List Addr) (cls : Value) (d : Option Addr) (x : XV) : Prop :=
  cls = .ref x.C ∧ ((d = none ∧ x.ns = [] ∧ x.ds = []) ∨ ∃ dd vs, d = some dd ∧ H dd = some (.xd (x.ns.zip vs).reverse) ∧ SVs K Hk ls ls.length vs x.ds ∧ dd ∉ ls ∧ Hk dd = none ∧ H0 dd = none)
theorem XRr.backS {K : PySem.W.Frag} {H H1 Hk Hk1 Hk' H' : Hp} {ls ls1 ls' : List Addr} {cls : Value} {d : Option Addr} {x : XV} (e : ExtS ls ls1 Hk H Hk1 H1) (h : XRr K H1 Hk' H' ls' cls d x) : XRr K H Hk' H' ls' cls d x := by
  obtain ⟨h1, h2 | ⟨dd, vs, a1, a2, a3, a4, a5, a6⟩⟩ := h
  · exact ⟨h1, .inl h2⟩
  · exact ⟨h1, .inr ⟨dd, vs, a1, a2, a3, a4, a5, e.back a6⟩⟩
inductive OX where
  | o (out : Out) | x (v : XV) (ρ : Env) (M : MS)
abbrev SX := Env → MS → Option OX
def OXR (K : PySem.W.Frag) (ls : List Addr) (Hk H : Hp) (W : WX) (E : Ends) : OX → Prop
  | .o out => OutR K ls Hk H E out
  | .x v ρ' M' => ∀ cls d σ' Hk' H' ls', World K Hk' H' M' ls' → ExtS ls ls' Hk H Hk' H' → EnvR K Hk' ls' σ' ρ' → XRr K H Hk' H' ls' cls d v → W cls d σ' H'
def tSX (K : PySem.W.Frag) (W : WX) (m : SX) : TS := fun E σ H => ∃ Hk ls ρ M o, World K Hk H M ls ∧ EnvR K Hk ls σ ρ ∧ m ρ M = some o ∧ OXR K ls Hk H W E o
abbrev PSX (X : Cx) (W : WX) (st : Stmt) (m : SX) : Prop := PS X st (tSX X.K W m)
abbrev PSsX (X : Cx) (W : WX) (st : List Stmt) (m : SX) : Prop := PSs X st (tSX X.K W m)
theorem OXR.back {K : PySem.W.Frag} {ls ls1 : List Addr} {Hk H Hk1 H1 : Hp} {W : WX} {E : Ends} {o : OX} (x : ExtS ls ls1 Hk H Hk1 H1) (h : OXR K ls Hk H W E o) : OXR K ls1 Hk1 H1 W E o := by
  cases o with
  | o out => exact OutR.back x h
  | x v ρ M => exact fun cls d σ' Hk' H' ls' w' x' e' r' => h cls d σ' Hk' H' ls' w' (x.trans x') e' (r'.backS x)
/-! ### expressions -/
inductive RX where
  | r (r : R) | x (v : XV)
abbrev EX := Env → MS → Option (RX × MS)
def RXR (K : PySem.W.Frag) (ls : List Addr) (Hk H : Hp) (M' : MS) (E : XK) (Q : VK) : RX → Prop
  | .r r => Res K ls Hk H r M' Q
  | .x v => ∀ cls d Hk' H', World K Hk' H' M' ls → Ext ls Hk H Hk' H' → XRr K H Hk' H' ls cls d v → E cls d H'
def tMX (K : PySem.W.Frag) (W : WX) (m : EX) : TE := fun σ H Q => ∃ Hk ls ρ M o M', World K Hk H M ls ∧ EnvR K Hk ls σ ρ ∧ m ρ M = some (o, M') ∧ RXR K ls Hk H M' (fun cls d H' => W cls d σ H') Q o
abbrev PMX (X : Cx) (W : WX) (e : Expr) (m : EX) : Prop := PE X e (tMX X.K W m)
def liftE (m : EM R) : EX := fun ρ M => match m ρ M with
  | some (r, M') => some (.r r, M')
  | none => none
def liftS (m : SM) : SX := fun ρ M => match m ρ M with
  | some o => some (.o o)
  | none => none
section
variable {X : Cx} {W : WX} {st : Stmt} {rest : List Stmt} {e c : Expr} {m : SM} {me : EM R} {mx m1 m2 : SX} {mex : EX} {mc : EM Bool} {pos : Pos}
theorem pmx_lift (h : PM X e me) : PMX X W e (liftE me) := PE.imp h fun σ H Q ⟨Hk, ls, ρ, M, o, M', w, en, hm, q⟩ => by
  unfold liftE at hm
  cases hr : me ρ M with
  | none => rw [hr] at hm; cases hm
  | some p =>
    obtain ⟨r, M1⟩ := p
    rw [hr] at hm
    cases hm
    exact ⟨Hk, ls, ρ, M, r, _, w, en, hr, q⟩
theorem psx_lift (h : PSm X st m) : PSX X W st (liftS m) := PS.imp h fun E σ H ⟨Hk, ls, ρ, M, o, w, en, hm, q⟩ => by
  unfold liftS at hm
  cases hr : m ρ M with
  | none => rw [hr] at hm; cases hm
  | some p =>
    rw [hr] at hm
    cases hm
    exact ⟨Hk, ls, ρ, M, p, w, en, hr, q⟩
theorem pssx_lift {sts : List Stmt} (h : PSsm X sts m) : PSsX X W sts (liftS m) := PSs.imp h fun E σ H ⟨Hk, ls, ρ, M, o, w, en, hm, q⟩ => by
  unfold liftS at hm
  cases hr : m ρ M with
  | none => rw [hr] at hm; cases hm
  | some p =>
    rw [hr] at hm
    cases hm
    exact ⟨Hk, ls, ρ, M, p, w, en, hr, q⟩
def xSeq (m1 m2 : SX) : SX := fun ρ M => match m1 ρ M with
  | some (.o (.nx ρ' M')) => m2 ρ' M'
  | o => o
theorem psx_one (h1 : PSX X W st m1) : PSsX X W [st] m1 := pss_one h1
theorem psx_cons (h1 : PSX X W st m1) (h2 : PSsX X W rest m2) : PSsX X W (st :: rest) (xSeq m1 m2) := PSs.imp (pss_cons h1 h2) fun E σ H ⟨Hk, ls, ρ, M, o, w, en, hm, q⟩ => by
  unfold xSeq at hm
  cases h : m1 ρ M with
  | none => rw [h] at hm; cases hm
  | some o1 =>
    rw [h] at hm
    refine ⟨Hk, ls, ρ, M, o1, w, en, h, ?_⟩
    cases o1 with
    | x v ρ' M' => cases hm; exact q
    | o out =>
      cases out with
      | nx ρ' M' => exact fun σ' Hk' H' ls' w' x' en' => ⟨Hk', ls', ρ', M', o, w', en', hm, q.back x'⟩
      | rt r M' => cases hm; exact q
      | bk ρ' M' => cases hm; exact q
      | ct ρ' M' => cases hm; exact q
def xIf (c : EM Bool) (m1 m2 : SX) : SX := fun ρ M => match c ρ M with
  | some (true, M') => m1 ρ M'
  | some (false, M') => m2 ρ M'
  | none => none
theorem psx_if {a b : List Stmt} (hc : PTm X c mc) (ha : PSsX X W a m1) (hb : PSsX X W b m2) : PSX X W (.If c a b pos) (xIf mc m1 m2) := PS.imp (ps_if hc ha hb) fun E σ H ⟨Hk, ls, ρ, M, o, w, en, hm, q⟩ => by
  unfold xIf at hm
  cases hr : mc ρ M with
  | none => rw [hr] at hm; cases hm
  | some p =>
    obtain ⟨k, M'⟩ := p
    rw [hr] at hm
    refine ⟨Hk, ls, ρ, M, k, M', w, en, hr, fun Hk' H' w' x' => ?_⟩
    cases k with
    | true => exact ⟨Hk', ls, ρ, M', o, w', en.mono x'.kk, hm, q.back x'.s⟩
    | false => exact ⟨Hk', ls, ρ, M', o, w', en.mono x'.kk, hm, q.back x'.s⟩
/-- return e -/
def xRet (me : EX) : SX := fun ρ M => match me ρ M with
  | some (.r r, M') => some (.o (.rt r M'))
  | some (.x v, M') => some (.x v ρ M')
  | none => none
theorem psx_ret (h : PMX X W e mex) : PSX X W (.Return (some e) pos) (xRet mex) := PS.imp (ps_ret h) fun E σ H ⟨Hk, ls, ρ, M, o, w, en, hm, q⟩ => by
  unfold xRet at hm
  cases hr : mex ρ M with
  | none => rw [hr] at hm; cases hm
  | some p =>
    obtain ⟨r, M'⟩ := p
    rw [hr] at hm
    refine ⟨Hk, ls, ρ, M, r, M', w, en, hr, ?_⟩
    cases r with
    | r r => cases hm; exact fun v Hk' H' w' x' r' => q v Hk' H' ls w' x'.s r'
    | x v => cases hm; exact fun cls d Hk' H' w' x' r' => q cls d σ Hk' H' ls w' x'.s (en.mono x'.kk) r'
def xExpr (me : EX) : SX := fun ρ M => match me ρ M with
  | some (.r _, M') => some (.o (.nx ρ M'))
  | some (.x v, M') => some (.x v ρ M')
  | none => none
theorem psx_expr (h : PMX X W e mex) (hs : swapsWith e none pos.line X.env = pure false := by rfl) : PSX X W (.Expr e pos) (xExpr mex) := PS.imp (ps_expr h hs) fun E σ H ⟨Hk, ls, ρ, M, o, w, en, hm, q⟩ => by
  unfold xExpr at hm
  cases hr : mex ρ M with
  | none => rw [hr] at hm; cases hm
  | some p =>
    obtain ⟨r, M'⟩ := p
    rw [hr] at hm
    refine ⟨Hk, ls, ρ, M, r, M', w, en, hr, ?_⟩
    cases r with
    | r r => cases hm; exact fun v Hk' H' w' x' r' => q σ Hk' H' ls w' x'.s (en.mono x'.kk)
    | x v => cases hm; exact fun cls d Hk' H' w' x' r' => q cls d σ Hk' H' ls w' x'.s (en.mono x'.kk) r'
def xSet (i : Nat) (me : EX) : SX := fun ρ M => match me ρ M with
  | some (.r r, M') => some (.o (.nx (ρ.set i (some r.toSV)) M'))
  | some (.x v, M') => some (.x v ρ M')
  | none => none
theorem psx_set {i : Nat} (h : PS X st (tAsg (tMX X.K W mex) (gName i))) : PSX X W st (xSet i mex) := PS.imp h fun E σ H ⟨Hk, ls, ρ, M, o, w, en, hm, q⟩ => by
  unfold xSet at hm
  cases hr : mex ρ M with
  | none => rw [hr] at hm; cases hm
  | some p =>
    obtain ⟨r, M'⟩ := p
    rw [hr] at hm
    refine ⟨Hk, ls, ρ, M, r, M', w, en, hr, ?_⟩
    cases r with
    | r r =>
      cases hm
      exact fun v Hk' H' w' x' r' => by
        obtain ⟨Hk2, w2, x2, s2⟩ := r'.freeze w' x'
        exact q _ Hk2 H' ls w2 x2.s ((en.mono x2.kk).set s2)
    | x v => cases hm; exact fun cls d Hk' H' w' x' r' => q cls d σ Hk' H' ls w' x'.s (en.mono x'.kk) r'
/-! ### raise -/
def xRaise (C : Addr) (names : List Str) (ms : EM (List SV)) : SX := fun ρ M => match ms ρ M with
  | some (ss, M') => if ss.length = names.length ∧ ss.length ≤ 1000 then some (.x ⟨C, names, ss⟩ ρ M') else none
  | none => none
theorem psx_raise {nm : Str} {C fI : Addr} {names : List Str} {a : Expr} {as : List Expr} {ms : EM (List SV)} {p cpos : Pos} {k : Nat} (hc : X.calm = true) (tk : L2N.Takes X W) (O : Ex.Own X.prog X.w X.K X.mg nm C fI names) (hne : names.isEmpty = false) (hr : Room k X.A) (ha : PAm X (a :: as) ms) (hg : Gl X nm := by rfl)
    (he : starEach (a :: as) X.env = (false, eval a X.env) :: starEach as X.env := by rfl) (hpl : (backTo cpos (starEach as X.env)).any (·.1) = false := by rfl) (hd : (nm == ("__debug__" : Str)) = false := by decide) :
    PSX X W (.Raise (some (.Call (.Name nm p) (a :: as) [] cpos)) none pos) (xRaise C names ms) := PS.imp (L2N.ps_raise hc tk (Ex.pmk_own O hne hr ha hg he hpl hd)) fun E σ H ⟨Hk, ls, ρ, M, o, w, en, hm, q⟩ => by
  unfold xRaise at hm
  cases hr : ms ρ M with
  | none => rw [hr] at hm; cases hm
  | some p =>
    obtain ⟨ss, M'⟩ := p
    rw [hr] at hm
    simp only at hm
    split at hm
    · rename_i hz
      cases hm
      refine ⟨Hk, ls, ρ, M, ss, M', w, en, hr, fun vs Hk1 H1 w1 x1 r1 => ?_⟩
      refine ⟨by rw [r1.length]; exact hz.1, by rw [r1.length]; exact hz.2, fun dd hdd => ?_⟩
      obtain ⟨f1, f2⟩ := w1.fresh hdd
      exact q _ _ σ Hk1 _ ls (w1.upd_new hdd) (x1.trans (Ext.upd_new hdd)).s (en.mono x1.kk) ⟨rfl, .inr ⟨dd, vs, rfl, upd_same, r1, f2, f1, x1.s.back hdd⟩⟩
    · cases hm
def xRaise0 (C : Addr) : SX := fun ρ M => some (.x ⟨C, [], []⟩ ρ M)
theorem psx_raise0 {nm : Str} {C fI : Addr} {p cpos : Pos} {k : Nat} (hc : X.calm = true) (tk : L2N.Takes X W) (O : Ex.Own X.prog X.w X.K X.mg nm C fI []) (hr : Room k X.A) (hg : Gl X nm := by rfl) (hd : (nm == ("__debug__" : Str)) = false := by decide) :
    PSX X W (.Raise (some (.Call (.Name nm p) [] [] cpos)) none pos) (xRaise0 C) := PS.imp (L2N.ps_raise hc tk (Ex.pmk_own0 O hr hg hd)) fun E σ H ⟨Hk, ls, ρ, M, o, w, en, hm, q⟩ => by
  cases hm
  exact q _ _ σ Hk H ls w (ExtS.refl _ _ _) en ⟨rfl, .inl ⟨rfl, rfl, rfl⟩⟩
/-! ### calls of defs that may raise -/
abbrev FnX := List SV → MS → Option (RX × MS)
def spX (K : PySem.W.Frag) (n : Nat) (f : FnX) : Sp := fun vs H Q E => ∃ Hk ls M ss o M', World K Hk H M ls ∧ SVs K Hk ls ls.length vs ss ∧ ss.length = n ∧ f ss M = some (o, M') ∧ RXR K ls Hk H M' E Q o
def eFnX (f : FnX) (ms : EM (List SV)) : EX := fun ρ M => match ms ρ M with
  | some (ss, M') => f ss M'
  | none => none
theorem RXR.back {K : PySem.W.Frag} {ls : List Addr} {Hk H Hk1 H1 : Hp} {M' : MS} {E : XK} {Q : VK} {o : RX} (x : Ext ls Hk H Hk1 H1) (h : RXR K ls Hk H M' E Q o) : RXR K ls Hk1 H1 M' E Q o := by
  cases o with
  | r r => exact Res.back x h
  | x v => exact fun cls d Hk' H' w' x' r' => h cls d Hk' H' w' (x.trans x') (r'.backS x.s)
theorem pe_callX {CX : CXT} {k : Nat} {f : Addr} {fd : FuncData} {ps : List Str} {sp : Sp} {E : L2.St → XK} {x : Str} {p : Pos} {es : List Expr} {t : TA} (F : FnG X.prog X.w X.K X.mg X.base CX k f fd ps sp) (hgd : X.A.guards = some []) (hr : Room k X.A) (hg : Gl X x) (hm : X.mg x = some (.ref f)) (hk : PySem.W.keepIn X.K (.ref f) = true) (hb : Binds X.K fd ps []) (hx : ∀ σ, PassesAt CX X σ (E σ))
    (ha : PA X (e :: es) t) (hdb : (x == ("__debug__" : Str)) = false := by decide) (he : starEach (e :: es) X.env = (false, eval e X.env) :: starEach es X.env := by rfl) (hpl : (backTo pos (starEach es X.env)).any (·.1) = false := by rfl) :
    PE X (.Call (.Name x p) (e :: es) [] pos) (tCallS sp E t) := by
  constructor
  intro pins s σ H Q I h
  refine wpAny_Call_Name_kw (ld_glob I hg hm (PySem.W.callWith_K (h₀ := X.base) I.ok.mod.kin hk ?_ he hpl) hdb)
  refine thn (ha.run pos pins s σ H _ I h) fun us s1 ⟨vs, H1, I1, r, q⟩ => ⟨I1.kIn, ?_⟩
  have hl : us.length = ps.length := r.length.symm.trans (F.ln _ _ _ _ q)
  have b := hb s1 us I1.kIn (by rw [List.append_nil]; exact hl)
  rw [List.append_nil] at b
  refine wpAny_call (codeAny_mono (F.go X.A X.stack s1 H1 ⟨us, []⟩ us vs Q (E σ) hgd hr I1.env0 b r q) ?_)
  rintro (e | (_ | _ | _ | u)) s' hq
  · exact hx σ pins H1 s1 e s' I1 hq
  all_goals first | exact I1.after hq | exact hq.elim
theorem pmx_call {n k : Nat} {f : Addr} {fd : FuncData} {ps : List Str} {g : FnX} {x : Str} {p : Pos} {es : List Expr} {ms : EM (List SV)} (tk : L2N.Takes X W) (F : FnG X.prog X.w X.K X.mg X.base (L2N.CX X.prog X.w) k f fd ps (spX X.K n g)) (hgd : X.A.guards = some []) (hr : Room k X.A) (hg : Gl X x) (hm : X.mg x = some (.ref f)) (hk : PySem.W.keepIn X.K (.ref f) = true) (hb : Binds X.K fd ps [])
    (ha : PAm X (e :: es) ms) (hn : ∀ ρ M ss M', ms ρ M = some (ss, M') → ss.length = n) (hdb : (x == ("__debug__" : Str)) = false := by decide) (he : starEach (e :: es) X.env = (false, eval e X.env) :: starEach es X.env := by rfl) (hpl : (backTo pos (starEach es X.env)).any (·.1) = false := by rfl) :
    PMX X W (.Call (.Name x p) (e :: es) [] pos) (eFnX g ms) := PE.imp (pe_callX (E := WE W) F hgd hr hg hm hk hb (fun σ => L2N.passAt tk σ) ha hdb he hpl) fun σ H Q ⟨Hk, ls, ρ, M, o, M', w, en, hm, q⟩ => by
  unfold eFnX at hm
  cases hr : ms ρ M with
  | none => rw [hr] at hm; cases hm
  | some p =>
    obtain ⟨ss, M1⟩ := p
    rw [hr] at hm
    exact ⟨Hk, ls, ρ, M, ss, M1, w, en, hr, fun vs Hk1 H1 w1 x1 r1 => ⟨Hk1, ls, M1, ss, o, M', w1, r1, hn _ _ _ _ hr, hm, q.back x1⟩⟩
end
end Dy

set_option Elab.async false
set_option linter.all false
set_option maxRecDepth 100000
set_option maxHeartbeats 4000000
/-! Layer Dy, part Eb: loops, try, defs that may raise. -/
namespace Dy
open PySem PySem.Spec PyProof.Rows L2
section
variable {X : Cx} {W : WX} {tg : Expr} {pos : Pos}
def forGoX (src : Src) (b : Bnd) (body : SX) : Nat → Nat → Env → MS → Option OX
  | 0, i, ρ, M => if src.stop M i = true then some (.o (.nx ρ M)) else none
  | k + 1, i, ρ, M => match src.get M i with
    | none => none
    | some x => match b x ρ with
      | none => none
      | some ρ1 => match body ρ1 M with
        | some (.o (.nx ρ2 M2)) => forGoX src b body k (i + 1) ρ2 M2
        | some (.o (.ct ρ2 M2)) => forGoX src b body k (i + 1) ρ2 M2
        | some (.o (.bk ρ2 M2)) => some (.o (.nx ρ2 M2))
        | some (.o (.rt r M2)) => some (.o (.rt r M2))
        | some (.x v ρ2 M2) => some (.x v ρ2 M2)
        | none => none
def xFor (ms : EM Src) (b : Bnd) (body : SX) : SX := fun ρ M => match ms ρ M with
  | some (src, M') => forGoX src b body src.n 0 ρ M'
  | none => none
theorem psx_for {iter : Expr} {body : List Stmt} {ms : EM Src} {b : Bnd} {is : List Nat} {mb : SX} (hp : PassesOwn (model X.prog X.w) X.A X.env X.xe) (hc : X.calm = true) (hi : PIm X tg iter ms) (hg : PGm X tg b is) (hb : PSsX X W body mb)
    (hs : ∀ x, foldedSetIterable iter X.env x = pure x := by intro _; rfl) : PSX X W (.For tg iter body [] pos) (xFor ms b mb) := PS.imp (ps_for hp hc hi hg hb hs) fun E σ H ⟨Hk, ls, ρ, M, o, w, en, hm, q⟩ => by
  unfold xFor at hm
  cases hr : ms ρ M with
  | none => rw [hr] at hm; cases hm
  | some p =>
    obtain ⟨src, M'⟩ := p
    rw [hr] at hm
    refine ⟨Hk, ls, ρ, M, src, M', w, en, hr, fun J Hk1 H1 w1 x1 sr => ?_⟩
    refine ⟨fun i m σ' H' => ∃ Hk2 ls2 ρ2 M2 o2, World X.K Hk2 H' M2 ls2 ∧ Same Hk1 Hk2 ∧ (∃ t, ls2 = ls ++ t) ∧ EnvR X.K Hk2 ls2 σ' ρ2 ∧ forGoX src b mb m i ρ2 M2 = some o2 ∧ OXR X.K ls2 Hk2 H' W E o2, ?_, ?_⟩
    · exact ⟨src.n, Hk1, ls, ρ, M', o, w1, fun _ _ h => h, ⟨[], by simp⟩, en.mono x1.kk, hm, q.back x1.s⟩
    · rintro i m σ' H' ⟨Hk2, ls2, ρ2, M2, o2, w2, k2, p2, en2, hf, q2⟩
      obtain ⟨sg, ss⟩ := sr Hk2 H' M2 ls2 w2 k2 p2
      cases m with
      | zero =>
        unfold forGoX at hf
        split at hf
        · rename_i hst
          cases hf
          exact .inl ⟨ss i hst, q2 σ' Hk2 H' ls2 w2 (ExtS.refl _ _ _) en2⟩
        · cases hf
      | succ m =>
        unfold forGoX at hf
        cases hx : src.get M2 i with
        | none => rw [hx] at hf; cases hf
        | some x =>
          rw [hx] at hf
          obtain ⟨go, yl⟩ := sg i x hx
          refine .inr ⟨go, fun σ3 H3 => ∃ Hk2 ls2 ρ2 M2 o2, World X.K Hk2 H3 M2 ls2 ∧ Same Hk1 Hk2 ∧ (∃ t, ls2 = ls ++ t) ∧ EnvR X.K Hk2 ls2 σ3 ρ2 ∧ forGoX src b mb m (i + 1) ρ2 M2 = some o2 ∧ OXR X.K ls2 Hk2 H3 W E o2, fun σ3 H3 h => ⟨m, Nat.lt_succ_self m, h⟩, fun v H3 hy => ?_⟩
          obtain ⟨Hk3, w3, x3, r3⟩ := yl v H3 hy
          simp only at hf
          cases hbx : b x ρ2 with
          | none => rw [hbx] at hf; cases hf
          | some ρ3 =>
            rw [hbx] at hf
            simp only at hf
            refine ⟨Hk3, ls2, ρ2, M2, x, ρ3, w3, en2.mono x3.kk, r3, hbx, fun σ4 en4 _ => ?_⟩
            cases hbody : mb ρ3 M2 with
            | none => rw [hbody] at hf; cases hf
            | some o3 =>
              rw [hbody] at hf
              refine ⟨Hk3, ls2, ρ3, M2, o3, w3, en4, hbody, ?_⟩
              cases o3 with
              | x v5 ρ5 M5 =>
                cases hf
                exact fun cls d σ5 Hk5 H5 ls5 w5 x5 en5 r5 => q2 cls d σ5 Hk5 H5 ls5 w5 (x3.s.trans x5) en5 (r5.backS x3.s)
              | o o4 =>
                cases o4 with
                | nx ρ5 M5 => exact fun σ5 Hk5 H5 ls5 w5 x5 en5 => ⟨Hk5, ls5, ρ5, M5, o2, w5, fun a o z => x5.kk a o (x3.kk a o (k2 a o z)), by
                    obtain ⟨t, rfl⟩ := p2
                    obtain ⟨u, rfl⟩ := x5.pre
                    exact ⟨t ++ u, by rw [List.append_assoc]⟩, en5, hf, q2.back (x3.s.trans x5)⟩
                | ct ρ5 M5 => exact fun σ5 Hk5 H5 ls5 w5 x5 en5 => ⟨Hk5, ls5, ρ5, M5, o2, w5, fun a o z => x5.kk a o (x3.kk a o (k2 a o z)), by
                    obtain ⟨t, rfl⟩ := p2
                    obtain ⟨u, rfl⟩ := x5.pre
                    exact ⟨t ++ u, by rw [List.append_assoc]⟩, en5, hf, q2.back (x3.s.trans x5)⟩
                | bk ρ5 M5 =>
                  cases hf
                  exact fun σ5 Hk5 H5 ls5 w5 x5 en5 => q2 σ5 Hk5 H5 ls5 w5 (x3.s.trans x5) en5
                | rt r5 M5 =>
                  cases hf
                  exact fun v5 Hk5 H5 ls5 w5 x5 r6 => q2 v5 Hk5 H5 ls5 w5 (x3.s.trans x5) (r6.backS x3.s)
end
/-! ### defs that may raise -/
def runX (b : SX) (n : Nat) : FnX := fun ss M => match b (ss.map some ++ List.replicate (n - ss.length) none) M with
  | some (.o out) => match fin (some out) M.length with
    | some (r, M') => some (.r r, M')
    | none => none
  | some (.x v _ M') => if cutOk M' M.length = true ∧ v.ds.all (svLt M.length) = true then some (.x v, M'.take M.length) else none
  | none => none
def onlyO (b : SX) : SM := fun ρ M => match b ρ M with
  | some (.o out) => some out
  | _ => none
theorem bodyX_go {K : PySem.W.Frag} {H : Hp} {E : XK} {N : List Str} {b : SX} {n : Nat} {vs : List V} {Q : VK} (h : spX K n (runX b N.length) vs H Q E) : tSX K (fun cls d _ H => E cls d H) b { nx := fun _ H' => Q .non H', rt := Q } (L2.start N vs) H := by
  obtain ⟨Hk, ls, M, ss, o, M', w, r, hn, hf, q⟩ := h
  unfold runX at hf
  cases hb : b (ss.map some ++ List.replicate (N.length - ss.length) none) M with
  | none => rw [hb] at hf; cases hf
  | some ox =>
    rw [hb] at hf
    cases ox with
    | o out =>
      simp only at hf
      cases hfi : fin (some out) M.length with
      | none => rw [hfi] at hf; cases hf
      | some p =>
        obtain ⟨z, M1⟩ := p
        rw [hfi] at hf
        cases hf
        have hsp : spM K n (runBody (onlyO b) N.length) vs H Q E := ⟨Hk, ls, M, ss, z, M', w, r, hn, by
          rw [runBody_eq]
          have : onlyO b (ss.map some ++ List.replicate (N.length - ss.length) none) M = some out := by
            unfold onlyO
            rw [hb]
          rw [this]
          exact hfi, q⟩
        obtain ⟨Hk2, ls2, ρ2, M2, o2, w2, en2, hm2, q2⟩ := body_go hsp
        refine ⟨Hk2, ls2, ρ2, M2, .o o2, w2, en2, ?_, q2⟩
        unfold onlyO at hm2
        cases hb2 : b ρ2 M2 with
        | none => rw [hb2] at hm2; cases hm2
        | some o3 =>
          rw [hb2] at hm2
          cases o3 with
          | o out3 => cases hm2; rfl
          | x v ρ M => cases hm2
    | x v ρ' M1 =>
      simp only at hf
      by_cases hcut : cutOk M1 M.length = true ∧ v.ds.all (svLt M.length) = true
      case neg => rw [if_neg hcut] at hf; cases hf
      rw [if_pos hcut] at hf
      rw [w.len] at hcut
      obtain ⟨hcut, hlow⟩ := hcut
      cases hf
      refine ⟨Hk, ls, _, M, _, w, start_env r, hb, fun cls d σ' Hk' H' ls' w' x' en' r' => ?_⟩
      obtain ⟨t, rfl⟩ := x'.pre
      rw [w.len] at q
      obtain ⟨r1, r'⟩ := r'
      refine q cls d Hk' H' (w'.cut hcut) x'.e ⟨r1, ?_⟩
      rcases r' with r' | ⟨dd, vs', r2, r3, r4, r5, r6, r7⟩
      · exact .inl r'
      · exact .inr ⟨dd, vs', r2, r3, SVs.less (Nat.le_refl _) (SVs.low r4 hlow), fun z => r5 (List.mem_append_left _ z), r6, r7⟩
theorem spX_len {K : PySem.W.Frag} {n : Nat} {f : FnX} {ps : List Str} (h : ps.length = n) : ∀ vs H Q E, spX K n f vs H Q E → vs.length = ps.length := fun vs H Q E ⟨Hk, ls, M, ss, z, M', w, r, hn, _⟩ => by
  rw [r.length, hn, h]
theorem FunDG.okX {P : Program} {w : PySem.World} {K : PySem.W.Frag} {mg : Str → Option Value} {base : Heap} {x qual : Str} {params : Arguments} {body : List Stmt} {scope : Scope} {dvs : List V} {kws : List (Str × V)} {f : Addr} {fd : FuncData} {N ps : List Str} {k : Nat} {b : SX} {n : Nat} (F : FunD K x qual params body scope dvs kws f fd) (S : FnScope N ps scope) (hl : ps.length = n)
    (hbody : ∀ (cdv : Value) (A : Around) (outer : List PySem.Env) (s : Shared) (H : Hp) (E : XK), A.guards = some [] → Room k (A.deeper (envOfC qual scope s.heap.objs.size f cdv)) →
      L2N.Takes (cxOf (L2N.CX P w) P w K mg base N qual scope f cdv A outer s H E) (fun cls d _ H => E cls d H) → PSsX (cxOf (L2N.CX P w) P w K mg base N qual scope f cdv A outer s H E) (fun cls d _ H => E cls d H) body b) : FnG P w K mg base (L2N.CX P w) (k + 1) f fd ps (spX K n (runX b N.length)) := by
  obtain ⟨oc, od, dV, kV, doc, pm, an, cdv, ct, osl, rfl, lk, hcd, _, _⟩ := F.ex
  exact fng_of lk hcd S (spX_len hl) fun A outer s H vs Q E hgd hr h => ⟨_, hbody cdv A outer s H E hgd hr (L2N.takes_of rfl rfl rfl rfl), bodyX_go h⟩
end Dy

set_option Elab.async false
set_option linter.all false
set_option maxRecDepth 100000
set_option maxHeartbeats 4000000
/-! Layer Dy, part 23: more evaluation. -/
namespace Dy
open PySem L2
section
variable {ρ : Env} {M : MS}
@[simp] theorem gIx_t0 (x : D) (r : List D) : gIx M (.dt (.tup (x :: r))) (.dt (.int 0)) = some (.sv (.dt x)) := by simp [gIx, itemsOf, atI, ixN]
@[simp] theorem gIx_t1 (x y : D) (r : List D) : gIx M (.dt (.tup (x :: y :: r))) (.dt (.int 1)) = some (.sv (.dt y)) := by
  have h : (1 : Int) < (r.length : Int) + 1 + 1 := by omega
  simp [gIx, itemsOf, atI, ixN, h]
@[simp] theorem gIx_t2 (x y z : D) (r : List D) : gIx M (.dt (.tup (x :: y :: z :: r))) (.dt (.int 2)) = some (.sv (.dt z)) := by
  have h : (2 : Int) < (r.length : Int) + 1 + 1 + 1 := by omega
  simp [gIx, itemsOf, atI, ixN, h]
@[simp] theorem lenS_tup (xs : List D) : lenS M (.dt (.tup xs)) = some (.sv (.dt (.int xs.length))) := by simp [lenS]
@[simp] theorem lenS_lst (xs : List D) : lenS M (.dt (.lst xs)) = some (.sv (.dt (.int xs.length))) := by simp [lenS]
@[simp] theorem gNe_int (i j : Int) : gNe M (.dt (.int i)) (.dt (.int j)) = some (.sv (.dt (.bl (!decide (i = j))))) := by
  unfold gNe
  have e := gEq_int M i j
  unfold gEq at e
  cases h : eqT M (.dt (.int i)) (.dt (.int j)) with
  | none => rw [h] at e; cases e
  | some b =>
    rw [h] at e
    have : b = decide (i = j) := by simpa [rB] using e
    rw [this]
    rfl
@[simp] theorem rConsN_ev (m : EM R) (ms : EM (List R)) : rConsN m ms ρ M = (m ρ M).bind fun p => (ms ρ p.2).bind fun q => some (p.1 :: q.1, q.2) := by
  unfold rConsN
  rw [seq_ev]
  cases m ρ M with
  | none => rfl
  | some p =>
    simp only [Option.bind_some, seq_ev]
    rfl
@[simp] theorem rConsD_ev (m : EM R) (ms : EM (List R)) : rConsD m ms ρ M = (m ρ M).bind fun p => (ms ρ p.2).bind fun q => some (.sv p.1.toSV :: q.1, q.2) := by
  unfold rConsD
  rw [seq_ev, fz_ev]
  cases m ρ M with
  | none => rfl
  | some p =>
    simp only [Option.bind_some, seq_ev]
    rfl
@[simp] theorem rNil_ev : rNil ρ M = some ([], M) := rfl
@[simp] theorem sPutD_ev (mo mi me : EM R) : sPutD mo mi me ρ M = (me ρ M).bind fun p => (mo ρ p.2).bind fun q => (mi ρ q.2).bind fun r => (putAt r.2 q.1.toSV r.1.toSV p.1.toSV).bind fun M4 => some (.nx ρ M4) := by
  unfold sPutD
  rw [fz_ev]
  cases me ρ M with
  | none => rfl
  | some p =>
    simp only [Option.bind_some, fz_ev]
    cases mo ρ p.2 with
    | none => rfl
    | some q =>
      simp only [Option.bind_some]
      cases mi ρ q.2 with
      | none => rfl
      | some r =>
        simp only [Option.bind_some]
        cases putAt r.2 q.1.toSV r.1.toSV p.1.toSV <;> rfl
end
/-- range(len(..)) -/
theorem rng_len {ρ : Env} {M : MS} {m : EM R} {r : R} {ds : List D} (h : m ρ M = some (r, M)) (hr : r.toSV = .dt (.lst ds) ∨ r.toSV = .dt (.tup ds)) (hn : ds.length ≤ 16777216) : eRng1 (eCons (eCall (g1 lenS) (eCons m eNil)) eNil) ρ M = some (rngSrc 0 ds.length, M) := by
  have hi : isRange (ds.length : Int) = true := isRange_of (by omega) (by omega)
  have e : lenS M r.toSV = some (.sv (.dt (.int ds.length))) := by
    rcases hr with hr | hr <;> rw [hr]
    · exact lenS_lst ds
    · exact lenS_tup ds
  have args : eCons (eCall (g1 lenS) (eCons m eNil)) eNil ρ M = some ([.dt (.int (ds.length : Int))], M) := by
    simp [h, e]
  have key : ∀ j : Int, isRange j = true → eCons (eCall (g1 lenS) (eCons m eNil)) eNil ρ M = some ([.dt (.int j)], M) → eRng1 (eCons (eCall (g1 lenS) (eCons m eNil)) eNil) ρ M = some (rngSrc 0 j.toNat, M) := by
    intro j hj ha
    unfold eRng1 EM.seq
    rw [ha]
    simp [hj]
  have q := key _ hi args
  rw [Int.toNat_natCast] at q
  exact q
theorem Ok_items {xs : List D} (h : goodL xs = true) : ∀ x ∈ xs, goodD x = true := by
  induction xs with
  | nil => intro x hx; simp at hx
  | cons d r ih =>
    simp only [goodL, Bool.and_eq_true] at h
    intro x hx
    rcases List.mem_cons.mp hx with rfl | hx
    · exact h.1
    · exact ih h.2 x hx
theorem swtL_mem {xs : List D} : ∀ x ∈ xs, swt x ≤ swtL xs := by
  induction xs with
  | nil => intro x hx; simp at hx
  | cons d r ih =>
    intro x hx
    simp only [swtL]
    rcases List.mem_cons.mp hx with rfl | hx
    · omega
    · have := ih x hx; omega
theorem swtL_len (xs : List D) : xs.length ≤ swtL xs := by
  induction xs with
  | nil => simp
  | cons d r ih => simp only [swtL, List.length_cons]; omega
theorem depL_mem {xs : List D} : ∀ x ∈ xs, dep x ≤ depL xs := by
  induction xs with
  | nil => intro x hx; simp at hx
  | cons d r ih =>
    intro x hx
    simp only [depL]
    rcases List.mem_cons.mp hx with rfl | hx
    · omega
    · have := ih x hx; omega
end Dy

set_option Elab.async false
set_option linter.all false
set_option maxRecDepth 100000
set_option maxHeartbeats 4000000
/-! Layer Dy, part 24: loops by places. -/
namespace Dy
open PySem L2
section
variable {src : Src} {xs : List SV} {b : Bnd} {body : SM}
theorem for_ix_go (hs : IsSrc src xs) (Inv : Nat → Env → MS → Prop) (step : ∀ (i : Nat) (x : SV), xs[i]? = some x → ∀ ρ M, Inv i ρ M → ∃ ρ1, b x ρ = some ρ1 ∧ ∃ ρ2 M2, body ρ1 M = some (.nx ρ2 M2) ∧ Inv (i + 1) ρ2 M2) :
    ∀ (k i : Nat) (ρ : Env) (M : MS), i + k = xs.length → Inv i ρ M → ∃ ρ' M', forGo src b body k i ρ M = some (.nx ρ' M') ∧ Inv xs.length ρ' M'
  | 0, i, ρ, M, hi, hI => ⟨ρ, M, by
    show (if src.stop M i = true then some (Out.nx ρ M) else none) = _
    rw [hs.stop, if_pos (decide_eq_true (by omega))], by rw [← hi]; exact hI⟩
  | k + 1, i, ρ, M, hi, hI => by
    have hx : xs[i]? = some xs[i] := List.getElem?_eq_getElem (by omega)
    obtain ⟨ρ1, hb, ρ2, M2, h1, h2⟩ := step i xs[i] hx ρ M hI
    obtain ⟨ρ', M', h3, h4⟩ := for_ix_go hs Inv step k (i + 1) ρ2 M2 (by omega) h2
    refine ⟨ρ', M', ?_, h4⟩
    unfold forGo
    rw [hs.get, hx]
    simp only [hb, h1]
    exact h3
theorem for_ix {ms : EM Src} {ρ : Env} {M M0 : MS} (Inv : Nat → Env → MS → Prop) (hm : ms ρ M = some (src, M0)) (hs : IsSrc src xs) (h0 : Inv 0 ρ M0)
    (step : ∀ (i : Nat) (x : SV), xs[i]? = some x → ∀ ρ M, Inv i ρ M → ∃ ρ1, b x ρ = some ρ1 ∧ ∃ ρ2 M2, body ρ1 M = some (.nx ρ2 M2) ∧ Inv (i + 1) ρ2 M2) : ∃ ρ' M', sFor ms b body ρ M = some (.nx ρ' M') ∧ Inv xs.length ρ' M' := by
  obtain ⟨ρ', M', h3, h4⟩ := for_ix_go hs Inv step xs.length 0 ρ M0 (by omega) h0
  refine ⟨ρ', M', ?_, h4⟩
  unfold sFor
  simp only [hm]
  rw [hs.n]
  exact h3
end
/-- what a list or a tuple is walked by -/
theorem seq_src {M : MS} {ds : List D} {s : D} (h : s = .lst ds ∨ s = .tup ds) : ∃ src, seqSrc M (.dt s) = some src ∧ IsSrc src (ds.map .dt) := by
  rcases h with rfl | rfl
  · exact isSrc_lst
  · exact isSrc_tup
theorem eSeq_of {m : EM R} {ρ : Env} {M M' : MS} {r : R} {src : Src} (h : m ρ M = some (r, M')) (hs : seqSrc M' r.toSV = some src) : eSeq m ρ M = some (src, M') := by
  rw [eSeq_ev, h, Option.bind_some, hs, Option.bind_some]
theorem gExtend_mu {M : MS} {k : Nat} {ds es : List D} (h : M[k]? = some (.l (ds.map .dt))) (hl : ds.length + es.length ≤ 16777216) : gExtend M (.mu k) [.dt (.lst es)] = some (.sv (.dt .non), M.set k (.l ((ds ++ es).map .dt))) := by
  unfold gExtend
  rw [muL_mu h]
  simp [hl]
theorem cut_take {ds : List D} {i : Nat} (h : i ≤ ds.length) : cutD ds none (some (i : Int)) = ds.take i := by
  unfold cutD
  have e1 : HT.sIx ds.length 0 none = 0 := rfl
  have e2 : HT.sIx ds.length ds.length (some (i : Int)) = i := by
    unfold HT.sIx
    have n : ¬ ((i : Int) < 0) := by omega
    simp [n]
    omega
  rw [e1, e2]
  simp
/-- d.get(k, 0) of ints by texts -/
structure NumD (M : MS) (s : SV) (f : Str → Int) : Prop where
  ex : ∃ ks xs, dictOf M s = some (ks, xs) ∧ ∀ c, (lookK (.inr c) ks xs).getD (.dt (.int 0)) = .dt (.int (f c))
theorem dget2_ok {mo mi : EM R} {ρ : Env} {M : MS} {r : R} {f : Str → Int} {c : Str} (h1 : mo ρ M = some (r, M)) (h2 : NumD M r.toSV f) (h3 : mi ρ M = some (.sv (.dt (.str c)), M)) : eDGet2 mo mi (eC (.int 0)) ρ M = some (.sv (.dt (.int (f c))), M) := by
  obtain ⟨ks, xs, hd, hf⟩ := h2.ex
  unfold eDGet2
  rw [seq_ev, fz_ev, h1]
  simp only [Option.bind_some, hd, seq_ev, fz_ev, h3, eC_ev, toSV_sv, keyD, hf]

/-! ### a comprehension over encoded things -/
theorem comp_map_go {α : Type} {src : Src} {e : α → D} {xs : List α} {b : Bnd} {el : EM R} {ρ0 : Env} {M : MS} (hs : IsSrc src ((xs.map e).map .dt)) (g : α → D) (hl : xs.length ≤ 16777216)
    (step : ∀ x ∈ xs, ∃ ρ1, b (.dt (e x)) ρ0 = some ρ1 ∧ ∃ r, el ρ1 M = some (r, M) ∧ r.toSV = .dt (g x)) :
    ∀ (k i : Nat) (acc : List D), i + k = xs.length → acc.length = i → compGo src b cYes el ρ0 k i acc M = some (acc ++ (xs.drop i).map g, M)
  | 0, i, acc, hi, ha => by
    show (if src.stop M i = true then some (acc, M) else none) = _
    rw [hs.stop, if_pos (decide_eq_true (by simp; omega)), List.drop_eq_nil_of_le (by omega), List.map_nil, List.append_nil]
  | k + 1, i, acc, hi, ha => by
    have hlt : i < xs.length := by omega
    obtain ⟨ρ1, hb, r, he, hr⟩ := step xs[i] (List.getElem_mem _)
    have hx : ((xs.map e).map SV.dt)[i]? = some (.dt (e xs[i])) := by simp [hlt]
    unfold compGo
    rw [hs.get, hx, List.drop_eq_getElem_cons hlt]
    simp only [hb, cYes_ev]
    have hf : fz el ρ1 M = some (.dt (g xs[i]), M) := by
      unfold fz EM.seq
      rw [he]
      show some (r.toSV, M) = _
      rw [hr]
    simp only [hf]
    rw [if_pos (by rw [sizeLine_eq]; omega), comp_map_go hs g hl step k (i + 1) (acc ++ [g xs[i]]) (by omega) (by simp; omega)]
    simp only [List.map_cons, List.append_assoc, List.cons_append, List.nil_append]
theorem comp_map {α : Type} {e : α → D} {xs : List α} {m : EM R} {el : EM R} {j : Nat} {ρ : Env} {M : MS} {r : R} (g : α → D) (hm : m ρ M = some (r, M)) (hr : r.toSV = .dt (.lst (xs.map e)) ∨ r.toSV = .dt (.tup (xs.map e))) (hl : xs.length ≤ 16777216)
    (step : ∀ x ∈ xs, ∃ r, el ((ρ.set j none).set j (some (.dt (e x)))) M = some (r, M) ∧ r.toSV = .dt (g x)) :
    eComp (eSeq m) (bName j) cYes el [j] ρ M = some (.fr (xs.map g), M) := by
  have hsrc : ∃ src, seqSrc M r.toSV = some src ∧ IsSrc src ((xs.map e).map .dt) := by
    rcases hr with hr | hr <;> rw [hr]
    · exact isSrc_lst
    · exact isSrc_tup
  obtain ⟨src, e1, hs⟩ := hsrc
  unfold eComp
  rw [eSeq_of hm e1]
  simp only
  rw [hs.n, List.length_map, List.length_map, comp_map_go (ρ0 := wipeE ρ [j]) hs g hl (fun x hx => ⟨_, rfl, step x hx⟩) xs.length 0 [] (by omega) rfl]
  simp

/-! ### lists that are changed -/
theorem gInsert_mu {M : MS} {k : Nat} {ds : List D} {i : Int} {d : D} (h : M[k]? = some (.l (ds.map .dt))) (h0 : 0 ≤ i) (h1 : i < 1000000000000) (hl : ds.length < 16777216) : gInsert M (.mu k) [.dt (.int i), .dt d] = some (.sv (.dt .non), M.set k (.l ((ds.take i.toNat ++ [d] ++ ds.drop i.toNat).map .dt))) := by
  unfold gInsert
  rw [muL_mu h]
  have c : (ds.map SV.dt).length < sizeLine ∧ 0 ≤ i ∧ i < 2 ^ 63 := ⟨by rw [sizeLine_eq, List.length_map]; exact hl, h0, by omega⟩
  simp only
  rw [if_pos c]
  simp [List.map_take, List.map_drop]
theorem map_erase {α β : Type} (f : α → β) (xs : List α) (i : Nat) : (xs.map f).eraseIdx i = (xs.eraseIdx i).map f := by
  induction xs generalizing i with
  | nil => rfl
  | cons x xs ih =>
    cases i with
    | zero => rfl
    | succ i => simp [ih]
theorem gPopAt_mu {M : MS} {k : Nat} {ds : List D} {i : Int} (h : M[k]? = some (.l (ds.map .dt))) (h0 : 0 ≤ i) (h1 : i < ds.length) (hl : ds.length ≤ 16777216) : ∃ d, gPopAt M (.mu k) [.dt (.int i)] = some (.sv (.dt d), M.set k (.l ((ds.eraseIdx i.toNat).map .dt))) := by
  have hi : i.toNat < ds.length := by omega
  refine ⟨ds[i.toNat], ?_⟩
  unfold gPopAt
  rw [muL_mu h]
  have c : -(2 ^ 63) ≤ i ∧ i < 2 ^ 63 := ⟨by omega, by omega⟩
  have sq : seqIndex? i (ds.map SV.dt).length = some i.toNat := seqIndex_of h0 (by simpa using h1)
  simp only
  rw [if_pos c, sq]
  simp [hi, map_erase]
theorem gAppend_mu {M : MS} {k : Nat} {xs : List SV} {d : D} (h : M[k]? = some (.l xs)) (hl : xs.length < 16777216) : gAppend M (.mu k) [.dt d] = some (.sv (.dt .non), M.set k (.l (xs ++ [.dt d]))) := by
  unfold gAppend
  rw [muL_mu h]
  simp only
  rw [if_pos (by rw [sizeLine_eq]; exact hl)]
theorem swtL_append (a b : List D) : swtL (a ++ b) = swtL a + swtL b := by
  induction a with
  | nil => simp [swtL]
  | cons x a ih => simp only [List.cons_append, swtL, ih]; omega
theorem swtL_ins (ds : List D) (i : Nat) (d : D) : swtL (ds.take i ++ [d] ++ ds.drop i) = swtL ds + swt d + 2 := by
  have e := swtL_append (ds.take i) (ds.drop i)
  rw [List.take_append_drop] at e
  rw [swtL_append, swtL_append, e]
  simp [swtL]
  omega
theorem swtL_erase (ds : List D) (i : Nat) : swtL (ds.eraseIdx i) ≤ swtL ds := by
  induction ds generalizing i with
  | nil => simp
  | cons x ds ih =>
    cases i with
    | zero => simp only [List.eraseIdx_cons_zero, swtL]; omega
    | succ i => have := ih i; simp only [List.eraseIdx_cons_succ, swtL]; omega
theorem swtL_set (ds : List D) (i : Nat) (d : D) (h : i < ds.length) : swtL (ds.set i d) + swt ds[i] = swtL ds + swt d := by
  induction ds generalizing i with
  | nil => simp at h
  | cons x ds ih =>
    cases i with
    | zero => simp only [List.set_cons_zero, swtL, List.getElem_cons_zero]; omega
    | succ i =>
      have := ih i (by simpa using h)
      simp only [List.set_cons_succ, swtL, List.getElem_cons_succ]
      omega
end Dy

set_option Elab.async false
set_option linter.all false
set_option maxRecDepth 100000
set_option maxHeartbeats 4000000
/-! Layer Dy, part U: sum(lists, []). -/
namespace Dy
open PySem PySem.W PySem.Calls PyProof.Rows
section
variable {prog : Program} {w : PySem.World} {A : Around} {R : Result → Shared → Prop} {I : Addr} {fp wr : List Addr} {n : Nat} {P : Nat → Value → Prop} {St : Nat → Heap → Prop}
theorem args_sum2 (a b : Value) : argsOk "sum" ⟨[a, b], []⟩ := by unfold argsOk; kernel_rfl
/-- the lists' items up to place i -/
def preCat (val : Nat → List Value) : Nat → List Value
  | 0 => []
  | j + 1 => preCat val j ++ val j
theorem preCat_le (val : Nat → List Value) {i n : Nat} (h : i ≤ n) : (preCat val i).length ≤ (preCat val n).length := by
  induction n with
  | zero =>
    obtain rfl : i = 0 := by omega
    exact Nat.le_refl _
  | succ n ih =>
    by_cases e : i = n + 1
    · rw [e]; exact Nat.le_refl _
    · have := ih (by omega)
      simp only [preCat, List.length_append]
      omega
theorem codeAny_sum_lists (W : Walks prog w A.in1 I fp wr n P St) (val : Nat → List Value) (h0 : Heap) (hval : ∀ i v, P i v → ∃ a c, v = .ref a ∧ IsL h0 a (val i).toArray c ∧ a ∉ wr) (hz : (preCat val n).length ≤ sizeLine) (S : Addr) (hSf : S ∉ fp) (hS0 : h0.objs.size ≤ S) (hfp : ∀ b ∈ fp, b < S) :
    ∀ (k i : Nat) (s : Shared) (T : Addr) (c cT : Nat), n - i = k → i ≤ n → St i s.heap → (∀ b o, b ∉ wr → h0.get? b = some o → s.heap.get? b = some o) → s.heap.get? S = some { cls := .type "list", dict := none, data := .seq #[.ref T] c, slots := #[] } → IsL s.heap T (preCat val i).toArray cT → T ∉ wr → T ≠ S → S < s.heap.objs.size →
    (∀ h' tk p cp, (∀ b o, b ∉ wr → b ≠ S → s.heap.get? b = some o → h'.get? b = some o) → IsL h' p (preCat val n).toArray cp → (p = T ∨ S < p) → (i = n → p = T) → (i < n → S < p) → R (.ok (.ret (.ref p))) { s with heap := h', toks := tk }) →
    codeAny (model prog w) A (.builtin "sum.loop" ⟨[.ref I, .ref S, rawInt 2, rawInt 0], []⟩) R s := by
  have hSw : S ∉ wr := fun h => hSf (W.sub _ h)
  intro k
  induction k with
  | zero =>
    intro i s T c cT hk hi hst hkp hS hT hTw hTS hSs hR
    have hin : i = n := by omega
    subst hin
    refine codeAny_builtin F.entry_sum_loop ?_
    rw [Around.under_plainId F.plain_sum_loop _]
    show wpAny _ A.in1 (seqItems? (.ref S) >>= _) _ _ s
    refine wpAny_bind (wpAny_seqItems hS rfl ?_)
    show wpAny _ A.in1 (tryCatch (pyNext (.ref I)) _ >>= _) _ _ s
    refine wpAny_bind (wpAny_tryCatch (W.done s _ _ hst fun h' tk hk' => ?_))
    exact wpAny_pure (hR h' tk T cT (fun b o hbw _ e => hk' b o hbw e) (hk' T _ hTw hT) (.inl rfl) (fun _ => rfl) (fun h => absurd h (Nat.lt_irrefl _)))
  | succ k ih =>
    intro i s T c cT hk hi hst hkp hS hT hTw hTS hSs hR
    have hlt : i < n := by omega
    refine codeAny_builtin F.entry_sum_loop ?_
    rw [Around.under_plainId F.plain_sum_loop _]
    show wpAny _ A.in1 (seqItems? (.ref S) >>= _) _ _ s
    refine wpAny_bind (wpAny_seqItems hS rfl ?_)
    show wpAny _ A.in1 (tryCatch (pyNext (.ref I)) _ >>= _) _ _ s
    refine wpAny_bind (wpAny_tryCatch (W.item i s _ _ hlt hst fun v h' tk hP hst' hk' => ?_))
    obtain ⟨a, ca, rfl, ha, haw⟩ := hval i v hP
    have hS' := hk' S _ hSw hS
    have hT' : IsL h' T (preCat val i).toArray cT := hk' T _ hTw hT
    have ha' : IsL h' a (val i).toArray ca := hk' a _ haw (hkp a _ haw ha)
    have hsz : (preCat val i).toArray.size + (val i).toArray.size ≤ sizeLine := by
      have := preCat_le val (i := i + 1) (n := n) hlt
      simp only [preCat, List.length_append] at this
      rw [List.size_toArray, List.size_toArray]
      omega
    have hSs' : S < h'.objs.size := Heap.lt_size hS'
    show wpAny _ A.in1 ((holding [Value.ref a] (binaryOp .Add (.ref T) (.ref a))).attempt >>= _) _ _ _
    refine wpAny_bind (wpAny_attempt (wpAny_holding (PySem.P.add_list hT' ha' ?_ hsz)))
    have ea : (preCat val i).toArray ++ (val i).toArray = (preCat val (i + 1)).toArray := by simp [preCat]
    rw [ea]
    have hSp : (h'.push { cls := .type "list", data := .seq (preCat val (i + 1)).toArray }).get? S = some { cls := .type "list", dict := none, data := .seq #[.ref T] c, slots := #[] } := Heap.get?_push_of_some _ hS'
    have hN : IsL (h'.push { cls := .type "list", data := .seq (preCat val (i + 1)).toArray }) h'.objs.size (preCat val (i + 1)).toArray 0 := IsL.new _ _
    show wpAny _ A.in1 (updateSeq S (fun _ => #[.ref h'.objs.size]) >>= _) _ _ _
    refine wpAny_bind ?_
    refine wpAny_updateSeq hSp rfl ?_
    have hS2 := Heap.get?_update_self (Obj.mapSeq fun _ => #[Value.ref h'.objs.size]) hSp rfl
    refine wpAny_bind (wpAny_letGo ?_)
    refine wpAny_bind ?_
    have hNS : h'.objs.size ≠ S := Nat.ne_of_gt hSs'
    have old : ∀ b o, b ≠ S → h'.get? b = some o → (((h'.push { cls := .type "list", data := .seq (preCat val (i + 1)).toArray }).update S (Obj.mapSeq fun _ => #[Value.ref h'.objs.size])).update S (Obj.mapSeq fun _ => #[Value.ref h'.objs.size])).get? b = some o := fun b o hb e =>
      (Heap.get?_update_other _ _ (Ne.symm hb)).trans ((Heap.get?_update_other _ _ (Ne.symm hb)).trans (Heap.get?_push_of_some _ e))
    refine wpAny_updateSeq hS2 rfl (wpAny_pure ⟨plainId_quiet F.plain_sum_loop _, ih (i + 1) _ h'.objs.size _ 0 (by omega) hlt (W.frame _ _ _ hst' fun b hb o e => ?_) (fun b o hb e => ?_) (Heap.get?_update_self _ hS2 rfl) ?_ ?_ hNS ?_ fun h'' tk'' p cp hk'' hp h1 h2 h3 => ?_⟩)
    · exact old b o (fun h => hSf (h ▸ hb)) e
    · exact old b o (fun h => by subst h; exact absurd (Nat.lt_of_lt_of_le (Heap.lt_size e) hS0) (Nat.lt_irrefl _)) (hk' b o hb (hkp b o hb e))
    · exact (Heap.get?_update_other _ _ (Ne.symm hNS)).trans ((Heap.get?_update_other _ _ (Ne.symm hNS)).trans hN)
    · intro hm
      exact absurd (hfp _ (W.sub _ hm)) (Nat.lt_asymm hSs')
    · exact Heap.lt_size (Heap.get?_update_self _ hS2 rfl)
    · have hp2 : S < p := by
        rcases h1 with rfl | h1
        · exact hSs'
        · exact h1
      exact hR h'' tk'' p cp (fun b o hbw hbS e => hk'' b o hbw hbS (old b o hbS (hk' b o hbw e))) hp (.inr hp2) (fun h => by omega) (fun _ => hp2)
end
section
variable {prog : Program} {w : PySem.World} {A : Around} {E : Value → Shared → Prop} {s : Shared}
theorem call_sum_lists {l b : Addr} {items : Array Value} {cb : Nat} {Q : Value → Shared → Prop} (hh : A.handled = none) (hl : s.heap.IsList l items) (hb : IsL s.heap b #[] cb) (val : Nat → List Value)
    (hval : ∀ i v, items[i]? = some v → ∃ a c, v = .ref a ∧ IsL s.heap a (val i).toArray c) (hz : (preCat val items.size).length ≤ sizeLine)
    (h : ∀ h' tk p cp, (∀ c o, s.heap.get? c = some o → h'.get? c = some o) → IsL h' p (preCat val items.size).toArray cp → (items.size = 0 → p = b) → (0 < items.size → s.heap.objs.size ≤ p) → Q (.ref p) { s with heap := h', toks := tk }) :
    wpAny (model prog w) A (call (.builtin "sum") [.ref l, .ref b]) Q E s := by
  refine call_function_tree F.kind_sum F.plain_sum F.entry_sum (args_sum2 _ _) ?_
  unfold Builtin.«sum»
  simp only [List.length_cons, List.length_nil]
  rw [if_neg (by decide)]
  refine wpAny_bind (wpAny_of_eq (show Builtin.Builtins.bindParams "sum" ["start"] 0 ⟨[.ref b], []⟩ = pure [some (.ref b)] from rfl) ?_)
  have hlt : l < s.heap.objs.size := by obtain ⟨_, e, _⟩ := hl; exact Heap.lt_size e
  refine wpAny_bind (wpAny_pyIter_list hl ?_)
  refine wpAny_bind (wpAny_pure ?_)
  have hb2 : IsL (s.heap.push { cls := .type "list_iterator", data := .fields #[.ref l, .int 0 0] }) b #[] cb := hb.push _
  simp only [List.forIn_cons, List.forIn_nil]
  refine wpAny_bind (wpAny_bind (wpAny_bind (wpAny_isInstance (T := "list") (b := false) ⟨_, hb2, rfl⟩ F.sub_list_str ?_)))
  simp only [Bool.false_eq_true, if_false]
  refine wpAny_pure (wpAny_bind (wpAny_bind (wpAny_isInstance (T := "list") (b := false) ⟨_, hb2, rfl⟩ F.sub_list_bytes ?_)))
  simp only [Bool.false_eq_true, if_false]
  refine wpAny_pure (wpAny_bind (wpAny_bind (wpAny_isInstance (T := "list") (b := false) ⟨_, hb2, rfl⟩ F.sub_list_bytearray ?_)))
  simp only [Bool.false_eq_true, if_false]
  refine wpAny_pure (wpAny_pure ?_)
  refine wpAny_bind (wpAny_newObj_type ?_)
  have hs2 : (s.heap.push { cls := .type "list_iterator", data := .fields #[.ref l, .int 0 0] }).objs.size = s.heap.objs.size + 1 := Heap.size_push ..
  have hI : (s.heap.push { cls := .type "list_iterator", data := .fields #[.ref l, .int 0 0] }).IsListIter s.heap.objs.size l 0 := ⟨_, Heap.get?_push_size _ rfl, rfl, rfl⟩
  have W := Walks.list (prog := prog) (w := w) (A := A.in1) hh s.heap.objs.size l (Nat.ne_of_lt hlt) items
  have hlist : (s.heap.push { cls := .type "list_iterator", data := .fields #[.ref l, .int 0 0] }).IsList l items := hl.push _
  have hfp : ∀ c ∈ [s.heap.objs.size, l], c < (s.heap.push { cls := .type "list_iterator", data := .fields #[.ref l, .int 0 0] }).objs.size := fun c hc => by
    rw [hs2]
    rcases List.mem_cons.mp hc with rfl | hc
    · exact Nat.lt_succ_self _
    · rw [List.mem_singleton.mp hc]; exact Nat.lt_succ_of_lt hlt
  have hSf : (s.heap.push { cls := .type "list_iterator", data := .fields #[.ref l, .int 0 0] }).objs.size ∉ [s.heap.objs.size, l] := fun hm => Nat.lt_irrefl _ (hfp _ hm)
  have nw : ∀ {c : Addr} {o : Obj}, s.heap.get? c = some o → c ∉ [s.heap.objs.size] := fun e hm => by
    rw [List.mem_singleton.mp hm] at e
    exact Nat.lt_irrefl _ (Heap.lt_size e)
  refine wpAny_pure ⟨plainId_quiet F.plain_sum_loop _, codeAny_sum_lists W val s.heap (fun i v hv => ?_) hz _ hSf (by rw [hs2]; exact Nat.le_succ _) hfp items.size 0 _ b 0 cb rfl (Nat.zero_le _)
    (W.frame _ _ _ ⟨hI, hlist⟩ fun b _ o e => Heap.get?_push_of_some _ e) (fun c o _ e => Heap.get?_push_of_some _ (Heap.get?_push_of_some _ e)) (Heap.get?_push_size _ rfl) (hb2.push _) (nw hb) (Nat.ne_of_lt (Heap.lt_size hb2)) ?_ fun h' tk p cp hk hp h1 h2 h3 => ?_⟩
  · obtain ⟨a, c, rfl, ha⟩ := hval i v hv
    exact ⟨a, c, rfl, ha, nw ha⟩
  · exact Heap.lt_size (Heap.get?_push_size _ rfl)
  · refine h h' tk p cp (fun c o e => hk c o (nw e) (Nat.ne_of_lt (Heap.lt_size (Heap.get?_push_of_some _ e))) (Heap.get?_push_of_some _ (Heap.get?_push_of_some _ e))) hp (fun z => h2 z.symm) (fun z => ?_)
    have := h3 z
    rw [hs2] at this
    exact Nat.le_of_lt (Nat.lt_of_succ_lt this)
end
end Dy
namespace Dy
open PySem L2 PyProof.Rows
section
variable {X : Cx}
/-- sum(xs, start): lists put together -/
def rSumL (K : PySem.W.Frag) : List V → Hp → VK → Prop := fun vs H Q => ∃ (a b : Addr) (as : List Addr) (xss : List (List V)), vs = [V.ref a, V.ref b] ∧ SqL K H a (as.map V.ref) ∧ H b = some (.lst []) ∧ as.length = xss.length ∧
  (∀ (i : Nat) (c : Addr) (xs : List V), as[i]? = some c → xss[i]? = some xs → H c = some (.lst xs)) ∧ xss.flatten.length ≤ sizeLine ∧
  ((as = [] → Q (.ref b) H) ∧ (as ≠ [] → ∀ p, H p = none → Q (.ref p) (upd H p (.lst xss.flatten))))
theorem vals_nth : ∀ {xs : List V} {us : List Value} {i : Nat} {u : Value}, Vals xs us → us[i]? = some u → ∃ x, xs[i]? = some x ∧ RelV x u
  | _, _, i, u, .nil, h => by simp at h
  | _, _, 0, u, .cons r t, h => by simp at h; subst h; exact ⟨_, rfl, r⟩
  | _, _, i + 1, u, .cons r t, h => by
    simp at h
    obtain ⟨x, h1, h2⟩ := vals_nth t h
    exact ⟨x, by simpa using h1, h2⟩
theorem vals_append {xs ys : List V} {us vs : List Value} (h : Vals xs us) (k : Vals ys vs) : Vals (xs ++ ys) (us ++ vs) := h.append k
theorem preCat_vals {val : Nat → List Value} : ∀ {xss : List (List V)}, (∀ i xs, xss[i]? = some xs → Vals xs (val i)) → ∀ n, n ≤ xss.length → Vals (xss.take n).flatten (preCat val n)
  | xss, h, 0, _ => by simp only [List.take_zero, List.flatten_nil, preCat]; constructor
  | xss, h, n + 1, hn => by
    have ih := preCat_vals h n (by omega)
    have e : xss[n]? = some xss[n] := List.getElem?_eq_getElem (by omega)
    rw [List.take_succ_eq_append_getElem (by omega), List.flatten_append]
    simp only [preCat]
    refine ih.append ?_
    simpa using h n _ e
theorem cr_sumL (hc : X.calm = true) : CallR X (.builtin "sum") (rSumL X.K) := by
  intro pins s σ H vs us Q I r h
  obtain ⟨a, b, as, xss, rfl, hs, hb, hlen, hall, hz, q1, q2⟩ := h
  obtain ⟨its, rv, hl, _⟩ := I.list hs
  obtain ⟨_, itb, cb, rb, _, eb⟩ := I.lstM hb
  cases rb
  have hus : us = [Value.ref a, Value.ref b] := by
    cases r with
    | cons r t =>
      cases t with
      | cons r2 t2 =>
        cases t2
        cases r
        cases r2
        rfl
  rw [hus]
  have hil : its.length = as.length := by have := rv.length; rw [List.length_map] at this; exact this.symm
  -- each item's list
  have each : ∀ i : Nat, ∃ (vs : List Value), ∀ c xs, as[i]? = some c → xss[i]? = some xs → Vals xs vs ∧ ∃ n, IsL s.heap c vs.toArray n := by
    intro i
    by_cases hi : i < as.length
    · have e1 : as[i]? = some as[i] := List.getElem?_eq_getElem hi
      have e2 : xss[i]? = some xss[i] := List.getElem?_eq_getElem (by omega)
      obtain ⟨_, itc, n, rc, _, ec⟩ := I.lstM (hall i _ _ e1 e2)
      refine ⟨itc, fun c xs h1 h2 => ?_⟩
      rw [e1] at h1; cases h1
      rw [e2] at h2; cases h2
      exact ⟨rc, n, ec⟩
    · exact ⟨[], fun c xs h1 h2 => by rw [List.getElem?_eq_none (by omega)] at h1; cases h1⟩
  let val : Nat → List Value := fun i => (each i).choose
  have hv : ∀ i c xs, as[i]? = some c → xss[i]? = some xs → Vals xs (val i) ∧ ∃ n, IsL s.heap c (val i).toArray n := fun i => (each i).choose_spec
  have hpv : Vals xss.flatten (preCat val xss.length) := by
    have := preCat_vals (val := val) (xss := xss) (fun i xs h => by
      have hi : i < xss.length := (List.getElem?_eq_some_iff.mp h).1
      exact (hv i as[i] xs (List.getElem?_eq_getElem (by omega)) h).1) xss.length (Nat.le_refl _)
    rwa [List.take_length] at this
  have hn : its.toArray.size = xss.length := by rw [List.size_toArray, hil, hlen]
  refine call_sum_lists (I.ok.hd hc) hl.isList eb val (fun i v hi => ?_) (by rw [hn, ← hpv.length]; exact hz) fun h' tk p cp hk hp p1 p2 => ?_
  · rw [List.getElem?_toArray] at hi
    obtain ⟨x, h1, h2⟩ := vals_nth rv hi
    rw [List.getElem?_map] at h1
    cases e : as[i]? with
    | none => rw [e] at h1; cases h1
    | some c =>
      rw [e] at h1
      cases h1
      obtain rfl : v = Value.ref c := h2
      have hi2 : i < as.length := (List.getElem?_eq_some_iff.mp e).1
      obtain ⟨_, n, hn⟩ := hv i c _ e (List.getElem?_eq_getElem (by omega))
      exact ⟨c, n, rfl, hn⟩
  · rw [hn] at hp p1 p2
    by_cases z : as = []
    · have hx : xss = [] := by subst z; exact List.length_eq_zero_iff.mp hlen.symm
      have : p = b := p1 (by rw [hx]; rfl)
      subst this
      exact ⟨.ref _, H, I.kept hk, rfl, q1 z⟩
    · have hx : 0 < xss.length := by rw [← hlen]; exact List.length_pos_iff.mpr z
      have pp := p2 hx
      exact ⟨.ref _, upd H p (.lst xss.flatten), I.laid hk pp ⟨hz, _, cp, hpv, hp⟩, rfl, q2 z p (I.hok.fresh pp)⟩
end
end Dy

set_option Elab.async false
set_option linter.all false
set_option maxRecDepth 100000
set_option maxHeartbeats 4000000
/-! Layer Dy, part V: sum(lists, []), max(list), list(range(n)). -/
namespace Dy
open PySem L2 PyProof.Rows
section
variable {K : PySem.W.Frag} {Hk H : Hp} {M : MS} {ls : List Addr}
/-- a new list that stays as it is -/
theorem Res.newLD {ds : List D} {Q : VK} {vs : List V} {p : Addr} (w : World K Hk H M ls) (q : Res K ls Hk H (.sv (.dt (.lst ds))) M Q) (h : H p = none) (r : RpA K Hk vs ds) : Q (.ref p) (upd H p (.lst vs)) :=
  q (.ref p) (upd Hk p (.lst vs)) (upd H p (.lst vs)) ((w.upd_new h).freeze (w.fresh h).2 upd_same (w.fresh h).1) ((Ext.upd_new h).freeze h (w.fresh h).1)
    (Rp.lst upd_same (RpA.mono (same_upd (w.fresh h).1) r))
end
theorem CallD.two {K : PySem.W.Frag} {r : List V → Hp → VK → Prop} {g : MS → SV → SV → Option R} (h : ∀ (Hk H : Hp) (M : MS) (ls : List Addr) (v u : V) (s t : SV) (z : R) (Q : VK), World K Hk H M ls → SVr K Hk ls ls.length v s → SVr K Hk ls ls.length u t → g M s t = some z → Res K ls Hk H z M Q → r [v, u] H Q) : CallD K r (g2 g) := by
  intro Hk H M ls vs ss z Q w rs e q
  unfold g2 at e
  split at e
  · cases rs with
    | cons r1 t =>
      cases t with
      | cons r2 t2 => cases t2; exact h Hk H M ls _ _ _ _ z Q w r1 r2 e q
  · cases e
def dLists : List D → Option (List (List D))
  | [] => some []
  | .lst xs :: r => match dLists r with
    | some bs => some (xs :: bs)
    | none => none
  | _ => none
theorem dLists_ok {K : PySem.W.Frag} {H : Hp} : ∀ {vs : List V} {ds : List D} {dss : List (List D)}, RpA K H vs ds → dLists ds = some dss → ∃ (as : List Addr) (xss : List (List V)), vs = as.map V.ref ∧ as.length = xss.length ∧ (∀ (i : Nat) (c : Addr) (xs : List V), as[i]? = some c → xss[i]? = some xs → H c = some (.lst xs)) ∧ RpA K H xss.flatten dss.flatten
  | _, _, _, .nil, e => by cases e; exact ⟨[], [], rfl, rfl, by simp, .nil⟩
  | _, _, _, .cons (d := d) (ds := ds) r t, e => by
    cases d with
    | lst xs =>
      unfold dLists at e
      cases h : dLists ds with
      | none => rw [h] at e; cases e
      | some bs =>
        rw [h] at e
        cases e
        obtain ⟨as, xss, h1, h2, h3, h4⟩ := dLists_ok t h
        cases r with
        | lst ha ra =>
          rename_i a ys
          refine ⟨a :: as, ys :: xss, by simp [h1], by simp [h2], ?_, ?_⟩
          · intro i c xs hc hx
            cases i with
            | zero => simp at hc hx; subst hc; subst hx; exact ha
            | succ i => exact h3 i c xs (by simpa using hc) (by simpa using hx)
          · simpa using ra.append h4
    | _ => cases e
def sumLS (M : MS) (s t : SV) : Option R := match listD M s, t with
  | some ds, .dt (.lst []) => match dLists ds with
    | some dss => if dss.flatten.length ≤ sizeLine then some (.sv (.dt (.lst dss.flatten))) else none
    | none => none
  | _, _ => none
theorem calld_sumL {K : PySem.W.Frag} : CallD K (rSumL K) (g2 sumLS) := CallD.two fun Hk H M ls v u s t z Q w rs rt e q => by
  unfold sumLS at e
  split at e
  · rename_i ds hd
    split at e
    · rename_i dss hb
      split at e
      · rename_i hz
        cases e
        obtain ⟨a, vs, rfl, hq, ra⟩ := listD_ok w rs hd
        have rt : Rp K Hk u (.lst []) := rt
        cases rt with
        | lst hb2 rb =>
          rename_i b us
          cases rb
          obtain ⟨as, xss, rfl, h2, h3, h4⟩ := dLists_ok ra hb
          refine ⟨a, b, as, xss, rfl, SqL.of hq, w.sub _ _ hb2, h2, fun i c xs h5 h6 => w.sub _ _ (h3 i c xs h5 h6), by rw [h4.length]; exact hz, fun z => ?_, fun z p hp => q.newLD w hp h4⟩
          subst z
          obtain rfl : xss = [] := List.length_eq_zero_iff.mp h2.symm
          have h4 : RpA K Hk [] dss.flatten := h4
          generalize dss.flatten = L at h4 q
          cases h4
          exact q.dt w (.lst hb2 .nil)
      · cases e
    · cases e
  · cases e
section
variable {X : Cx} {p pos : Pos} {e e2 : Expr} {ms : EM (List SV)}
theorem pm_sumL (B : Blt X.mg) (hc : X.calm = true) (ha : PAm X [e, e2] ms) (hg : Gl X "sum" := by rfl) (he : starEach (e :: [e2]) X.env = (false, eval e X.env) :: starEach [e2] X.env := by rfl) (hpl : (backTo pos (starEach [e2] X.env)).any (·.1) = false := by rfl) : PM X (.Call (.Name "sum" p) [e, e2] [] pos) (eCall (g2 sumLS) ms) := pm_callB (cr_sumL hc) calld_sumL hg (B _ (by decide +kernel)) boot_sum ha (by decide) (by decide) he hpl
end
/-! ### max(list) -/
def maxI : List Int → Int
  | [] => 0
  | [i] => i
  | i :: r => if maxI r ≤ i then i else maxI r
theorem maxI_le : ∀ {ns : List Int}, ∀ m ∈ ns, m ≤ maxI ns
  | [], m, h => by simp at h
  | [i], m, h => by simp at h; subst h; exact Int.le_refl _
  | i :: j :: r, m, h => by
    have ih := maxI_le (ns := j :: r)
    unfold maxI
    rcases List.mem_cons.mp h with rfl | h
    · split <;> omega
    · have := ih m h
      split <;> omega
theorem maxI_mem : ∀ {ns : List Int}, 0 < ns.length → maxI ns ∈ ns
  | [], h => by simp at h
  | [i], _ => by simp [maxI]
  | i :: j :: r, _ => by
    have ih := maxI_mem (ns := j :: r) (by simp)
    unfold maxI
    split
    · simp
    · exact List.mem_cons_of_mem _ ih
def maxS (M : MS) (s : SV) : Option R := match listD M s with
  | some ds => match dInts ds with
    | some bs => if 0 < bs.length then some (.sv (.dt (.int (maxI bs)))) else none
    | none => none
  | none => none
theorem calld_max {K : PySem.W.Frag} : CallD K (rMax K) (g1 maxS) := CallD.one fun Hk H M ls v s z Q w r e q => by
  unfold maxS at e
  split at e
  · rename_i ds hd
    split at e
    · rename_i bs hb
      split at e
      · rename_i hl
        cases e
        obtain ⟨a, vs, rfl, hq, ra⟩ := listD_ok w r hd
        have := dInts_ok ra hb
        subst this
        refine ⟨a, bs, rfl, SqL.of hq, hl, fun m h1 h2 => ?_⟩
        have e1 := maxI_le m h1
        have e2 := h2 _ (maxI_mem hl)
        have : maxI bs = m := by omega
        rw [this] at q
        exact q.dt w (.int _)
      · cases e
    · cases e
  · cases e
section
variable {X : Cx} {p pos : Pos} {e : Expr} {ms : EM (List SV)}
theorem pm_max (B : Blt X.mg) (hc : X.calm = true) (ha : PAm X [e] ms) (hg : Gl X "max" := by rfl) (he : starEach (e :: []) X.env = (false, eval e X.env) :: starEach [] X.env := by rfl) : PM X (.Call (.Name "max" p) [e] [] pos) (eCall (g1 maxS) ms) := pm_callB (cr_max hc) calld_max hg (B _ (by decide +kernel)) boot_max ha (by decide) (by decide) he rfl
end
end Dy

set_option Elab.async false
set_option linter.all false
set_option maxRecDepth 100000
set_option maxHeartbeats 4000000
/-! Layer Dy, part W: dict comprehensions with items. -/
namespace Dy
open PySem L2 PyProof.Rows
section
variable {X : Cx} {pos : Pos} {tg : Expr}
def dcGo (src : Src) (b : Bnd) (c : EM Bool) (ek ev : EM R) (ρ0 : Env) : Nat → Nat → List Key → List D → MS → Option ((List Key × List D) × MS)
  | 0, i, ks, ds, M => if src.stop M i = true then some ((ks, ds), M) else none
  | k + 1, i, ks, ds, M => match src.get M i with
    | none => none
    | some x => match b x ρ0 with
      | none => none
      | some ρ1 => match c ρ1 M with
        | none => none
        | some (false, M1) => dcGo src b c ek ev ρ0 k (i + 1) ks ds M1
        | some (true, M1) => match fz ek ρ1 M1 with
          | none => none
          | some (t, M2) => match keyD t with
            | none => none
            | some key => match fz ev ρ1 M2 with
              | some (.dt d, M3) => if ks.length < sizeLine then dcGo src b c ek ev ρ0 k (i + 1) (putKD key d ks ds).1 (putKD key d ks ds).2 M3 else none
              | _ => none
def eDc (ms : EM Src) (b : Bnd) (c : EM Bool) (ek ev : EM R) (vs : List Nat) : EM R := fun ρ M => match ms ρ M with
  | some (src, M') => match dcGo src b c ek ev (wipeE ρ vs) src.n 0 [] [] M' with
    | some (p, M2) => some (.fd p.1 p.2, M2)
    | none => none
  | none => none
variable {kx vx iter : Expr} {ifs : List Expr} {scope : Scope} {own : List (Str × Nat)} {ms : EM Src} {b : Bnd} {is : List Nat} {mc : EM Bool} {mk me : EM R}
theorem edc_go {vs : List Nat} (hv : ∀ i ∈ is, i ∈ vs) : ∀ σ H Q, tM X.K (eDc ms b mc mk me vs) σ H Q → tDc (tI X.K ms) (tG X.K b is) (tT X.K mc) (tV X.K (fz mk)) (tV X.K (fz me)) vs σ H Q := fun σ H Q ⟨Hk, ls, ρ, M, r, M', w, en, hm, q⟩ => by
  unfold eDc at hm
  cases hr : ms ρ M with
  | none => rw [hr] at hm; cases hm
  | some p =>
    obtain ⟨src, M1⟩ := p
    rw [hr] at hm
    simp only at hm
    cases hcg : dcGo src b mc mk me (wipeE ρ vs) src.n 0 [] [] M1 with
    | none => rw [hcg] at hm; cases hm
    | some p2 =>
      obtain ⟨⟨ks', ds'⟩, M2⟩ := p2
      rw [hcg] at hm
      cases hm
      refine ⟨Hk, ls, ρ, M, src, M1, w, en, hr, fun J Hk1 H1 w1 x1 sr Dl hD => ?_⟩
      obtain ⟨hD1, hD2⟩ := w1.fresh hD
      refine ⟨fun i m H' => ∃ Hk2 M2 acc kvs, World X.K Hk2 H' M2 ls ∧ Ext ls Hk1 H1 Hk2 H' ∧ H' Dl = some (.dK kvs) ∧ Hk2 Dl = none ∧ RpA X.K Hk2 (kvs.map (·.2)) acc ∧ dcGo src b mc mk me (wipeE ρ vs) m i (kvs.map (·.1)) acc M2 = some ((ks', ds'), M'), ?_, ?_⟩
      · exact ⟨src.n, Hk1, M1, [], [], w1.upd_new hD, Ext.upd_new hD, upd_same, hD1, .nil, hcg⟩
      · rintro i m H' ⟨Hk2, M2, acc, kvs, w2, x2, hd2, hk2, ra2, hf⟩
        obtain ⟨sg, ss⟩ := sr Hk2 H' M2 ls w2 x2.kk ⟨[], by simp⟩
        cases m with
        | zero =>
          unfold dcGo at hf
          split at hf
          · rename_i hst
            cases hf
            refine .inl ⟨ss i hst, q (.ref Dl) Hk2 H' w2 (x1.trans x2) ⟨Dl, kvs, rfl, ?_, hk2, hD2, hd2, rfl, ra2⟩⟩
            cases e : H Dl with
            | none => rfl
            | some o => exact absurd hD (x1.st Dl (by rw [e]; simp))
          · cases hf
        | succ m =>
          unfold dcGo at hf
          cases hx : src.get M2 i with
          | none => rw [hx] at hf; cases hf
          | some x =>
            rw [hx] at hf
            simp only at hf
            obtain ⟨go, yl⟩ := sg i x hx
            refine .inr ⟨go, fun H3 => ∃ Hk2 M2 acc kvs, World X.K Hk2 H3 M2 ls ∧ Ext ls Hk1 H1 Hk2 H3 ∧ H3 Dl = some (.dK kvs) ∧ Hk2 Dl = none ∧ RpA X.K Hk2 (kvs.map (·.2)) acc ∧ dcGo src b mc mk me (wipeE ρ vs) m (i + 1) (kvs.map (·.1)) acc M2 = some ((ks', ds'), M'), fun H3 h => ⟨m, Nat.lt_succ_self m, h⟩, fun v H3 hy => ?_⟩
            obtain ⟨Hk3, w3, x3, r3⟩ := yl v H3 hy
            have hd3 : H3 Dl = some (.dK kvs) := x3.fr Dl _ hd2 hD2
            have free : ∀ {Hk5 H5 : Hp}, Ext ls Hk2 H' Hk5 H5 → Hk5 Dl = none := fun {Hk5 H5} x5 => by
              cases e : Hk5 Dl with
              | none => rfl
              | some o =>
                rcases x5.gr Dl (by rw [e]; simp) with z | z
                · exact absurd hk2 z
                · rw [hd2] at z; cases z
            cases hbx : b x (wipeE ρ vs) with
            | none => rw [hbx] at hf; cases hf
            | some ρ3 =>
              rw [hbx] at hf
              simp only at hf
              have enw : EnvR X.K Hk3 ls (L2.wipe σ vs) (wipeE ρ vs) := (en.mono fun a o z => x3.kk a o (x2.kk a o (x1.kk a o z))).wipe vs
              refine ⟨Hk3, ls, wipeE ρ vs, M2, x, ρ3, w3, enw, r3, hbx, fun σ4 en4 hw4 => ⟨by rw [hw4 vs hv, wipe_wipe], ?_⟩⟩
              cases hc : mc ρ3 M2 with
              | none => rw [hc] at hf; cases hf
              | some pc =>
                obtain ⟨k, M4⟩ := pc
                rw [hc] at hf
                refine ⟨Hk3, ls, ρ3, M2, k, M4, w3, en4, hc, fun Hk5 H5 w5 x5 => ?_⟩
                have x35 := x3.trans x5
                cases k with
                | false =>
                  refine iteF ?_
                  exact ⟨Hk5, M4, acc, kvs, w5, x2.trans x35, x5.fr Dl _ hd3 hD2, free x35, ra2.mono x35.kk, hf⟩
                | true =>
                  refine iteT ?_
                  simp only at hf
                  cases hke : fz mk ρ3 M4 with
                  | none => rw [hke] at hf; cases hf
                  | some pk =>
                    obtain ⟨t5, M5⟩ := pk
                    rw [hke] at hf
                    simp only at hf
                    cases hkd : keyD t5 with
                    | none => rw [hkd] at hf; cases hf
                    | some key =>
                      rw [hkd] at hf
                      simp only at hf
                      refine ⟨Hk5, ls, ρ3, M4, t5, M5, w5, en4.mono x5.kk, hke, fun y Hk6 H6 w6 x6 r6 => ?_⟩
                      have hy := keyD_ok r6 hkd
                      cases he : fz me ρ3 M5 with
                      | none => rw [he] at hf; cases hf
                      | some pe =>
                        obtain ⟨s6, M6⟩ := pe
                        rw [he] at hf
                        cases s6 with
                        | mu k => cases hf
                        | dt d =>
                          simp only at hf
                          split at hf
                          · rename_i hz
                            refine ⟨Hk6, ls, ρ3, M5, .dt d, M6, w6, (en4.mono x5.kk).mono x6.kk, he, fun z Hk7 H7 w7 x7 r7 => ?_⟩
                            have x37 := (x35.trans x6).trans x7
                            have hd7 : H7 Dl = some (.dK kvs) := x7.fr Dl _ (x6.fr Dl _ (x5.fr Dl _ hd3 hD2) hD2) hD2
                            have ra7 := ra2.mono x37.kk
                            obtain ⟨p1, p2⟩ := putKD_ok (k := key) (show Rp X.K Hk7 z d from r7) ra7
                            refine ⟨kvs, key, hy, hd7, by rw [List.length_map] at hz; exact hz, Hk7, M6, _, putK kvs key z, w7.upd_other (free x37) hD2, (x2.trans x37).upd_other hD, upd_same, free x37, p2, ?_⟩
                            rw [p1]
                            exact hf
                          · cases hf
theorem pm_dc (hc : X.calm = true) (hN : X.N.Nodup) (hi : PIm X tg iter ms) (ok : BlkOk X.N X.env.scope scope own) (hv : ∀ i ∈ is, i ∈ own.map (·.2))
    (hg : ∀ (s : Shared) (H : Hp) (C : Addr) (cl : List (Str × Addr)) (fp : List Addr), PGm (X.blk s H scope (compEnvC scope cl C X.env) fp) tg b is) (ht : ∀ (s : Shared) (H : Hp) (C : Addr) (cl : List (Str × Addr)) (fp : List Addr), PTsm (X.blk s H scope (compEnvC scope cl C X.env) fp) ifs mc)
    (hk : ∀ (s : Shared) (H : Hp) (C : Addr) (cl : List (Str × Addr)) (fp : List Addr), PM (X.blk s H scope (compEnvC scope cl C X.env) fp) kx mk)
    (he : ∀ (s : Shared) (H : Hp) (C : Addr) (cl : List (Str × Addr)) (fp : List Addr), PM (X.blk s H scope (compEnvC scope cl C X.env) fp) vx me) (hs : ∀ x, foldedSetIterable iter X.env x = pure x := by intro _; rfl) :
    PM X (.DictComp kx vx [⟨tg, iter, ifs, 0⟩] scope pos) (eDc ms b mc mk me (own.map (·.2))) :=
  PE.imp (pe_dc hc hN hi ok hg ht (fun s H C cl fp => PM.v (hk s H C cl fp)) (fun s H C cl fp => PM.v (he s H C cl fp)) hs) (edc_go hv)
end
end Dy

set_option Elab.async false
set_option linter.all false
set_option maxRecDepth 100000
set_option maxHeartbeats 4000000
/-! Layer Dy, part X: list comprehensions with two fors. -/
namespace Dy
open PySem L2 PyProof.Rows
section
variable {X : Cx} {pos : Pos} {tg tg1 : Expr}
def comp2Go (src : Src) (b : Bnd) (c : EM Bool) (ms1 : EM Src) (b1 : Bnd) (c1 : EM Bool) (el : EM R) (vs1 : List Nat) (ρ0 : Env) : Nat → Nat → List D → MS → Option (List D × MS)
  | 0, i, acc, M => if src.stop M i = true then some (acc, M) else none
  | k + 1, i, acc, M => match src.get M i with
    | none => none
    | some x => match b x ρ0 with
      | none => none
      | some ρ1 => match c ρ1 M with
        | none => none
        | some (false, M1) => comp2Go src b c ms1 b1 c1 el vs1 ρ0 k (i + 1) acc M1
        | some (true, M1) => match ms1 ρ1 M1 with
          | none => none
          | some (src1, M2) => match compGo src1 b1 c1 el (wipeE ρ1 vs1) src1.n 0 acc M2 with
            | none => none
            | some (acc', M3) => comp2Go src b c ms1 b1 c1 el vs1 ρ0 k (i + 1) acc' M3
def eComp2 (ms : EM Src) (b : Bnd) (c : EM Bool) (ms1 : EM Src) (b1 : Bnd) (c1 : EM Bool) (el : EM R) (vs vs1 : List Nat) : EM R := fun ρ M => match ms ρ M with
  | some (src, M') => match comp2Go src b c ms1 b1 c1 el vs1 (wipeE ρ vs) src.n 0 [] M' with
    | some (ds, M2) => some (.fr ds, M2)
    | none => none
  | none => none
variable {elt iter iter1 : Expr} {ifs ifs1 : List Expr} {scope : Scope} {own : List (Str × Nat)} {ms ms1 : EM Src} {b b1 : Bnd} {is is1 vs1 : List Nat} {mc mc1 : EM Bool} {me : EM R}
theorem ecomp2_go {vs : List Nat} (hv : ∀ i ∈ is, i ∈ vs) (hv1 : ∀ i ∈ is1, i ∈ vs1) : ∀ σ H Q, tM X.K (eComp2 ms b mc ms1 b1 mc1 me vs vs1) σ H Q → tLc2 (tI X.K ms) (tG X.K b is) (tT X.K mc) (tI X.K ms1) (tG X.K b1 is1) (tT X.K mc1) (tV X.K (fz me)) vs vs1 σ H Q := fun σ H Q ⟨Hk, ls, ρ, M, r, M', w, en, hm, q⟩ => by
  unfold eComp2 at hm
  cases hr : ms ρ M with
  | none => rw [hr] at hm; cases hm
  | some p =>
    obtain ⟨src, M1⟩ := p
    rw [hr] at hm
    simp only at hm
    cases hcg : comp2Go src b mc ms1 b1 mc1 me vs1 (wipeE ρ vs) src.n 0 [] M1 with
    | none => rw [hcg] at hm; cases hm
    | some p2 =>
      obtain ⟨ds, M2⟩ := p2
      rw [hcg] at hm
      cases hm
      refine ⟨Hk, ls, ρ, M, src, M1, w, en, hr, fun J Hk1 H1 w1 x1 sr Dl hD => ?_⟩
      obtain ⟨hD1, hD2⟩ := w1.fresh hD
      refine ⟨fun i m H' => ∃ Hk2 M2 acc vs0, World X.K Hk2 H' M2 ls ∧ Ext ls Hk1 H1 Hk2 H' ∧ H' Dl = some (.lst vs0) ∧ Hk2 Dl = none ∧ RpA X.K Hk2 vs0 acc ∧ comp2Go src b mc ms1 b1 mc1 me vs1 (wipeE ρ vs) m i acc M2 = some (ds, M'), ?_, ?_⟩
      · exact ⟨src.n, Hk1, M1, [], [], w1.upd_new hD, Ext.upd_new hD, upd_same, hD1, .nil, hcg⟩
      · rintro i m H' ⟨Hk2, M2, acc, vs0, w2, x2, hd2, hk2, ra2, hf⟩
        obtain ⟨sg, ss⟩ := sr Hk2 H' M2 ls w2 x2.kk ⟨[], by simp⟩
        cases m with
        | zero =>
          unfold comp2Go at hf
          split at hf
          · rename_i hst
            cases hf
            refine .inl ⟨ss i hst, q (.ref Dl) Hk2 H' w2 (x1.trans x2) ⟨Dl, vs0, rfl, ?_, hk2, hD2, hd2, ra2⟩⟩
            cases e : H Dl with
            | none => rfl
            | some o => exact absurd hD (x1.st Dl (by rw [e]; simp))
          · cases hf
        | succ m =>
          unfold comp2Go at hf
          cases hx : src.get M2 i with
          | none => rw [hx] at hf; cases hf
          | some x =>
            rw [hx] at hf
            simp only at hf
            obtain ⟨go, yl⟩ := sg i x hx
            refine .inr ⟨go, fun H3 => ∃ Hk2 M2 acc vs0, World X.K Hk2 H3 M2 ls ∧ Ext ls Hk1 H1 Hk2 H3 ∧ H3 Dl = some (.lst vs0) ∧ Hk2 Dl = none ∧ RpA X.K Hk2 vs0 acc ∧ comp2Go src b mc ms1 b1 mc1 me vs1 (wipeE ρ vs) m (i + 1) acc M2 = some (ds, M'), fun H3 h => ⟨m, Nat.lt_succ_self m, h⟩, fun v H3 hy => ?_⟩
            obtain ⟨Hk3, w3, x3, r3⟩ := yl v H3 hy
            have hd3 : H3 Dl = some (.lst vs0) := x3.fr Dl _ hd2 hD2
            have free : ∀ {Hk5 H5 : Hp}, Ext ls Hk2 H' Hk5 H5 → Hk5 Dl = none := fun {Hk5 H5} x5 => by
              cases e : Hk5 Dl with
              | none => rfl
              | some o =>
                rcases x5.gr Dl (by rw [e]; simp) with z | z
                · exact absurd hk2 z
                · rw [hd2] at z; cases z
            cases hbx : b x (wipeE ρ vs) with
            | none => rw [hbx] at hf; cases hf
            | some ρ3 =>
              rw [hbx] at hf
              simp only at hf
              have enw : EnvR X.K Hk3 ls (L2.wipe σ vs) (wipeE ρ vs) := (en.mono fun a o z => x3.kk a o (x2.kk a o (x1.kk a o z))).wipe vs
              refine ⟨Hk3, ls, wipeE ρ vs, M2, x, ρ3, w3, enw, r3, hbx, fun σ4 en4 hw4 => ⟨by rw [hw4 vs hv, wipe_wipe], ?_⟩⟩
              cases hc : mc ρ3 M2 with
              | none => rw [hc] at hf; cases hf
              | some pc =>
                obtain ⟨k, M4⟩ := pc
                rw [hc] at hf
                refine ⟨Hk3, ls, ρ3, M2, k, M4, w3, en4, hc, fun Hk5 H5 w5 x5 => ?_⟩
                have x35 := x3.trans x5
                cases k with
                | false =>
                  refine iteF ?_
                  exact ⟨Hk5, M4, acc, vs0, w5, x2.trans x35, x5.fr Dl _ hd3 hD2, free x35, ra2.mono x35.kk, hf⟩
                | true =>
                  refine iteT ?_
                  simp only at hf
                  cases hm1 : ms1 ρ3 M4 with
                  | none => rw [hm1] at hf; cases hf
                  | some pm =>
                    obtain ⟨src1, M5⟩ := pm
                    rw [hm1] at hf
                    simp only at hf
                    cases hcg1 : compGo src1 b1 mc1 me (wipeE ρ3 vs1) src1.n 0 acc M5 with
                    | none => rw [hcg1] at hf; cases hf
                    | some pa =>
                      obtain ⟨accE, ME⟩ := pa
                      rw [hcg1] at hf
                      simp only at hf
                      have en5 : EnvR X.K Hk5 ls σ4 ρ3 := en4.mono x5.kk
                      refine ⟨Hk5, ls, ρ3, M4, src1, M5, w5, en5, hm1, fun J1 Hk6 H6 w6 x6 sr1 => ?_⟩
                      have x36 := x35.trans x6
                      have hd6 : H6 Dl = some (.lst vs0) := x6.fr Dl _ (x5.fr Dl _ hd3 hD2) hD2
                      refine ⟨fun j k H7 => ∃ Hk7 M7 acc7 vs7, World X.K Hk7 H7 M7 ls ∧ (∀ a o, Hk6 a = some o → Hk7 a = some o) ∧ Ext ls Hk1 H1 Hk7 H7 ∧ H7 Dl = some (.lst vs7) ∧ Hk7 Dl = none ∧ RpA X.K Hk7 vs7 acc7 ∧ compGo src1 b1 mc1 me (wipeE ρ3 vs1) k j acc7 M7 = some (accE, ME), ⟨src1.n, Hk6, M5, acc, vs0, w6, fun _ _ h => h, x2.trans x36, hd6, free x36, ra2.mono x36.kk, hcg1⟩, ?_⟩
                      rintro j k H7 ⟨Hk7, M7, acc7, vs7, w7, x67, x17, hd7, hk7, ra7, hf7⟩
                      obtain ⟨sg1, ss1⟩ := sr1 Hk7 H7 M7 ls w7 x67 ⟨[], by simp⟩
                      cases k with
                      | zero =>
                        unfold compGo at hf7
                        split at hf7
                        · rename_i hst
                          injection hf7 with hf7
                          injection hf7 with ea em
                          subst ea
                          subst em
                          exact .inl ⟨ss1 j hst, Hk7, M7, acc7, vs7, w7, x17, hd7, hk7, ra7, hf⟩
                        · cases hf7
                      | succ k =>
                        unfold compGo at hf7
                        cases hx1 : src1.get M7 j with
                        | none => rw [hx1] at hf7; cases hf7
                        | some xx =>
                          rw [hx1] at hf7
                          simp only at hf7
                          obtain ⟨go1, yl1⟩ := sg1 j xx hx1
                          refine .inr ⟨go1, fun H8 => ∃ Hk7 M7 acc7 vs7, World X.K Hk7 H8 M7 ls ∧ (∀ a o, Hk6 a = some o → Hk7 a = some o) ∧ Ext ls Hk1 H1 Hk7 H8 ∧ H8 Dl = some (.lst vs7) ∧ Hk7 Dl = none ∧ RpA X.K Hk7 vs7 acc7 ∧ compGo src1 b1 mc1 me (wipeE ρ3 vs1) k (j + 1) acc7 M7 = some (accE, ME), fun H8 h => ⟨k, Nat.lt_succ_self k, h⟩, fun v1 H8 hy1 => ?_⟩
                          obtain ⟨Hk8, w8, x8, r8⟩ := yl1 v1 H8 hy1
                          have hd8 : H8 Dl = some (.lst vs7) := x8.fr Dl _ hd7 hD2
                          have free7 : ∀ {Hk5 H5 : Hp}, Ext ls Hk7 H7 Hk5 H5 → Hk5 Dl = none := fun {Hk5 H5} x5 => by
                            cases e : Hk5 Dl with
                            | none => rfl
                            | some o =>
                              rcases x5.gr Dl (by rw [e]; simp) with z | z
                              · exact absurd hk7 z
                              · rw [hd7] at z; cases z
                          cases hbx1 : b1 xx (wipeE ρ3 vs1) with
                          | none => rw [hbx1] at hf7; cases hf7
                          | some ρ9 =>
                            rw [hbx1] at hf7
                            simp only at hf7
                            have enw1 : EnvR X.K Hk8 ls (L2.wipe σ4 vs1) (wipeE ρ3 vs1) := (en5.mono fun a o z => x8.kk a o (x67 a o (x6.kk a o z))).wipe vs1
                            refine ⟨Hk8, ls, wipeE ρ3 vs1, M7, xx, ρ9, w8, enw1, r8, hbx1, fun σ9 en9 hw9 => ⟨by rw [hw9 vs1 hv1, wipe_wipe], ?_⟩⟩
                            cases hc1 : mc1 ρ9 M7 with
                            | none => rw [hc1] at hf7; cases hf7
                            | some pc1 =>
                              obtain ⟨kk, M9⟩ := pc1
                              rw [hc1] at hf7
                              refine ⟨Hk8, ls, ρ9, M7, kk, M9, w8, en9, hc1, fun Hk10 H10 w10 x10 => ?_⟩
                              have x810 := x8.trans x10
                              cases kk with
                              | false =>
                                refine iteF ?_
                                exact ⟨Hk10, M9, acc7, vs7, w10, fun a o z => x810.kk a o (x67 a o z), x17.trans x810, x10.fr Dl _ hd8 hD2, free7 x810, ra7.mono x810.kk, hf7⟩
                              | true =>
                                refine iteT ?_
                                simp only at hf7
                                cases he : fz me ρ9 M9 with
                                | none => rw [he] at hf7; cases hf7
                                | some pe =>
                                  obtain ⟨s6, M6⟩ := pe
                                  rw [he] at hf7
                                  cases s6 with
                                  | mu k => cases hf7
                                  | dt d =>
                                    simp only at hf7
                                    split at hf7
                                    · rename_i hz
                                      refine ⟨Hk10, ls, ρ9, M9, .dt d, M6, w10, en9.mono x10.kk, he, fun y Hk11 H11 w11 x11 r11 => ?_⟩
                                      have x811 := x810.trans x11
                                      have hd11 : H11 Dl = some (.lst vs7) := x11.fr Dl _ (x10.fr Dl _ hd8 hD2) hD2
                                      have hDH6 : ∀ {Hka Ha : Hp}, Ext ls Hk1 H1 Hka Ha → Ext ls Hk1 H1 Hka (upd Ha Dl (.lst (vs7 ++ [y]))) := fun x => x.upd_other hD
                                      refine ⟨vs7, hd11, by rw [ra7.length]; exact hz, Hk11, M6, acc7 ++ [d], vs7 ++ [y], w11.upd_other (free7 x811) hD2, fun a o z => x811.kk a o (x67 a o z), hDH6 (x17.trans x811), upd_same, free7 x811, (ra7.mono x811.kk).append (.cons r11 .nil), hf7⟩
                                    · cases hf7
theorem pm_comp2 (hc : X.calm = true) (hN : X.N.Nodup) (hi : PIm X tg iter ms) (ok : BlkOk X.N X.env.scope scope own) (hv : ∀ i ∈ is, i ∈ own.map (·.2)) (hv1 : ∀ i ∈ is1, i ∈ vs1) (hv2 : ∀ i ∈ vs1, i ∈ own.map (·.2))
    (hg : ∀ (s : Shared) (H : Hp) (C : Addr) (cl : List (Str × Addr)) (fp : List Addr), PGm (X.blk s H scope (compEnvC scope cl C X.env) fp) tg b is) (ht : ∀ (s : Shared) (H : Hp) (C : Addr) (cl : List (Str × Addr)) (fp : List Addr), PTsm (X.blk s H scope (compEnvC scope cl C X.env) fp) ifs mc)
    (hi1 : ∀ (s : Shared) (H : Hp) (C : Addr) (cl : List (Str × Addr)) (fp : List Addr), PIm (X.blk s H scope (compEnvC scope cl C X.env) fp) tg1 iter1 ms1)
    (hg1 : ∀ (s : Shared) (H : Hp) (C : Addr) (cl : List (Str × Addr)) (fp : List Addr), PGm (X.blk s H scope (compEnvC scope cl C X.env) fp) tg1 b1 is1) (ht1 : ∀ (s : Shared) (H : Hp) (C : Addr) (cl : List (Str × Addr)) (fp : List Addr), PTsm (X.blk s H scope (compEnvC scope cl C X.env) fp) ifs1 mc1)
    (he : ∀ (s : Shared) (H : Hp) (C : Addr) (cl : List (Str × Addr)) (fp : List Addr), PM (X.blk s H scope (compEnvC scope cl C X.env) fp) elt me) (hs : ∀ x, foldedSetIterable iter X.env x = pure x := by intro _; rfl) (hs1 : ∀ env x, foldedSetIterable iter1 env x = pure x := by intro _ _; rfl) :
    PM X (.ListComp elt [⟨tg, iter, ifs, 0⟩, ⟨tg1, iter1, ifs1, 0⟩] scope pos) (eComp2 ms b mc ms1 b1 mc1 me (own.map (·.2)) vs1) :=
  PE.imp (pe_lc2 hc hN hi ok hv2 hg ht hi1 hg1 ht1 (fun s H C cl fp => PM.v (he s H C cl fp)) hs hs1) (ecomp2_go hv hv1)
end
end Dy

set_option Elab.async false
set_option linter.all false
set_option maxRecDepth 100000
set_option maxHeartbeats 4000000
/-! Layer Dy, part Y: [d[k] for k in d]. -/
namespace Dy
open PySem L2 PyProof.Rows
section
variable {X : Cx}
def lookAll (ks : List Key) (ds : List D) : List Key → Option (List D)
  | [] => some []
  | k :: r => match lookK k ks (ds.map SV.dt) with
    | some (.dt d) => match lookAll ks ds r with
      | some l => some (d :: l)
      | none => none
    | _ => none
theorem lookAll_ok {K : PySem.W.Frag} {Hk : Hp} {kvs : List (Key × V)} {ds : List D} (h : RpA K Hk (kvs.map (·.2)) ds) : ∀ {js : List Key} {rs : List D}, lookAll (kvs.map (·.1)) ds js = some rs →
    ∃ xs : List V, RpA K Hk xs rs ∧ xs.length = js.length ∧ ∀ (i : Nat) (k : Key), js[i]? = some k → ∃ v, valV kvs k = some v ∧ xs[i]? = some v
  | [], rs, e => by
    cases e
    exact ⟨[], .nil, rfl, fun i k e => by simp at e⟩
  | k :: js, rs, e => by
    unfold lookAll at e
    cases h1 : lookK k (kvs.map (·.1)) (ds.map SV.dt) with
    | none => rw [h1] at e; cases e
    | some s =>
      rw [h1] at e
      cases s with
      | mu k => cases e
      | dt d =>
        simp only at e
        cases h2 : lookAll (kvs.map (·.1)) ds js with
        | none => rw [h2] at e; cases e
        | some l =>
          rw [h2] at e
          cases e
          obtain ⟨xs, r1, r2, r3⟩ := lookAll_ok h h2
          obtain ⟨v, v1, v2⟩ := (lookK_ok (k := k) (SVs.ofA (ls := []) (n := 0) h)).2 _ h1
          refine ⟨v :: xs, .cons v2 r1, by simp [r2], fun i k' e => ?_⟩
          cases i with
          | zero =>
            simp at e
            subst e
            exact ⟨v, v1, rfl⟩
          | succ i => exact r3 i k' (by simpa using e)
def eVals (i j : Nat) : EM R := fun ρ M => match ρ[i]? with
  | some (some (.dt (.dct ks ds))) => if ks.length < sizeLine ∧ j < ρ.length then match lookAll ks ds ks with
      | some rs => some (.fr rs, M)
      | none => none
    else none
  | _ => none
theorem evals_go {i j : Nat} {vs : List Nat} (hi : i ∉ vs) (hj : j ∈ vs) : ∀ σ H Q, tM X.K (eVals i j) σ H Q → tLockE (tLc (iKeys (tVar i)) (gName j) tYes (tDGet (tVar i) (tVar j)) vs) σ H Q := fun σ H Q ⟨Hk, ls, ρ, M, r, M', w, en, hm, q⟩ => by
  unfold eVals at hm
  cases hρ : ρ[i]? with
  | none => rw [hρ] at hm; cases hm
  | some o =>
    rw [hρ] at hm
    split at hm
    · rename_i ks ds e
      cases e
      split at hm
      · rename_i hz
        cases hl : lookAll ks ds ks with
        | none => rw [hl] at hm; cases hm
        | some rs =>
          rw [hl] at hm
          cases hm
          obtain ⟨v, hv, rv⟩ := en.2 i _ hρ
          cases rv with
          | @dct a kvs _ xs0 _ ha hk hx ra =>
            subst hk hx
            obtain ⟨xs, x1, x2, x3⟩ := lookAll_ok ra hl
            have hH : H a = some (.dK kvs) := w.sub _ _ ha
            refine ⟨a, .dK kvs, hH, trivial, fun od => ?_⟩
            refine ⟨_, hv, a, od, rfl, .inl ⟨kvs, upd_same, fun Dl hD => ?_⟩⟩
            have hne : Dl ≠ a := fun z => by
              rw [z, upd_same] at hD
              cases hD
            have hD0 : H Dl = none := by
              rw [upd_ne hne] at hD
              exact hD
            have hlen : xs.length = kvs.length := by rw [x2]; simp
            refine ⟨fun n m H' => n + m = kvs.length ∧ H' = upd (upd H a (.frz od (.dK kvs))) Dl (.lst (xs.take n)), ⟨kvs.length, by omega, by simp⟩, ?_⟩
            rintro n m H' ⟨hnm, rfl⟩
            have hfa : upd (upd H a (.frz od (.dK kvs))) Dl (.lst (xs.take n)) a = some (.frz od (.dK kvs)) := by
              rw [upd_ne (fun z => hne z.symm), upd_same]
            cases m with
            | zero =>
              refine .inl ⟨⟨hfa, by omega⟩, hfa, ?_⟩
              have e1 : xs.take n = xs := List.take_of_length_le (by omega)
              have e2 : upd (upd (upd H a (.frz od (.dK kvs))) Dl (.lst (xs.take n))) a (.dK kvs) = upd H Dl (.lst xs) := by
                funext b
                rw [e1]
                by_cases h1 : b = a
                · subst h1
                  rw [upd_same, upd_ne (fun z => hne z.symm), hH]
                · rw [upd_ne h1]
                  by_cases h2 : b = Dl
                  · subst h2
                    rw [upd_same, upd_same]
                  · rw [upd_ne h2, upd_ne h2, upd_ne h1]
              rw [e2]
              exact Res.newL w q hD0 x1
            | succ m =>
              refine .inr ⟨⟨hfa, by omega⟩, fun H3 => H3 = upd (upd H a (.frz od (.dK kvs))) Dl (.lst (xs.take (n + 1))), fun H3 h3 => ⟨m, Nat.lt_succ_self m, by omega, h3⟩, ?_⟩
              rintro x H3 ⟨rfl, k, v', hkv, rfl⟩
              refine ⟨?_, ?_⟩
              · exact (wipe_set hj).trans (wipe_wipe vs)
              · show tDGet (tVar i) (tVar j) _ _ _
                have hji : i ≠ j := fun z => hi (z ▸ hj)
                have hln : j < (wipe σ vs).length := by
                  rw [wipe_length, ← en.1]
                  exact hz.2
                have hks : (kvs.map (·.1))[n]? = some k := by simp [hkv]
                obtain ⟨u, u1, u2⟩ := x3 n k hks
                refine ⟨.ref a, ?_, kV k, ?_, a, u, rfl, .inl ⟨kvs, k, .inr ⟨od, hfa⟩, rfl, u1.symm⟩, _, upd_same, ?_, ?_⟩
                · rw [List.getElem?_set_ne (fun z => hji z.symm), wipe_out hi]
                  exact hv
                · rw [List.getElem?_set_self hln]
                · rw [List.length_take]
                  have := hz.1
                  simp at this
                  omega
                · have e : xs.take (n + 1) = xs.take n ++ [u] := by
                    rw [List.take_add_one, u2]
                    rfl
                  rw [upd_upd, e]
      · cases hm
    · cases hm
theorem pm_vals {i j : Nat} {f t : Str} {scope : Scope} {own : List (Str × Nat)} {p1 p2 p3 p4 p5 pos : Pos} (hc : X.calm = true) (hN : X.N.Nodup) (hu : X.A.units + 1 < cLine) (hf : PE X (.Name f p5) (tVar i)) (ok : BlkOk X.N X.env.scope scope own) (hi : i ∉ own.map (·.2)) (hj : j ∈ own.map (·.2))
    (hg : ∀ (s : Shared) (H : Hp) (C : Addr) (cl : List (Str × Addr)) (fp : List Addr), PG (X.blk s H scope (compEnvC scope cl C X.env) fp) (.Name t p4) (gName j))
    (h1 : ∀ (s : Shared) (H : Hp) (C : Addr) (cl : List (Str × Addr)) (fp : List Addr), PE (X.blk s H scope (compEnvC scope cl C X.env) fp) (.Name f p1) (tVar i))
    (h2 : ∀ (s : Shared) (H : Hp) (C : Addr) (cl : List (Str × Addr)) (fp : List Addr), PE (X.blk s H scope (compEnvC scope cl C X.env) fp) (.Name t p2) (tVar j)) (hs : ∀ x, foldedSetIterable (.Name f p5) X.env x = pure x := by intro _; rfl) :
    PM X (.ListComp (.Subscript (.Name f p1) (.Name t p2) p3) [⟨.Name t p4, .Name f p5, [], 0⟩] scope pos) (eVals i j) :=
  PE.imp (pe_lock (pe_lc hc hN (pi_keys hf) ok hg (fun s H C cl fp => pts_nil) (fun s H C cl fp => pe_dget hu (h1 s H C cl fp) (h2 s H C cl fp) (fun _ _ => rfl)) hs)) (evals_go hi hj)
def eLRg (m : EM R) : EM R := (fz m).seq fun s => fun _ M => match s with
  | .dt (.int n) => if 0 ≤ n ∧ n ≤ 16777216 then some (.fr ((List.range n.toNat).map fun i => D.int (i : Nat)), M) else none
  | _ => none
theorem RpA.rg {K : PySem.W.Frag} {H : Hp} (n : Int) : ∀ l : List Nat, RpA K H (l.map fun i => V.int (0 + (i : Nat))) (l.map fun i => D.int (i : Nat))
  | [] => .nil
  | i :: l => .cons (by show Rp K H (V.int (0 + (i : Nat))) (D.int (i : Nat)); rw [Int.zero_add]; exact .int i) (RpA.rg n l)
theorem pm_listRg {e : Expr} {m : EM R} {p p2 pos pos2 : Pos} (B : Blt X.mg) (hc : X.calm = true) (he : PM X e m) (hg : Gl X "list" := by rfl) (hg2 : Gl X "range" := by rfl) (na : starEach [.Call (.Name "range" p2) [e] [] pos2] X.env = (false, eval (.Call (.Name "range" p2) [e] [] pos2) X.env) :: starEach [] X.env := by rfl) (na2 : starEach [e] X.env = (false, eval e X.env) :: starEach [] X.env := by rfl) :
    PM X (.Call (.Name "list" p) [.Call (.Name "range" p2) [e] [] pos2] [] pos) (eLRg m) :=
  PE.imp (pe_listRg hc hg (B _ (by decide +kernel)) (prg_1 hg2 (B _ (by decide +kernel)) (PM.v he) na2) na) fun σ H Q ⟨Hk, ls, ρ, M, r, M', w, en, hm, q⟩ => by
  obtain ⟨s, M1, h1, h2⟩ := seq_some hm
  refine ⟨Hk, ls, ρ, M, s, M1, w, en, h1, fun v Hk1 H1 w1 x1 r1 => ?_⟩
  split at h2
  · rename_i n
    split at h2
    · rename_i hn
      cases h2
      cases r1
      refine ⟨n, rfl, RgOk.of_le (by omega) (by omega) (by omega) (by omega), fun p hp => ?_⟩
      refine (q.back x1).newL w1 hp ?_
      unfold rgV
      rw [Int.sub_zero]
      exact RpA.rg n _
    · cases h2
  · cases h2
end
end Dy

set_option Elab.async false
set_option linter.all false
set_option maxRecDepth 100000
set_option maxHeartbeats 4000000
/-! Layer Dy, part Z: loops and comprehensions by what is done already. -/
namespace Dy
open PySem L2
section
variable {α : Type} {src : Src} {as : List α} {e : α → SV} {b : Bnd} {body : SM}
theorem split_at {as : List α} {i : Nat} {a : α} (h : as[i]? = some a) : as = as.take i ++ a :: as.drop (i + 1) ∧ as.take (i + 1) = as.take i ++ [a] := by
  obtain ⟨hi, rfl⟩ := List.getElem?_eq_some_iff.mp h
  constructor
  · rw [← List.drop_eq_getElem_cons hi, List.take_append_drop]
  · rw [List.take_add_one, h]
    rfl
theorem for_pre {ms : EM Src} {ρ : Env} {M M0 : MS} (Inv : List α → Env → MS → Prop) (hm : ms ρ M = some (src, M0)) (hs : IsSrc src (as.map e)) (h0 : Inv [] ρ M0)
    (step : ∀ (p : List α) (a : α) (q : List α), as = p ++ a :: q → ∀ ρ M, Inv p ρ M → ∃ ρ1, b (e a) ρ = some ρ1 ∧ ∃ ρ2 M2, body ρ1 M = some (.nx ρ2 M2) ∧ Inv (p ++ [a]) ρ2 M2) : ∃ ρ' M', sFor ms b body ρ M = some (.nx ρ' M') ∧ Inv as ρ' M' := by
  obtain ⟨ρ', M', h1, h2⟩ := for_ix (b := b) (body := body) (fun i ρ M => Inv (as.take i) ρ M) hm hs (by simpa using h0) (fun i x hx ρ M hI => by
    rw [List.getElem?_map] at hx
    cases ha : as[i]? with
    | none => rw [ha] at hx; cases hx
    | some a =>
      rw [ha] at hx
      cases hx
      obtain ⟨s1, s2⟩ := split_at ha
      obtain ⟨ρ1, h1, ρ2, M2, h2, h3⟩ := step _ a _ s1 ρ M hI
      exact ⟨ρ1, h1, ρ2, M2, h2, by rw [s2]; exact h3⟩)
  refine ⟨ρ', M', h1, ?_⟩
  have : as.take (as.map e).length = as := List.take_of_length_le (by simp)
  rw [this] at h2
  exact h2
variable {c : EM Bool} {el : EM R}
theorem comp_pre_go {ρ0 : Env} (hs : IsSrc src (as.map e)) (Inv : List α → List D → MS → Prop) (hl : as.length ≤ sizeLine)
    (step : ∀ (p : List α) (a : α) (q : List α), as = p ++ a :: q → ∀ acc M, Inv p acc M → ∃ ρ1, b (e a) ρ0 = some ρ1 ∧ ((∃ M1, c ρ1 M = some (false, M1) ∧ Inv (p ++ [a]) acc M1) ∨ ∃ M1 r d M2, c ρ1 M = some (true, M1) ∧ el ρ1 M1 = some (r, M2) ∧ r.toSV = .dt d ∧ Inv (p ++ [a]) (acc ++ [d]) M2)) :
    ∀ (k i : Nat) (acc : List D) (M : MS), i + k = as.length → acc.length ≤ i → Inv (as.take i) acc M → ∃ ds M', compGo src b c el ρ0 k i acc M = some (ds, M') ∧ Inv as ds M'
  | 0, i, acc, M, hi, ha, hI => by
    refine ⟨acc, M, ?_, ?_⟩
    · show (if src.stop M i = true then some (acc, M) else none) = _
      rw [hs.stop, if_pos (decide_eq_true (by rw [List.length_map]; omega))]
    · rw [List.take_of_length_le (by omega)] at hI
      exact hI
  | k + 1, i, acc, M, hi, ha, hI => by
    have hx : as[i]? = some as[i] := List.getElem?_eq_getElem (by omega)
    obtain ⟨s1, s2⟩ := split_at hx
    obtain ⟨ρ1, hb, h⟩ := step _ _ _ s1 acc M hI
    unfold compGo
    rw [hs.get, List.getElem?_map, hx]
    simp only [Option.map_some, hb]
    rcases h with ⟨M1, hc, hI1⟩ | ⟨M1, r, d, M2, hc, he, hr, hI2⟩
    · simp only [hc]
      exact comp_pre_go hs Inv hl step k (i + 1) acc M1 (by omega) (by omega) (by rw [s2]; exact hI1)
    · have hf : fz el ρ1 M1 = some (.dt d, M2) := by
        unfold fz EM.seq
        rw [he]
        show some (r.toSV, M2) = _
        rw [hr]
      simp only [hc, hf]
      rw [if_pos (by omega)]
      exact comp_pre_go hs Inv hl step k (i + 1) (acc ++ [d]) M2 (by omega) (by simp; omega) (by rw [s2]; exact hI2)
theorem comp_pre {ms : EM Src} {vs : List Nat} {ρ : Env} {M M0 : MS} (Inv : List α → List D → MS → Prop) (hm : ms ρ M = some (src, M0)) (hs : IsSrc src (as.map e)) (hl : as.length ≤ 16777216) (h0 : Inv [] [] M0)
    (step : ∀ (p : List α) (a : α) (q : List α), as = p ++ a :: q → ∀ acc M, Inv p acc M → ∃ ρ1, b (e a) (wipeE ρ vs) = some ρ1 ∧ ((∃ M1, c ρ1 M = some (false, M1) ∧ Inv (p ++ [a]) acc M1) ∨ ∃ M1 r d M2, c ρ1 M = some (true, M1) ∧ el ρ1 M1 = some (r, M2) ∧ r.toSV = .dt d ∧ Inv (p ++ [a]) (acc ++ [d]) M2)) :
    ∃ ds M', eComp ms b c el vs ρ M = some (.fr ds, M') ∧ Inv as ds M' := by
  obtain ⟨ds, M', h1, h2⟩ := comp_pre_go (ρ0 := wipeE ρ vs) hs Inv (by rw [sizeLine_eq]; exact hl) step as.length 0 [] M0 (by omega) (by simp) (by simpa using h0)
  refine ⟨ds, M', ?_, h2⟩
  unfold eComp
  simp only [hm]
  rw [hs.n, List.length_map, h1]
/-- a comprehension that changes nothing -/
theorem comp_fun {ms : EM Src} {vs : List Nat} {ρ : Env} {M M0 : MS} (p : α → Bool) (f : α → D) (hm : ms ρ M = some (src, M0)) (hs : IsSrc src (as.map e)) (hl : as.length ≤ 16777216)
    (step : ∀ a ∈ as, ∃ ρ1, b (e a) (wipeE ρ vs) = some ρ1 ∧ c ρ1 M0 = some (p a, M0) ∧ (p a = true → ∃ r, el ρ1 M0 = some (r, M0) ∧ r.toSV = .dt (f a))) :
    eComp ms b c el vs ρ M = some (.fr ((as.filter p).map f), M0) := by
  obtain ⟨ds, M', h1, h2, h3⟩ := comp_pre (b := b) (c := c) (el := el) (vs := vs) (fun q acc M => acc = (q.filter p).map f ∧ M = M0) hm hs hl ⟨rfl, rfl⟩ (fun p' a q hq acc M ⟨h1, h2⟩ => by
    subst h1 h2
    obtain ⟨ρ1, hb, hc, he⟩ := step a (by rw [hq]; simp)
    refine ⟨ρ1, hb, ?_⟩
    cases hp : p a with
    | false =>
      rw [hp] at hc
      exact .inl ⟨_, hc, by simp [hp], rfl⟩
    | true =>
      rw [hp] at hc
      obtain ⟨r, h1, h2⟩ := he hp
      exact .inr ⟨_, r, f a, _, hc, h1, h2, by simp [hp], rfl⟩)
  rw [h1, h2, h3]
/-! ### sources -/
theorem isSrc_zip (xs ys : List D) : IsSrc (zipSrc (.dt (.lst xs)) (.dt (.lst ys)) (min xs.length ys.length)) ((xs.zip ys).map fun p => .dt (.tup [p.1, p.2])) where
  n := by simp [zipSrc]
  get := fun M i => by
    simp only [zipSrc, listOf, List.getElem?_map, List.getElem?_zip_eq_some]
    cases h1 : xs[i]? with
    | none =>
      have h2 : (xs.zip ys)[i]? = none := by
        rw [List.getElem?_eq_none_iff] at h1 ⊢
        simp
        omega
      rw [h2]
      simp
    | some x =>
      cases h3 : ys[i]? with
      | none =>
        have h2 : (xs.zip ys)[i]? = none := by
          rw [List.getElem?_eq_none_iff] at h3 ⊢
          simp
          omega
        rw [h2]
        simp
      | some y =>
        have h2 : (xs.zip ys)[i]? = some (x, y) := List.getElem?_zip_eq_some.mpr ⟨h1, h3⟩
        rw [h2]
        simp
  stop := fun M i => by
    simp only [zipSrc, listOf, List.length_map, List.length_zip]
    rw [Bool.eq_iff_iff]
    simp
    omega
theorem isSrc_enum (xs : List D) : IsSrc (enumSrc (.dt (.lst xs)) xs.length) ((List.range xs.length).map fun i => .dt (.tup [.int (i : Nat), xs.getD i .non])) where
  n := by simp [enumSrc]
  get := fun M i => by
    simp only [enumSrc, listOf, List.getElem?_map]
    cases h1 : xs[i]? with
    | none =>
      have h2 : (List.range xs.length)[i]? = none := by
        rw [List.getElem?_eq_none_iff] at h1 ⊢
        simpa using h1
      rw [h2]
      rfl
    | some x =>
      have hi : i < xs.length := (List.getElem?_eq_some_iff.mp h1).1
      have h2 : (List.range xs.length)[i]? = some i := by simp [hi]
      rw [h2]
      simp [h1]
  stop := fun M i => by simp [enumSrc, listOf]
end
/-! ### sums of lists, greatest -/
theorem dLists_map (xss : List (List D)) : dLists (xss.map .lst) = some xss := by
  induction xss with
  | nil => rfl
  | cons x r ih => simp [dLists, ih]
theorem sumLS_ok {M : MS} {xss : List (List D)} (h : xss.flatten.length ≤ 16777216) : sumLS M (.dt (.lst (xss.map .lst))) (.dt (.lst [])) = some (.sv (.dt (.lst xss.flatten))) := by
  unfold sumLS
  have e : listD M (.dt (.lst (xss.map .lst))) = some (xss.map .lst) := by
    unfold listD
    simp only [listOf]
    exact allD_map _
  rw [e]
  simp only [dLists_map]
  rw [if_pos (by rw [sizeLine_eq]; exact h)]
end Dy

set_option Elab.async false
set_option linter.all false
set_option maxRecDepth 100000
set_option maxHeartbeats 4000000
/-! Layer Dy, part Zb: dicts made of a list, their values; two fors. -/
namespace Dy
open PySem L2
section
variable {α : Type} {src : Src} {as : List α} {e : α → SV} {b : Bnd}
theorem putKD_len (k : Key) (d : D) (ks : List Key) (vs : List D) : (putKD k d ks vs).1.length ≤ ks.length + 1 := by
  unfold putKD
  split <;> simp
theorem dc_fun_go {ek ev : EM R} {ρ0 : Env} {M : MS} (kf : α → Key) (f : α → D) (hs : IsSrc src (as.map e)) (hl : as.length ≤ sizeLine)
    (step : ∀ a ∈ as, ∃ ρ1, b (e a) ρ0 = some ρ1 ∧ (∃ r, ek ρ1 M = some (r, M) ∧ keyD r.toSV = some (kf a)) ∧ ∃ r, ev ρ1 M = some (r, M) ∧ r.toSV = .dt (f a)) :
    ∀ (k i : Nat) (ks : List Key) (ds : List D), i + k = as.length → ks.length ≤ i → dcGo src b cYes ek ev ρ0 k i ks ds M = some (mergeD ks ds ((as.drop i).map fun a => (kf a, f a)), M)
  | 0, i, ks, ds, hi, ha => by
    show (if src.stop M i = true then some ((ks, ds), M) else none) = _
    rw [hs.stop, if_pos (decide_eq_true (by rw [List.length_map]; omega)), List.drop_eq_nil_of_le (by omega)]
    rfl
  | k + 1, i, ks, ds, hi, ha => by
    have hlt : i < as.length := by omega
    have hx : as[i]? = some as[i] := List.getElem?_eq_getElem hlt
    obtain ⟨ρ1, hb, ⟨r, h1, h2⟩, r2, h3, h4⟩ := step as[i] (List.getElem_mem _)
    unfold dcGo
    rw [hs.get, List.getElem?_map, hx, List.drop_eq_getElem_cons hlt]
    have hf1 : fz ek ρ1 M = some (r.toSV, M) := by simp [h1]
    have hf2 : fz ev ρ1 M = some (.dt (f as[i]), M) := by simp [h3, h4]
    simp only [Option.map_some, hb, cYes_ev, hf1, h2, hf2]
    rw [if_pos (by omega), dc_fun_go kf f hs hl step k (i + 1) _ _ (by omega) (by have := putKD_len (kf as[i]) (f as[i]) ks ds; omega)]
    rfl
theorem dc_fun {ms : EM Src} {ek ev : EM R} {vs : List Nat} {ρ : Env} {M M0 : MS} (kf : α → Key) (f : α → D) (hm : ms ρ M = some (src, M0)) (hs : IsSrc src (as.map e)) (hl : as.length ≤ 16777216)
    (step : ∀ a ∈ as, ∃ ρ1, b (e a) (wipeE ρ vs) = some ρ1 ∧ (∃ r, ek ρ1 M0 = some (r, M0) ∧ keyD r.toSV = some (kf a)) ∧ ∃ r, ev ρ1 M0 = some (r, M0) ∧ r.toSV = .dt (f a)) :
    eDc ms b cYes ek ev vs ρ M = some (.fd (mergeD [] [] (as.map fun a => (kf a, f a))).1 (mergeD [] [] (as.map fun a => (kf a, f a))).2, M0) := by
  unfold eDc
  simp only [hm]
  rw [hs.n, List.length_map, dc_fun_go (ρ0 := wipeE ρ vs) kf f hs (by rw [sizeLine_eq]; exact hl) step as.length 0 [] [] (by omega) (by simp)]
  rfl
end
theorem pairsD_map {α : Type} (as : List α) (kf : α → Str) (f : α → D) : pairsD (as.map fun a => .tup [.str (kf a), f a]) = some (as.map fun a => (.inr (kf a), f a)) := by
  induction as with
  | nil => rfl
  | cons a r ih => simp [pairsD, keyD, ih]
theorem dictPS_ok {α : Type} {M : MS} (as : List α) (kf : α → Str) (f : α → D) : dictPS M (.dt (.lst (as.map fun a => .tup [.str (kf a), f a]))) = some (.fd (mergeD [] [] (as.map fun a => (.inr (kf a), f a))).1 (mergeD [] [] (as.map fun a => (.inr (kf a), f a))).2) := by
  unfold dictPS
  have e : listD M (.dt (.lst (as.map fun a => .tup [.str (kf a), f a]))) = some (as.map fun a => .tup [.str (kf a), f a]) := by
    unfold listD
    simp only [listOf]
    exact allD_map _
  rw [e]
  simp only [pairsD_map]
/-! ### the dict's values -/
theorem swapD_len (k : Key) (d : D) : ∀ (ks : List Key) (vs : List D), ks.length = vs.length → (swapD k d ks vs).length = ks.length
  | [], vs, h => by cases vs <;> rfl
  | j :: ks, [], h => by simp at h
  | j :: ks, x :: vs, h => by simp [swapD, swapD_len k d ks vs (by simpa using h)]
theorem swapD_mem {P : D → Prop} (k : Key) {d : D} (hd : P d) : ∀ (ks : List Key) (vs : List D), (∀ x ∈ vs, P x) → ∀ x ∈ swapD k d ks vs, P x
  | [], vs, h => by cases vs <;> simp [swapD]
  | j :: ks, [], h => by simp [swapD]
  | j :: ks, y :: vs, h => by
    intro x hx
    simp only [swapD, List.mem_cons] at hx
    rcases hx with rfl | hx
    · split
      · exact hd
      · exact h y (by simp)
    · exact swapD_mem k hd ks vs (fun z hz => h z (by simp [hz])) x hx
structure DOk (P : D → Prop) (ks : List Key) (vs : List D) : Prop where
  nd : ks.Nodup
  ln : ks.length = vs.length
  mm : ∀ x ∈ vs, P x
theorem putKD_inv {P : D → Prop} {k : Key} {d : D} {ks : List Key} {vs : List D} (h : DOk P ks vs) (hd : P d) : DOk P (putKD k d ks vs).1 (putKD k d ks vs).2 := by
  unfold putKD
  split
  · exact ⟨h.nd, (swapD_len k d ks vs h.ln).symm, swapD_mem k hd ks vs h.mm⟩
  · rename_i hn
    refine ⟨?_, by simp [h.ln], fun x hx => ?_⟩
    · simp only
      rw [List.nodup_append]
      refine ⟨h.nd, by simp, fun a ha c hc z => hn ?_⟩
      rw [List.any_eq_true]
      refine ⟨a, ha, ?_⟩
      simp at hc
      simp [z, hc]
    · rcases List.mem_append.mp hx with hx | hx
      · exact h.mm x hx
      · rw [List.mem_singleton.mp hx]; exact hd
theorem mergeD_inv {P : D → Prop} : ∀ (l : List (Key × D)) {ks : List Key} {vs : List D}, DOk P ks vs → (∀ p ∈ l, P p.2) → DOk P (mergeD ks vs l).1 (mergeD ks vs l).2
  | [], ks, vs, h, hl => h
  | (k, d) :: r, ks, vs, h, hl => mergeD_inv r (putKD_inv h (hl (k, d) (by simp))) fun p hp => hl p (by simp [hp])
theorem mergeD_len : ∀ (l : List (Key × D)) {ks : List Key} {vs : List D}, (mergeD ks vs l).1.length ≤ ks.length + l.length
  | [], ks, vs => by simp [mergeD]
  | (k, d) :: r, ks, vs => by
    have := mergeD_len r (ks := (putKD k d ks vs).1) (vs := (putKD k d ks vs).2)
    have := putKD_len k d ks vs
    simp only [mergeD, List.length_cons]
    omega
theorem lookAll_self_go (ks0 : List Key) (vs0 : List D) : ∀ (ks : List Key) (vs : List D), ks.length = vs.length → (∀ (i : Nat) (k : Key) (d : D), ks[i]? = some k → vs[i]? = some d → lookK k ks0 (vs0.map SV.dt) = some (.dt d)) → lookAll ks0 vs0 ks = some vs
  | [], [], _, _ => rfl
  | [], _ :: _, h, _ => by simp at h
  | _ :: _, [], h, _ => by simp at h
  | k :: ks, v :: vs, h, hk => by
    unfold lookAll
    rw [hk 0 k v rfl rfl]
    simp only
    rw [lookAll_self_go ks0 vs0 ks vs (by simpa using h) fun i k d h1 h2 => hk (i + 1) k d (by simpa using h1) (by simpa using h2)]
theorem lookK_at : ∀ (ks : List Key) (vs : List D) (i : Nat) (k : Key) (d : D), ks.Nodup → ks[i]? = some k → vs[i]? = some d → lookK k ks (vs.map SV.dt) = some (.dt d)
  | [], _, i, k, d, _, h, _ => by simp at h
  | j :: ks, [], i, k, d, _, _, h => by simp at h
  | j :: ks, v :: vs, 0, k, d, _, h1, h2 => by
    simp at h1 h2
    subst h1 h2
    simp [lookK]
  | j :: ks, v :: vs, i + 1, k, d, hn, h1, h2 => by
    rw [List.nodup_cons] at hn
    have h1' : ks[i]? = some k := by simpa using h1
    have hne : ¬ j = k := fun z => hn.1 (z ▸ List.mem_of_getElem? h1')
    simp only [List.map_cons, lookK, if_neg hne]
    exact lookK_at ks vs i k d hn.2 h1' (by simpa using h2)
theorem lookAll_self {ks : List Key} {vs : List D} (hn : ks.Nodup) (hl : ks.length = vs.length) : lookAll ks vs ks = some vs :=
  lookAll_self_go ks vs ks vs hl fun i k d h1 h2 => lookK_at ks vs i k d hn h1 h2
theorem eVals_ok {ρ : Env} {M : MS} {i j : Nat} {l : List (Key × D)} (h : ρ[i]? = some (some (.dt (.dct (mergeD [] [] l).1 (mergeD [] [] l).2)))) (hj : j < ρ.length) (hl : l.length < 16777216) : eVals i j ρ M = some (.fr (mergeD [] [] l).2, M) := by
  have ok : DOk (fun _ => True) (mergeD [] [] l).1 (mergeD [] [] l).2 := mergeD_inv l ⟨by simp, rfl, fun _ _ => trivial⟩ fun _ _ => trivial
  have hz := mergeD_len l (ks := []) (vs := [])
  unfold eVals
  rw [h]
  simp only
  rw [if_pos ⟨by rw [sizeLine_eq]; simp at hz; omega, hj⟩, lookAll_self ok.nd ok.ln]
theorem any_false {ks : List Key} {k : Key} (h : k ∉ ks) : (ks.any fun j => decide (j = k)) = false := by
  rw [Bool.eq_false_iff]
  intro z
  rw [List.any_eq_true] at z
  obtain ⟨j, hj, e⟩ := z
  exact h ((of_decide_eq_true e) ▸ hj)
theorem mergeD_new : ∀ (l : List (Key × D)) {ks : List Key} {vs : List D}, (l.map (·.1)).Nodup → (∀ k ∈ l.map (·.1), k ∉ ks) → mergeD ks vs l = (ks ++ l.map (·.1), vs ++ l.map (·.2))
  | [], ks, vs, _, _ => by simp [mergeD]
  | (k, d) :: r, ks, vs, hn, hk => by
    simp only [List.map_cons, List.nodup_cons] at hn
    have e : putKD k d ks vs = (ks ++ [k], vs ++ [d]) := by
      unfold putKD
      rw [any_false (hk k (by simp))]
      rfl
    unfold mergeD
    rw [e, mergeD_new r hn.2 fun j hj z => ?_]
    · simp
    · rcases List.mem_append.mp z with z | z
      · exact hk j (by simp at hj ⊢; exact .inr hj) z
      · rw [List.mem_singleton.mp z] at hj
        exact hn.1 hj
/-! ### two fors -/
section
variable {α : Type} {src : Src} {as : List α} {e : α → SV} {b b1 : Bnd}
theorem comp2_fun_go {ms1 : EM Src} {el : EM R} {vs1 : List Nat} {ρ0 : Env} {M : MS} (g : α → List D) (hs : IsSrc src (as.map e)) (hl : (as.flatMap g).length ≤ sizeLine)
    (step : ∀ a ∈ as, ∃ ρ1, b (e a) ρ0 = some ρ1 ∧ ∃ src1, ms1 ρ1 M = some (src1, M) ∧ IsSrc src1 ((g a).map .dt) ∧ ∀ d ∈ g a, ∃ ρ2, b1 (.dt d) (wipeE ρ1 vs1) = some ρ2 ∧ ∃ r, el ρ2 M = some (r, M) ∧ r.toSV = .dt d) :
    ∀ (k i : Nat) (acc : List D), i + k = as.length → acc = (as.take i).flatMap g → comp2Go src b cYes ms1 b1 cYes el vs1 ρ0 k i acc M = some (as.flatMap g, M)
  | 0, i, acc, hi, ha => by
    show (if src.stop M i = true then some (acc, M) else none) = _
    rw [hs.stop, if_pos (decide_eq_true (by rw [List.length_map]; omega)), ha, List.take_of_length_le (by omega)]
  | k + 1, i, acc, hi, ha => by
    have hlt : i < as.length := by omega
    have hx : as[i]? = some as[i] := List.getElem?_eq_getElem hlt
    obtain ⟨s1, s2⟩ := split_at hx
    obtain ⟨ρ1, hb, src1, h1, h2, h3⟩ := step as[i] (List.getElem_mem _)
    have hacc : (as.take (i + 1)).flatMap g = acc ++ g as[i] := by
      rw [s2, ha, List.flatMap_append]
      simp only [List.flatMap_cons, List.flatMap_nil, List.append_nil]
    have hlen : (acc ++ g as[i]).length ≤ sizeLine := by
      rw [← hacc]
      refine Nat.le_trans ?_ hl
      have e1 : as.flatMap g = (as.take (i + 1)).flatMap g ++ (as.drop (i + 1)).flatMap g := by rw [← List.flatMap_append, List.take_append_drop]
      rw [e1, List.length_append]
      omega
    obtain ⟨ds, M', hc, hI⟩ : ∃ ds M', compGo src1 b1 cYes el (wipeE ρ1 vs1) src1.n 0 acc M = some (ds, M') ∧ (ds = acc ++ g as[i] ∧ M' = M) := by
      have key : ∀ (k' j : Nat) (acc' : List D), j + k' = (g as[i]).length → acc' = acc ++ (g as[i]).take j → compGo src1 b1 cYes el (wipeE ρ1 vs1) k' j acc' M = some (acc ++ g as[i], M) := by
        intro k'
        induction k' with
        | zero =>
          intro j acc' hj he
          show (if src1.stop M j = true then some (acc', M) else none) = _
          rw [h2.stop, if_pos (decide_eq_true (by rw [List.length_map]; omega)), he, List.take_of_length_le (by omega)]
        | succ k' ih =>
          intro j acc' hj he
          have hlj : j < (g as[i]).length := by omega
          have hxj : (g as[i])[j]? = some (g as[i])[j] := List.getElem?_eq_getElem hlj
          obtain ⟨ρ2, hb2, r, hr1, hr2⟩ := h3 _ (List.getElem_mem hlj)
          unfold compGo
          rw [h2.get, List.getElem?_map, hxj]
          have hf : fz el ρ2 M = some (.dt (g as[i])[j], M) := by simp [hr1, hr2]
          simp only [Option.map_some, hb2, cYes_ev, hf]
          rw [if_pos (by
            rw [he, List.length_append, List.length_take]
            rw [List.length_append] at hlen
            omega)]
          exact ih (j + 1) _ (by omega) (by rw [he, (split_at hxj).2, List.append_assoc])
      refine ⟨_, _, ?_, rfl, rfl⟩
      rw [h2.n, List.length_map]
      exact key _ 0 acc (by omega) (by simp)
    unfold comp2Go
    rw [hs.get, List.getElem?_map, hx]
    simp only [Option.map_some, hb, cYes_ev, h1, hc]
    rw [hI.1, hI.2]
    exact comp2_fun_go g hs hl step k (i + 1) _ (by omega) hacc.symm
theorem comp2_fun {ms ms1 : EM Src} {el : EM R} {vs vs1 : List Nat} {ρ : Env} {M M0 : MS} (g : α → List D) (hm : ms ρ M = some (src, M0)) (hs : IsSrc src (as.map e)) (hl : (as.flatMap g).length ≤ 16777216)
    (step : ∀ a ∈ as, ∃ ρ1, b (e a) (wipeE ρ vs) = some ρ1 ∧ ∃ src1, ms1 ρ1 M0 = some (src1, M0) ∧ IsSrc src1 ((g a).map .dt) ∧ ∀ d ∈ g a, ∃ ρ2, b1 (.dt d) (wipeE ρ1 vs1) = some ρ2 ∧ ∃ r, el ρ2 M0 = some (r, M0) ∧ r.toSV = .dt d) :
    eComp2 ms b cYes ms1 b1 cYes el vs vs1 ρ M = some (.fr (as.flatMap g), M0) := by
  unfold eComp2
  simp only [hm]
  rw [hs.n, List.length_map, comp2_fun_go g hs (by rw [sizeLine_eq]; exact hl) step as.length 0 [] (by omega) (by simp)]
end
end Dy

set_option Elab.async false
set_option linter.all false
set_option maxRecDepth 100000
set_option maxHeartbeats 4000000
/-! Layer Dy, part Zc: loops over a list that is changed elsewhere; loops that may return. -/
namespace Dy
open PySem L2
structure SrcAt (src : Src) (xs : List SV) (M : MS) : Prop where
  get : ∀ i, src.get M i = xs[i]?
  stop : ∀ i, src.stop M i = decide (xs.length ≤ i)
section
variable {α : Type} {src : Src} {as : List α} {e : α → SV} {b : Bnd} {body : SM}
theorem for_preM_go (Inv : List α → Env → MS → Prop) (hs : ∀ p ρ M, Inv p ρ M → SrcAt src (as.map e) M)
    (step : ∀ (p : List α) (a : α) (q : List α), as = p ++ a :: q → ∀ ρ M, Inv p ρ M → ∃ ρ1, b (e a) ρ = some ρ1 ∧ ∃ ρ2 M2, body ρ1 M = some (.nx ρ2 M2) ∧ Inv (p ++ [a]) ρ2 M2) :
    ∀ (k i : Nat) (ρ : Env) (M : MS), i + k = as.length → Inv (as.take i) ρ M → ∃ ρ' M', forGo src b body k i ρ M = some (.nx ρ' M') ∧ Inv as ρ' M'
  | 0, i, ρ, M, hi, hI => ⟨ρ, M, by
    show (if src.stop M i = true then some (Out.nx ρ M) else none) = _
    rw [(hs _ _ _ hI).stop, if_pos (decide_eq_true (by rw [List.length_map]; omega))], by
    rw [List.take_of_length_le (by omega)] at hI
    exact hI⟩
  | k + 1, i, ρ, M, hi, hI => by
    have hx : as[i]? = some as[i] := List.getElem?_eq_getElem (by omega)
    obtain ⟨s1, s2⟩ := split_at hx
    obtain ⟨ρ1, hb, ρ2, M2, h1, h2⟩ := step _ _ _ s1 ρ M hI
    obtain ⟨ρ', M', h3, h4⟩ := for_preM_go Inv hs step k (i + 1) ρ2 M2 (by omega) (by rw [s2]; exact h2)
    refine ⟨ρ', M', ?_, h4⟩
    unfold forGo
    rw [(hs _ _ _ hI).get, List.getElem?_map, hx]
    simp only [Option.map_some, hb, h1]
    exact h3
theorem for_preM {ms : EM Src} {ρ : Env} {M M0 : MS} (Inv : List α → Env → MS → Prop) (hm : ms ρ M = some (src, M0)) (hn : src.n = as.length) (hs : ∀ p ρ M, Inv p ρ M → SrcAt src (as.map e) M) (h0 : Inv [] ρ M0)
    (step : ∀ (p : List α) (a : α) (q : List α), as = p ++ a :: q → ∀ ρ M, Inv p ρ M → ∃ ρ1, b (e a) ρ = some ρ1 ∧ ∃ ρ2 M2, body ρ1 M = some (.nx ρ2 M2) ∧ Inv (p ++ [a]) ρ2 M2) : ∃ ρ' M', sFor ms b body ρ M = some (.nx ρ' M') ∧ Inv as ρ' M' := by
  obtain ⟨ρ', M', h3, h4⟩ := for_preM_go Inv hs step as.length 0 ρ M0 (by omega) (by simpa using h0)
  refine ⟨ρ', M', ?_, h4⟩
  unfold sFor
  simp only [hm]
  rw [hn]
  exact h3
theorem for_all_go (p : α → Bool) (Inv : Env → MS → Prop) (Rt : R → MS → Prop) (hs : IsSrc src (as.map e))
    (step : ∀ a ∈ as, ∀ ρ M, Inv ρ M → ∃ ρ1, b (e a) ρ = some ρ1 ∧ ((p a = true ∧ ∃ ρ2 M2, body ρ1 M = some (.nx ρ2 M2) ∧ Inv ρ2 M2) ∨ (p a = false ∧ ∃ r M2, body ρ1 M = some (.rt r M2) ∧ Rt r M2))) :
    ∀ (k i : Nat) (ρ : Env) (M : MS), i + k = as.length → Inv ρ M → ((as.drop i).all p = true ∧ ∃ ρ' M', forGo src b body k i ρ M = some (.nx ρ' M') ∧ Inv ρ' M') ∨ ((as.drop i).all p = false ∧ ∃ r M', forGo src b body k i ρ M = some (.rt r M') ∧ Rt r M')
  | 0, i, ρ, M, hi, hI => .inl ⟨by rw [List.drop_eq_nil_of_le (by omega)]; rfl, ρ, M, by
    show (if src.stop M i = true then some (Out.nx ρ M) else none) = _
    rw [hs.stop, if_pos (decide_eq_true (by rw [List.length_map]; omega))], hI⟩
  | k + 1, i, ρ, M, hi, hI => by
    have hlt : i < as.length := by omega
    have hx : as[i]? = some as[i] := List.getElem?_eq_getElem hlt
    obtain ⟨ρ1, hb, h⟩ := step as[i] (List.getElem_mem _) ρ M hI
    rw [List.drop_eq_getElem_cons hlt, List.all_cons]
    unfold forGo
    rw [hs.get, List.getElem?_map, hx]
    rcases h with ⟨hp, ρ2, M2, h1, h2⟩ | ⟨hp, r, M2, h1, h2⟩
    · simp only [Option.map_some, hb, h1, hp, Bool.true_and]
      exact for_all_go p Inv Rt hs step k (i + 1) ρ2 M2 (by omega) h2
    · right
      simp only [Option.map_some, hb, h1, hp, Bool.false_and]
      exact ⟨trivial, r, M2, rfl, h2⟩
theorem for_all {ms : EM Src} {ρ : Env} {M M0 : MS} (p : α → Bool) (Inv : Env → MS → Prop) (Rt : R → MS → Prop) (hm : ms ρ M = some (src, M0)) (hs : IsSrc src (as.map e)) (h0 : Inv ρ M0)
    (step : ∀ a ∈ as, ∀ ρ M, Inv ρ M → ∃ ρ1, b (e a) ρ = some ρ1 ∧ ((p a = true ∧ ∃ ρ2 M2, body ρ1 M = some (.nx ρ2 M2) ∧ Inv ρ2 M2) ∨ (p a = false ∧ ∃ r M2, body ρ1 M = some (.rt r M2) ∧ Rt r M2))) :
    (as.all p = true ∧ ∃ ρ' M', sFor ms b body ρ M = some (.nx ρ' M') ∧ Inv ρ' M') ∨ (as.all p = false ∧ ∃ r M', sFor ms b body ρ M = some (.rt r M') ∧ Rt r M') := by
  have z := for_all_go p Inv Rt hs step as.length 0 ρ M0 (by omega) h0
  unfold sFor
  simp only [hm]
  rw [hs.n, List.length_map]
  simpa using z
end
/-- a list: a datum, or a thing of the store -/
def LAt (M : MS) (s : SV) (ds : List D) : Prop := s = .dt (.lst ds) ∨ ∃ k, s = .mu k ∧ M[k]? = some (.l (ds.map .dt))
theorem LAt.src {M : MS} {s : SV} {ds : List D} (h : LAt M s ds) : ∃ src, seqSrc M s = some src ∧ src.n = ds.length ∧ ∀ M', LAt M' s ds → SrcAt src (ds.map .dt) M' := by
  rcases h with rfl | ⟨k, rfl, h⟩
  · obtain ⟨src, h1, h2⟩ := isSrc_lst (M := M) (ds := ds)
    exact ⟨src, h1, by rw [h2.n]; simp, fun M' _ => ⟨fun i => h2.get M' i, fun i => h2.stop M' i⟩⟩
  · have e : seqSrc M (.mu k) = some ⟨(ds.map SV.dt).length, fun M' i => match itemsOf M' (.mu k) with
      | some ys => ys[i]?
      | none => none, fun M' i => match itemsOf M' (.mu k) with
      | some ys => decide (ys.length ≤ i)
      | none => false⟩ := by
      simp only [seqSrc, itemsOf_mu h] <;> rfl
    refine ⟨_, e, by simp, fun M' h' => ?_⟩
    rcases h' with z | ⟨k', z, h'⟩
    · cases z
    · cases z
      exact ⟨fun i => by simp only [itemsOf_mu h'], fun i => by simp only [itemsOf_mu h']⟩
theorem LAt.listD {M : MS} {s : SV} {ds : List D} (h : LAt M s ds) : Dy.listD M s = some ds := by
  rcases h with rfl | ⟨k, rfl, h⟩
  · unfold Dy.listD
    simp only [listOf]
    exact allD_map _
  · exact listD_mu h
theorem gAdd_lst {M : MS} {xs ys : List D} (h : xs.length + ys.length ≤ 16777216) : gAdd M (.dt (.lst xs)) (.dt (.lst ys)) = some (.fr (xs ++ ys)) := by
  simp only [gAdd, (LAt.listD (M := M) (s := .dt (.lst xs)) (.inl rfl)), (LAt.listD (M := M) (s := .dt (.lst ys)) (.inl rfl))]
  rw [if_pos (by rw [sizeLine_eq]; exact h)]
theorem dInts_map (ns : List Int) : dInts (ns.map .int) = some ns := by
  induction ns with
  | nil => rfl
  | cons i r ih => simp [dInts, ih]
theorem maxS_lst {M : MS} {ns : List Int} (h : 0 < ns.length) : maxS M (.dt (.lst (ns.map .int))) = some (.sv (.dt (.int (maxI ns)))) := by
  simp only [maxS, (LAt.listD (M := M) (s := .dt (.lst (ns.map .int))) (.inl rfl)), dInts_map]
  rw [if_pos h]
end Dy

set_option Elab.async false
set_option linter.all false
set_option maxRecDepth 100000
set_option maxHeartbeats 4000000
/-! Layer Dy, part O: objects whose fields hold lists and dicts that are changed. -/
namespace Dy
open PySem PySem.Spec PyProof.Rows L2
def lookS (f : Str) : List Str → List SV → Option SV
  | n :: ns, s :: ss => if f = n then some s else lookS f ns ss
  | _, _ => none
def putS (f : Str) (s : SV) : List Str → List SV → List Str × List SV
  | n :: ns, x :: xs => if n = f then (n :: ns, s :: xs) else (n :: (putS f s ns xs).1, x :: (putS f s ns xs).2)
  | _, _ => ([f], [s])
section
variable {K : PySem.W.Frag} {Hk H : Hp} {M M' : MS} {ls : List Addr}
theorem lookS_ok {n0 : Nat} {f : Str} {d : SV} : ∀ {fs : List (Str × V)} {ds : List SV}, SVs K Hk ls n0 (fs.map (·.2)) ds → lookS f (fs.map (·.1)) ds = some d → ∃ v, fs.lookup f = some v ∧ SVr K Hk ls n0 v d
  | [], _, r, e => by cases r; cases e
  | (n, v) :: fs, _, .cons (s := x) (ss := xs) r t, e => by
    have e2 : (if f = n then some x else lookS f (fs.map (·.1)) xs) = some d := e
    by_cases h : f = n
    · rw [if_pos h] at e2
      cases e2
      exact ⟨v, by rw [List.lookup_cons, beq_iff_eq.mpr h], r⟩
    · rw [if_neg h] at e2
      obtain ⟨u, h1, h2⟩ := lookS_ok t e2
      exact ⟨u, by rw [List.lookup_cons, beq_eq_false_iff_ne.mpr h]; exact h1, h2⟩
theorem putS_ok {n0 : Nat} {f : Str} {v : V} {d : SV} (rv : SVr K Hk ls n0 v d) : ∀ {fs : List (Str × V)} {ds : List SV}, SVs K Hk ls n0 (fs.map (·.2)) ds →
    (putF f v fs).map (·.1) = (putS f d (fs.map (·.1)) ds).1 ∧ SVs K Hk ls n0 ((putF f v fs).map (·.2)) (putS f d (fs.map (·.1)) ds).2
  | [], _, r => by cases r; exact ⟨rfl, .cons rv .nil⟩
  | (n, u) :: fs, _, .cons (s := x) (ss := xs) r t => by
    by_cases h : n = f
    · simp only [putF, List.map_cons, putS, if_pos h]
      exact ⟨trivial, .cons rv t⟩
    · obtain ⟨h1, h2⟩ := putS_ok rv (f := f) t
      simp only [putF, List.map_cons, putS, if_neg h]
      exact ⟨by rw [h1], .cons r h2⟩
/-- the handle of an object -/
def muO (M : MS) : SV → Option (Nat × Addr × List Str × List SV)
  | .mu k => match M[k]? with
    | some (.o C ns ds) => some (k, C, ns, ds)
    | _ => none
  | _ => none
theorem muO_ok {v : V} {s : SV} {k : Nat} {C : Addr} {ns : List Str} {ds : List SV} (w : World K Hk H M ls) (r : SVr K Hk ls ls.length v s) (e : muO M s = some (k, C, ns, ds)) :
    ∃ (l dx : Addr) (fs : List (Str × V)), v = .ref l ∧ ls[k]? = some l ∧ M[k]? = some (.o C ns ds) ∧ H l = some (.ins C dx fs) ∧ fs.map (·.1) = ns ∧ SVs K Hk ls ls.length (fs.map (·.2)) ds := by
  unfold muO at e
  split at e
  · rename_i j
    split at e
    · rename_i C' ns' ds' hM
      cases e
      obtain ⟨_, l, hl, rfl⟩ := r
      obtain ⟨l', hl', dx, fs, h1, h2, h3⟩ := w.ms k _ hM
      rw [hl] at hl'
      cases hl'
      exact ⟨l, dx, fs, rfl, hl, hM, h1, h2, h3⟩
    · cases e
  · cases e
end
/-! ### o.f -/
def fldO (C : Addr) (f : Str) (M : MS) (s : SV) : Option SV := match muO M s with
  | some (_, C', ns, ds) => if C' = C then lookS f ns ds else none
  | none => none
def eFldO (C : Addr) (f : Str) (m : EM R) : EM R := (fz m).seq fun s => fun _ M => match fldO C f M s with
  | some d => some (.sv d, M)
  | none => none
section
variable {X : Cx} {e o : Expr} {me mo : EM R} {f : Str} {C : Addr} {pos pos' : Pos}
theorem pm_fldO (c : Cls X.K C) (n : NoAttr X.K C f) (h : PM X e me) (hb : attributeBase e f X.env (eval e X.env) = eval e X.env := by rfl) : PM X (.Attribute e f pos) (eFldO C f me) :=
  PE.imp (pe_fld (PM.v h) hb) fun σ H Q ⟨Hk, ls, ρ, M, r, M', w, en, hm, q⟩ => by
  obtain ⟨s, M1, h1, h2⟩ := seq_some hm
  refine ⟨Hk, ls, ρ, M, s, M1, w, en, h1, fun v Hk1 H1 w1 x1 r1 => ?_⟩
  split at h2
  · rename_i d hd
    cases h2
    unfold fldO at hd
    split at hd
    · rename_i k C' ns ds hi
      split at hd
      · rename_i hC
        subst hC
        obtain ⟨l, dx, fs, rfl, hl, hM, hH, hn, hr⟩ := muO_ok w1 r1 hi
        subst hn
        obtain ⟨u, hu, ru⟩ := lookS_ok hr hd
        exact ⟨l, C', dx, fs, u, rfl, hH, c, n, hu, q u Hk1 H1 w1 x1 ru⟩
      · cases hd
    · cases hd
  · cases h2
/-- o.f = s -/
def putO (C : Addr) (f : Str) (M : MS) (s : SV) (d : SV) : Option MS := match muO M s with
  | some (k, C', ns, ds) => if C' = C ∧ ns.length < 1000 then some (M.set k (.o C (putS f d ns ds).1 (putS f d ns ds).2)) else none
  | none => none
theorem putO_ok {K : PySem.W.Frag} {Hk H : Hp} {M M' : MS} {ls : List Addr} {x v : V} {s d : SV} (w : World K Hk H M ls) (rx : SVr K Hk ls ls.length x s) (rv : SVr K Hk ls ls.length v d) (e : putO C f M s d = some M') :
    ∃ (a dx : Addr) (fs : List (Str × V)), x = .ref a ∧ H a = some (.ins C dx fs) ∧ fs.length < 1000 ∧ World K Hk (upd H a (.ins C dx (putF f v fs))) M' ls ∧ Ext ls Hk H Hk (upd H a (.ins C dx (putF f v fs))) := by
  unfold putO at e
  split at e
  · rename_i k C' ns ds hi
    split at e
    · rename_i hC
      cases e
      obtain ⟨hC, hz⟩ := hC
      subst hC
      obtain ⟨l, dx, fs, rfl, hl, hM, hH, hn, hr⟩ := muO_ok w rx hi
      subst hn
      obtain ⟨p1, p2⟩ := putS_ok (f := f) rv hr
      refine ⟨l, dx, fs, rfl, hH, by rw [List.length_map] at hz; exact hz, w.setM hl hM ⟨dx, _, upd_same, p1, p2⟩, Ext.setM (List.mem_of_getElem? hl)⟩
    · cases e
  · cases e
/-- a fresh thing gets a handle -/
def alloc1 : R → MS → SV × MS
  | .sv s, M => (s, M)
  | .fr ds, M => (.mu M.length, M ++ [.l (ds.map .dt)])
  | .fd ks ds, M => (.mu M.length, M ++ [.d ks (ds.map .dt)])
theorem alloc1_ok {K : PySem.W.Frag} {H0 Hk H : Hp} {M : MS} {ls : List Addr} {v : V} {r : R} (w : World K Hk H M ls) (h : Rr K H0 Hk H ls v r) : ∃ t, World K Hk H (alloc1 r M).2 (ls ++ t) ∧ SVr K Hk (ls ++ t) (ls ++ t).length v (alloc1 r M).1 ∧ ∀ a ∈ t, H0 a = none := by
  cases r with
  | sv s => exact ⟨[], by simpa [alloc1] using w, by rw [List.append_nil]; exact h, by simp⟩
  | fr ds =>
    obtain ⟨a, us, rfl, h0, hn, hl, hh, ha⟩ := h
    refine ⟨[a], w.push (o := .l (ds.map .dt)) hl hn ⟨us, hh, SVs.ofA ha⟩, ⟨by rw [w.len]; simp, a, ?_, rfl⟩, by simpa using h0⟩
    rw [w.len, List.getElem?_append_right (Nat.le_refl _)]
    simp
  | fd ks ds =>
    obtain ⟨a, kvs, rfl, h0, hn, hl, hh, hk, ha⟩ := h
    refine ⟨[a], w.push (o := .d ks (ds.map .dt)) hl hn ⟨kvs, hh, hk, SVs.ofA ha⟩, ⟨by rw [w.len]; simp, a, ?_, rfl⟩, by simpa using h0⟩
    rw [w.len, List.getElem?_append_right (Nat.le_refl _)]
    simp
/-- o.f = e, o a variable's object: a fresh list or dict gets a handle -/
def sFldO (C : Addr) (f : Str) (i : Nat) (me : EM R) : SM := fun ρ M => match me ρ M with
  | some (r, M1) => match ρ[i]? with
    | some (some s) => match putO C f (alloc1 r M1).2 s (alloc1 r M1).1 with
      | some M3 => some (.nx ρ M3)
      | none => none
    | _ => none
  | none => none
theorem psm_fldO {i : Nat} (c : Cls X.K C) (n : NoAttr X.K C f) (ho : PE X o (tVar i)) (he : PM X e me) (hs : swapsWith e (some (.Attribute o f pos')) pos.line X.env = pure false := by rfl) : PSm X (.Assign [.Attribute o f pos'] e pos) (sFldO C f i me) :=
  PS.imp (ps_fld ho he hs) fun E σ H ⟨Hk, ls, ρ, M, r, w, en, hm, q⟩ => by
  unfold sFldO at hm
  cases hr : me ρ M with
  | none => rw [hr] at hm; cases hm
  | some p =>
    obtain ⟨r1, M1⟩ := p
    rw [hr] at hm
    simp only at hm
    cases hρ : ρ[i]? with
    | none => rw [hρ] at hm; cases hm
    | some os =>
      rw [hρ] at hm
      cases os with
      | none => cases hm
      | some s =>
        simp only at hm
        cases hp : putO C f (alloc1 r1 M1).2 s (alloc1 r1 M1).1 with
        | none => rw [hp] at hm; cases hm
        | some M3 =>
          rw [hp] at hm
          cases hm
          refine ⟨Hk, ls, ρ, M, r1, M1, w, en, hr, fun y Hk1 H1 w1 x1 rr => ?_⟩
          obtain ⟨t, w2, s2, n2⟩ := alloc1_ok w1 rr
          obtain ⟨v, hv, rv⟩ := en.2 i s hρ
          have rv2 : SVr X.K Hk1 (ls ++ t) (ls ++ t).length v s := SVr.moreS x1.kk ⟨t, rfl⟩ rv
          obtain ⟨a, dx, fs, rfl, hH, hz, w3, x3⟩ := putO_ok w2 rv2 s2 hp
          refine ⟨_, hv, a, C, dx, fs, rfl, hH, c, n, hz, ?_⟩
          refine q σ Hk1 _ (ls ++ t) w3 ((extS_alloc x1 n2).trans x3.s) ?_
          exact (en.mono x1.kk).extS (ExtS.trans (extS_alloc (Ext.refl ls Hk1 H) n2) (ExtS.refl _ _ _))
end
end Dy

set_option Elab.async false
set_option linter.all false
set_option maxRecDepth 100000
set_option maxHeartbeats 4000000
/-! Layer Dy, part P: defs that are called while an exception is handled, and look at it. -/
namespace Dy
open PySem PySem.Spec PyProof.Rows L2
/-- the promise of a def that is called while p's exception is handled -/
structure FnP (P : Program) (w : PySem.World) (K : PySem.W.Frag) (mg : Str → Option Value) (base : Heap) (CX : CXT) (k : Nat) (f : Addr) (fd : FuncData) (ps : List Str) (sp : Addr × Obj → Sp) : Prop where
  ln : ∀ p vs H Q E, sp p vs H Q E → vs.length = ps.length
  go : ∀ (p : Addr × Obj) (A : Around) (outer : List PySem.Env) (s : Shared) (H : Hp) (args : Args) (us : List Value) (vs : List V) (Q : VK) (E : XK), L2H.Hot1 A p → L2H.PinOk outer H s p → L2H.RoomH k A → Env0 P w K mg base A outer s H →
    BindsTo s fd args (ps.zip us) → Vals vs us → sp p vs H Q E → codeAny (model P w) A (.call (.ref f) args) (CR CX outer P w H s Q E) s
section
variable {P : Program} {w : PySem.World} {K : PySem.W.Frag} {mg : Str → Option Value} {base : Heap} {CX : CXT} {k : Nat} {f : Addr} {fd : FuncData} {ps : List Str} {sp : Addr × Obj → Sp}
theorem FnP.zero : FnP P w K mg base CX 0 f fd ps (fun _ _ _ _ _ => False) := ⟨fun _ _ _ _ _ h => h.elim, fun _ _ _ _ _ _ _ _ _ _ _ _ _ _ _ _ h => h.elim⟩
theorem fnp_of {name qual : Str} {params : Arguments} {body : List Stmt} {scope : Scope} {dV kV doc pm cdv ct oc : Value} {an od : Option Addr} {osl : Array (Option Value)} {N : List Str}
    (lk : K.lookup f = some ⟨oc, od, .func (PySem.W.fnOf name qual params body scope dV kV doc pm an cdv ct), osl⟩) (hcd : PySem.W.codeIn K cdv qual = true) (S : FnScope N ps scope) (ln : ∀ p vs H Q E, sp p vs H Q E → vs.length = ps.length)
    (hbody : ∀ (p : Addr × Obj) (A : Around) (outer : List PySem.Env) (s : Shared) (H : Hp) (vs : List V) (Q : VK) (E : XK), L2H.Hot1 A p → L2H.RoomH k (A.deeper (envOfC qual scope s.heap.objs.size f cdv)) → sp p vs H Q E →
      ∃ t, PSs (L2H.cxH CX P w K mg base N qual scope f cdv A outer s H E p) body t ∧ t { nx := fun _ H' => Q .non H', rt := Q } (L2.start N vs) H) :
    FnP P w K mg base CX (k + 1) f (PySem.W.fnOf name qual params body scope dV kV doc pm an cdv ct) ps sp := by
  constructor
  · exact ln
  · intro p A outer s H args us vs Q E hot hpin hr e0 hb r hsp
    have old : ∀ b o, base.get? b = some o → s.heap.get? b = some o := fun b o e => (e0.bs b o e).1
    have KX := e0.mod.kin.keeps old
    have lim := e0.mod.nolimit.keeps old
    refine codeAny_call_function hr.depth (KX _ _ lk) rfl S.co S.gen rfl (PySem.W.codeRec_of KX hcd) (hb _ _ _ _ ?_)
    refine wpAny_newFunctionEnv_cells S.kind ?_ fun env he s1 x => ?_
    · rintro ⟨n, v⟩ hy
      rcases S.par n (List.of_mem_zip hy).1 with q | q
      · left; exact q
      · right; exact ⟨q, PySem.W.cellsFrom_some _ _ _ (.inl q)⟩
    · cases he
      refine ⟨lim.keeps x.toInCall.keep, codeAny_func ?_⟩
      obtain ⟨t, ht, hq⟩ := hbody p A outer s H vs Q E hot (hr.deeper _) hsp
      have I := L2H.inv_startH (CX := CX) (E := E) (qual := qual) (f := f) (cd := cdv) S hpin e0 (ln _ _ _ _ _ hsp) r x
      refine wpAny_mono (ht.run [] s1 (L2.start N vs) H _ I hq) (fun fl s' hs => ?_) fun _ _ hs => hs
      cases fl with
      | brk => obtain ⟨_, _, _, z⟩ := hs; exact z.elim
      | cont => obtain ⟨_, _, _, z⟩ := hs; exact z.elim
      | next => obtain ⟨σ', H', J, z⟩ := hs; exact ⟨.non, H', J.os, J.bare, J.base, J.hok, rfl, z⟩
      | ret u => obtain ⟨v, σ', H', J, rv, z⟩ := hs; exact ⟨v, H', J.os, J.bare, J.base, J.hok, rv, z⟩
end
section
variable {X : Cx} {CX : CXT} {k : Nat} {f : Addr} {fd : FuncData} {ps : List Str} {sp : Addr × Obj → Sp} {E : L2.St → XK} {x : Str} {q pos : Pos} {e : Expr} {es : List Expr} {t : TA} {p : Addr × Obj}
theorem pe_callP (F : FnP X.prog X.w X.K X.mg X.base CX k f fd ps sp) (hr : L2H.RoomH k X.A) (hot : L2H.Hot1 X.A p) (hp : p ∈ X.pn) (hg : Gl X x) (hm : X.mg x = some (.ref f)) (hk : PySem.W.keepIn X.K (.ref f) = true) (hb : Binds X.K fd ps []) (hx : ∀ σ, PassesAt CX X σ (E σ))
    (ha : PA X (e :: es) t) (hdb : (x == ("__debug__" : Str)) = false := by decide) (he : starEach (e :: es) X.env = (false, eval e X.env) :: starEach es X.env := by rfl) (hpl : (backTo pos (starEach es X.env)).any (·.1) = false := by rfl) :
    PE X (.Call (.Name x q) (e :: es) [] pos) (tCallS (sp p) E t) := by
  constructor
  intro pins s σ H Q I h
  refine wpAny_Call_Name_kw (ld_glob I hg hm (PySem.W.callWith_K (h₀ := X.base) I.ok.mod.kin hk ?_ he hpl) hdb)
  refine thn (ha.run pos pins s σ H _ I h) fun us s1 ⟨vs, H1, I1, r, q⟩ => ⟨I1.kIn, ?_⟩
  have hl : us.length = ps.length := r.length.symm.trans (F.ln _ _ _ _ _ q)
  have b := hb s1 us I1.kIn (by rw [List.append_nil]; exact hl)
  rw [List.append_nil] at b
  obtain ⟨p1, p2, p3, p4, p5⟩ := I1.pin p (List.mem_append_left _ hp)
  have hpin : L2H.PinOk X.stack H1 s1 p := ⟨p1, p2, fun hm => (List.mem_cons.mp (I1.stkSub p.1 hm)).elim p3 p4, p5⟩
  refine wpAny_call (codeAny_mono (F.go p X.A X.stack s1 H1 ⟨us, []⟩ us vs Q (E σ) hot hpin hr I1.env0 b r q) ?_)
  rintro (e | (_ | _ | _ | u)) s' hq
  · exact hx σ pins H1 s1 e s' I1 hq
  all_goals first | exact I1.after hq | exact hq.elim
end
/-! ### the handled exception as a datum -/
/-- the context bears p, an exception of the class at D, its dict at d -/
structure PinX (X : Cx) (p : Addr × Obj) (D : Addr) (d : Option Addr) : Prop where
  mem : p ∈ X.pn
  zc : Zc (.ref D) d p.2
  fl : ∃ vs, p.2.data = .fields vs
theorem PinX.inst {X : Cx} {p : Addr × Obj} {D : Addr} {d : Option Addr} {pins : List (Addr × Obj)} {σ : L2.St} {H : Hp} {s : Shared} {fs : List (Str × V)} (Z : PinX X p D d) (I : Inv X pins σ H s) (hd : ∀ dd, d = some dd → H dd = some (.xd fs)) :
    ∃ od, PySem.W.InstAt s.heap p.1 p.2 D od ∧ ∀ dd, d = some dd → ∃ (o : Obj) (mA : Str → Option Value), od = some o ∧ (∀ n, PySem.W.lookIn n o = some (mA n)) ∧ ∀ n, RelO (fs.lookup n) (mA n) := by
  obtain ⟨hget, _⟩ := I.pin p (List.mem_append_left _ Z.mem)
  obtain ⟨vs, hv⟩ := Z.fl
  obtain ⟨z1, z2⟩ := Z.zc
  have nc : PySem.W.notCls p.2 = true := by unfold PySem.W.notCls; rw [hv] <;> rfl
  cases d with
  | none => exact ⟨none, ⟨hget, z1, nc, by rw [z2]; trivial⟩, fun dd z => nomatch z⟩
  | some dd =>
    have ea := hd dd rfl
    obtain ⟨mA, hns, hr⟩ : ObjOk X.prog X.w H s.heap dd (.xd fs) := I.hok dd _ ea
    obtain ⟨od, ho, hl⟩ := lookIn_ns hns
    refine ⟨some od, ⟨hget, z1, nc, by rw [z2]; exact ho⟩, fun dd' z => ⟨od, mA, rfl, hl, hr⟩⟩
/-- isinstance(e, c) -/
def rIsP (K : PySem.W.Frag) (p : Addr × Obj) (D : Addr) (d : Option Addr) : List V → Hp → VK → Prop := fun xs H Q => ∃ (c : V) (cv : Value) (b : Bool) (fs : List (Str × V)), xs = [.ref p.1, c] ∧ (∀ u, RelV c u → u = cv) ∧ (∀ dd, d = some dd → H dd = some (.xd fs)) ∧ PySem.W.kitOne K (.ref D) cv = some b ∧ Q (.bl b) H
theorem call_isP {X : Cx} {p : Addr × Obj} {D : Addr} {d : Option Addr} (C : ExcC X.K D) (Z : PinX X p D d) : CallR X (.builtin "isinstance") (rIsP X.K p D d) := by
  intro pins s σ H xs us Q I r h
  obtain ⟨c, cv, b, fs, rfl, hcv, hd, e, q⟩ := h
  cases r with
  | cons rx rr =>
    cases rr with
    | cons rt rr =>
      cases rr
      cases rx
      have ec := hcv _ rt
      subst ec
      obtain ⟨od, J, _⟩ := Z.inst I hd
      have hcl : (PySem.W.clsIn X.K D).isSome = true := by
        obtain ⟨cd, hc, _⟩ := PySem.W.any_some C.hd
        rw [hc]
        rfl
      exact PySem.W.kia_one (PySem.W.kitx_exc hcl C.hg C.hk C.hs C.ha C.hn C.ht C.hm) I.kIn J e (fun z => nomatch z) fun tk => ⟨.bl b, H, I.kept (t' := tk) fun _ _ z => z, rfl, q⟩
def eIsP (a : Addr) (d : Option Addr) (b : Bool) (m : EM R) : EM R := (fz m).seq fun s => fun _ M => match s with
  | .dt (.exc a' d' _) => if a' = a ∧ d' = d then some (.sv (.dt (.bl b)), M) else none
  | _ => none
section
variable {X : Cx} {e : Expr} {me : EM R} {pos : Pos} {p0 : Addr × Obj} {D : Addr} {d : Option Addr}
theorem eisP_go {cv : Value} {c : V} {b : Bool} (hcv : ∀ u, RelV c u → u = cv) (hk : PySem.W.kitOne X.K (.ref D) cv = some b) : ∀ σ H Q, tM X.K (eIsP p0.1 d b me) σ H Q → tCB (rIsP X.K p0 D d) (tCons (tV X.K (fz me)) (tCons (tC c) tNil)) σ H Q := fun σ H Q ⟨Hk, ls, ρ, M, r, M', w, en, hm, q⟩ => by
  obtain ⟨s, M1, h1, h2⟩ := seq_some hm
  refine ⟨Hk, ls, ρ, M, s, M1, w, en, h1, fun v Hk1 H1 w1 x1 r1 => ?_⟩
  split at h2
  · rename_i a' d' fs
    split at h2
    · rename_i hz
      obtain ⟨z1, z2⟩ := hz
      subst z1 z2
      cases h2
      cases r1 with
      | exc hd => exact ⟨c, cv, b, fs, rfl, hcv, fun dd z => w1.sub _ _ (hd dd z), hk, q _ Hk1 H1 w1 x1 (Rp.bl _)⟩
    · cases h2
  · cases h2
/-- isinstance(e, C), C an own class -/
theorem pm_isPC {C : Addr} {t : Str} {p p1 : Pos} {b : Bool} (B : Blt X.mg) (EC : ExcC X.K D) (Z : PinX X p0 D d) (hk : PySem.W.kitOne X.K (.ref D) (.ref C) = some b) (hmt : X.mg t = some (.ref C)) (h : PM X e me) (hg : Gl X "isinstance" := by rfl) (hgt : Gl X t := by rfl) (hdt : (t == ("__debug__" : Str)) = false := by decide)
    (he : starEach (e :: [.Name t p1]) X.env = (false, eval e X.env) :: starEach [.Name t p1] X.env := by rfl) (hpl : (backTo pos (starEach [.Name t p1] X.env)).any (·.1) = false := by rfl) (hs1 : starEach (.Name t p1 :: []) X.env = (false, eval (.Name t p1) X.env) :: starEach [] X.env := by rfl) :
    PM X (.Call (.Name "isinstance" p) [e, .Name t p1] [] pos) (eIsP p0.1 d b me) := PE.imp (pe_callB (call_isP EC Z) hg (B _ (by decide +kernel)) PyProof.Rows.boot_isinstance (pa_cons (PM.v h) (pa_cons (pe_glob (v := .ref C) hgt hmt rfl hdt) pa_nil hs1) he) (by decide) (by decide) he hpl) (eisP_go (fun u r => r) hk)
/-- isinstance(e, T), T a built-in class -/
theorem pm_isPT {T : String} {t : Str} {p p1 : Pos} {b : Bool} (B : Blt X.mg) (EC : ExcC X.K D) (Z : PinX X p0 D d) (hk : PySem.W.kitOne X.K (.ref D) (.type T) = some b) (hmt : X.mg t = none) (hbt : bootBuiltins t = some (.type T)) (h : PM X e me) (hg : Gl X "isinstance" := by rfl) (hgt : Gl X t := by rfl) (hdt : (t == ("__debug__" : Str)) = false := by decide) (hnt : t ≠ "__name__" := by decide)
    (he : starEach (e :: [.Name t p1]) X.env = (false, eval e X.env) :: starEach [.Name t p1] X.env := by rfl) (hpl : (backTo pos (starEach [.Name t p1] X.env)).any (·.1) = false := by rfl) (hs1 : starEach (.Name t p1 :: []) X.env = (false, eval (.Name t p1) X.env) :: starEach [] X.env := by rfl) :
    PM X (.Call (.Name "isinstance" p) [e, .Name t p1] [] pos) (eIsP p0.1 d b me) := PE.imp (pe_callB (call_isP EC Z) hg (B _ (by decide +kernel)) PyProof.Rows.boot_isinstance (pa_cons (PM.v h) (pa_cons (pe_bltn (v := .ty T) hgt hmt hbt rfl hnt hdt) pa_nil hs1) he) (by decide) (by decide) he hpl) (eisP_go (fun u r => r) hk)
/-- e.f -/
def eXf (a : Addr) (d : Option Addr) (f : Str) (m : EM R) : EM R := (fz m).seq fun s => fun _ M => match s with
  | .dt (.exc a' d' fs) => if a' = a ∧ d' = d ∧ d.isSome = true then (match fs.lookup f with
    | some (.ref l) => some (.sv (.dt (.raw l)), M)
    | _ => none) else none
  | _ => none
theorem pm_xf {f : Str} (T : XfC X.K D) (Z : PinX X p0 D d) (hno : PySem.W.findIn X.K (.ref D) f = some none) (h : PM X e me) (hb : attributeBase e f X.env (eval e X.env) = eval e X.env := by rfl) : PM X (.Attribute e f pos) (eXf p0.1 d f me) := by
  refine ⟨fun pins s σ H Q I hh => ?_⟩
  obtain ⟨Hk, ls, ρ, M, r, M', w, en, hm, q⟩ := hh
  obtain ⟨s0, M1, h1, h2⟩ := seq_some hm
  have hv := (PM.v h).run pins s σ H (fun v H1 => ∃ (l : Addr) (fs : List (Str × V)) (dd : Addr), v = .ref p0.1 ∧ d = some dd ∧ H1 dd = some (.xd fs) ∧ fs.lookup f = some (.ref l) ∧ Q (.ref l) H1) I ⟨Hk, ls, ρ, M, s0, M1, w, en, h1, fun v Hk1 H1 w1 x1 r1 => by
    split at h2
    · rename_i a' d' fs
      split at h2
      · rename_i hz
        obtain ⟨z1, z2, z3⟩ := hz
        subst z1 z2
        split at h2
        · rename_i l hl
          cases h2
          cases r1 with
          | exc hd =>
            cases d' with
            | none => cases z3
            | some dd => exact ⟨l, fs, dd, rfl, rfl, w1.sub _ _ (hd dd rfl), hl, q _ Hk1 H1 w1 x1 (Rp.raw _)⟩
        · cases h2
      · cases h2
    · cases h2⟩
  refine attr_of hb (thn hv fun u s1 hh => ?_)
  obtain ⟨x, H1, I1, rx, l, fs, dd, ex, ed, ea, hl, q1⟩ := hh
  subst ex
  obtain rfl : u = Value.ref p0.1 := rx
  obtain ⟨od, J, hod⟩ := Z.inst (fs := fs) I1 (fun dd' z => by rw [ed] at z; cases z; exact ea)
  obtain ⟨o, mA, rfl, hl2, hr⟩ := hod dd ed
  obtain ⟨u, hu, ru⟩ := RelO.some_of (v := .ref l) (o := mA f) (by rw [← hl]; exact hr f)
  exact HandSPX.exc_get I1.kIn J T.ga T.gg T.exC (PySem.W.findObj_own T.hdC hno rfl (by rw [hl2, hu])) (handed_of ru) ⟨.ref l, H1, I1.tok _, ru, q1⟩
end
end Dy

set_option Elab.async false
set_option linter.all false
set_option maxRecDepth 100000
set_option maxHeartbeats 4000000
/-! Layer Dy, part Q: objects that hold handles: several fields at once, made by an __init__; keys of dicts; errors as values. -/
namespace Dy
open PySem PySem.Spec PyProof.Rows L2
def putAll (C : Addr) (s : SV) : List Str → List SV → MS → Option MS
  | [], [], M => some M
  | f :: fs, d :: ds, M => match putO C f M s d with
    | some M' => putAll C s fs ds M'
    | none => none
  | _, _, _ => none
def tFsO (K : PySem.W.Frag) (C : Addr) (i : Nat) (fs : List Str) : TGs := fun vs σ H Q => ∃ Hk ls ρ M s ds M', World K Hk H M ls ∧ EnvR K Hk ls σ ρ ∧ SVs K Hk ls ls.length vs ds ∧ ρ[i]? = some (some s) ∧ putAll C s fs ds M = some M' ∧ ∀ Hk' H', World K Hk' H' M' ls → Ext ls Hk H Hk' H' → Q σ H'
section
variable {X : Cx} {o : Expr} {es : List Expr} {f : Str} {fs : List Str} {C : Addr} {i : Nat} {pos : Pos}
theorem pfo_nil : PGs X [] (tFsO X.K C i []) := PGs.imp pgs_nil fun vs σ H Q ⟨Hk, ls, ρ, M, s, ds, M', w, en, ra, hs, hm, q⟩ => by
  cases ds with
  | nil => cases hm; cases ra; exact ⟨rfl, q Hk H w (Ext.refl _ _ _)⟩
  | cons d ds => cases hm
theorem pfo_cons (c : Cls X.K C) (n : NoAttr X.K C f) (ho : PE X o (tVar i)) (hs : PGs X es (tFsO X.K C i fs)) (ha : ∀ v, assign (.Attribute o f pos) X.env v = (do
      let ov ← holding [v] (eval o X.env)
      standAt pos.atName
      holding [v, ov] (setAttr ov f v)
      release [v, ov] []) := by intro _; rfl) (h2 : (assignEach (.Attribute o f pos :: es) X.env).map (·.2) = assign (.Attribute o f pos) X.env :: (assignEach es X.env).map (·.2) := by rfl) : PGs X (.Attribute o f pos :: es) (tFsO X.K C i (f :: fs)) :=
  PGs.imp (pgs_cons (pg_fld ho ha) hs h2) fun vs σ H Q ⟨Hk, ls, ρ, M, s, ds, M', w, en, ra, hs0, hm, q⟩ => by
  cases ds with
  | nil => cases hm
  | cons d ds =>
    unfold putAll at hm
    split at hm
    · rename_i M1 h1
      cases ra with
      | cons rv rt =>
        obtain ⟨v, hv, rs⟩ := en.2 i s hs0
        obtain ⟨a, dx, fs', rfl, hH, hz, w3, x3⟩ := putO_ok w rs rv h1
        exact ⟨_, _, rfl, _, hv, a, C, dx, fs', rfl, hH, c, n, hz, Hk, ls, ρ, M1, s, ds, M', w3, en, rt, hs0, hm, fun Hk' H' w' x' => q Hk' H' w' (x3.trans x')⟩
    · cases hm
def sFldsO (C : Addr) (i : Nat) (fs : List Str) (ms : EM (List R)) : SM := fun ρ M => match ms ρ M with
  | some (rs, M1) => match ρ[i]? with
    | some (some s) => if (allocL rs M1).1.length = fs.length ∧ (allocL rs M1).1.length ≤ sizeLine then (match putAll C s fs (allocL rs M1).1 (allocL rs M1).2 with
      | some M3 => some (.nx ρ M3)
      | none => none) else none
    | _ => none
  | none => none
theorem psm_fldsO {vs : List Expr} {ms : EM (List R)} {kk k2 : Nat} {tpos vpos : Pos} (hc : X.calm = true) (ha : PAR X vs ms) (hg : PGs X es (tFsO X.K C i fs)) (hs : swapsWithSole [.Tuple es kk tpos] (.Tuple vs k2 vpos) pos.line X.env = pure false := by rfl) (hw : swappedStores [.Tuple es kk tpos] (.Tuple vs k2 vpos) X.env = pure none := by rfl)
    (h1 : (assignEach [.Tuple es kk tpos] X.env).map (·.2) = [assign (.Tuple es kk tpos) X.env] := by rfl) (hn : (assignEach es X.env).length = fs.length := by rfl) (hst : (assignEach es X.env).findIdx? (·.1) = none := by rfl) : PSm X (.Assign [.Tuple es kk tpos] (.Tuple vs k2 vpos) pos) (sFldsO C i fs ms) :=
  PS.imp (ps_asg (pe_tup ha) (pg_tup hc hg hn hst) hs hw h1) fun E σ H ⟨Hk, ls, ρ, M, r, w, en, hm, q⟩ => by
  unfold sFldsO at hm
  split at hm
  · rename_i rs M1 h1
    split at hm
    · rename_i s hs0
      split at hm
      · rename_i hlen
        split at hm
        · rename_i M3 h3
          cases hm
          refine ⟨Hk, ls, ρ, M, rs, M1, w, en, h1, fun vs Hk1 H1 w1 x1 k1 => ?_⟩
          obtain ⟨t, w2, s2, n2⟩ := alloc_ok w1 k1
          refine ⟨by rw [s2.length]; exact hlen.2, fun p hp => ?_⟩
          have w3 := w2.upd_new (o := .tup vs) hp
          have xs := extS_alloc (x1.trans (Ext.upd_new (o := .tup vs) hp)) n2
          exact ⟨p, vs, rfl, .inl (.inl upd_same), by rw [s2.length]; exact hlen.1, Hk1, ls ++ t, ρ, _, s, _, M3, w3, en.extS xs, s2, hs0, h3, fun Hk' H' w' x' => q _ Hk' H' _ w' (xs.trans x'.s) ((en.extS xs).mono x'.kk)⟩
        · cases hm
      · cases hm
    · cases hm
  · cases hm
end
/-! ### an __init__ whose handles stay -/
def runU (b : SM) (n : Nat) : Fn := fun ss M => match b (ss.map some ++ List.replicate (n - ss.length) none) M with
  | some (.nx _ M') => some (.sv (.dt .non), M')
  | _ => none
def spU (K : PySem.W.Frag) (n : Nat) (g : Fn) : Sp := fun vs H Q E => ∃ Hk ls M ss M', World K Hk H M ls ∧ SVs K Hk ls ls.length vs ss ∧ ss.length = n ∧ g ss M = some (.sv (.dt .non), M') ∧ ∀ Hk' H' ls', World K Hk' H' M' ls' → ExtS ls ls' Hk H Hk' H' → Q .non H'
theorem bodyU_go {K : PySem.W.Frag} {H : Hp} {E : XK} {N : List Str} {b : SM} {n : Nat} {vs : List V} {Q : VK} (h : spU K n (runU b N.length) vs H Q E) : tS K b { nx := fun _ H' => Q .non H', rt := Q } (L2.start N vs) H := by
  obtain ⟨Hk, ls, M, ss, M', w, r, hn, hf, q⟩ := h
  unfold runU at hf
  split at hf
  · rename_i ρ M1 hb
    cases hf
    exact ⟨Hk, ls, _, M, _, w, start_env r, hb, fun σ' Hk' H' ls' w' x' en' => q Hk' H' ls' w' x'⟩
  · cases hf
theorem spU_len {K : PySem.W.Frag} {n : Nat} {f : Fn} {ps : List Str} (h : ps.length = n) : ∀ vs H Q E, spU K n f vs H Q E → vs.length = ps.length := fun vs H Q E ⟨Hk, ls, M, ss, M', w, r, hn, _⟩ => by
  rw [r.length, hn, h]
theorem FunDG.okU {P : Program} {w : PySem.World} {K : PySem.W.Frag} {mg : Str → Option Value} {base : Heap} {x qual : Str} {params : Arguments} {body : List Stmt} {scope : Scope} {dvs : List V} {kws : List (Str × V)} {f : Addr} {fd : FuncData} {N ps : List Str} {k : Nat} {b : SM} {n : Nat} (F : FunD K x qual params body scope dvs kws f fd) (S : FnScope N ps scope) (hl : ps.length = n)
    (hbody : ∀ (cdv : Value) (A : Around) (outer : List PySem.Env) (s : Shared) (H : Hp) (E : XK), A.guards = some [] → Room k (A.deeper (envOfC qual scope s.heap.objs.size f cdv)) → PSsm (cxOf CX0 P w K mg base N qual scope f cdv A outer s H E).nox body b) : FnG P w K mg base CX0 (k + 1) f fd ps (spU K n (runU b N.length)) := by
  obtain ⟨oc, od, dV, kV, doc, pm, an, cdv, ct, osl, rfl, lk, hcd, _, _⟩ := F.ex
  exact fng_of lk hcd S (spU_len hl) fun A outer s H vs Q E hgd hr h => ⟨_, (hbody cdv A outer s H E hgd hr).nox, bodyU_go h⟩
def eMakeO (C : Addr) (g : Fn) (ms : EM (List SV)) : EM R := ms.seq fun ss => fun _ M => match g (.mu M.length :: ss) (M ++ [.o C [] []]) with
  | some (.sv (.dt .non), M') => match M'[M.length]? with
    | some (.o C' _ _) => if C' = C ∧ cutOk M' M.length = true then some (.sv (.dt (.obj C)), M'.take M.length) else none
    | _ => none
  | _ => none
section
variable {X : Cx} {k : Nat} {f C : Addr} {fd : FuncData} {ps : List Str} {x : Str} {p pos : Pos} {e : Expr} {es : List Expr}
theorem emakeO_go {n : Nat} {g : Fn} {ms : EM (List SV)} {E : XK} (O : ObjC X.K C) (hn : ∀ ρ M ss M', ms ρ M = some (ss, M') → ss.length + 1 = n) : ∀ σ H Q, tM X.K (eMakeO C g ms) σ H Q → tMake C (spU X.K n g) [] E (tA X.K ms) σ H Q := fun σ H Q ⟨Hk, ls, ρ, M, z, M', w, en, hm, q⟩ => by
  obtain ⟨ss, M1, h1, h2⟩ := seq_some hm
  refine ⟨Hk, ls, ρ, M, ss, M1, w, en, h1, fun vs Hk1 H1 w1 x1 r1 => ?_⟩
  intro x dx hx hdx hne
  rw [List.append_nil]
  split at h2
  · rename_i M2 hg
    split at h2
    · rename_i C' ns ds hM2
      split at h2
      · rename_i hC
        obtain ⟨hC, hcut⟩ := hC
        subst hC
        cases h2
        have fx := w1.fresh hx
        have wA : World X.K Hk1 (upd (upd H1 dx (.own x)) x (.ins C' dx [])) M1 ls := (w1.upd_new hdx).upd_new (by rw [upd_ne (Ne.symm hne)]; exact hx)
        have wB := wA.push (l := x) (o := .o C' [] []) fx.2 fx.1 ⟨dx, [], upd_same, rfl, .nil⟩
        have old : ∀ a, H1 a ≠ none → a ≠ x ∧ a ≠ dx := fun a h => ⟨fun z => h (z ▸ hx), fun z => h (z ▸ hdx)⟩
        refine ⟨Hk1, ls ++ [x], M1 ++ [.o C' [] []], .mu M1.length :: ss, M2, wB, .cons ⟨by rw [w1.len]; simp, x, by rw [w1.len, List.getElem?_append_right (Nat.le_refl _)]; simp, rfl⟩ ((SVs.more r1).up (by simp)), hn ρ M ss M1 h1, hg, ?_⟩
        intro Hk2 H2 ls2 w2 x2
        refine ⟨rfl, ?_⟩
        obtain ⟨t, rfl⟩ := x2.pre
        have hlen : M1.length = ls.length := w1.len
        rw [hlen] at hM2 hcut q
        obtain ⟨l, hl, dx', fs, hH, _, _⟩ := w2.ms _ _ hM2
        rw [List.append_assoc, List.getElem?_append_right (Nat.le_refl _)] at hl
        have el : x = l := by simpa using hl
        subst el
        have w2' := w2
        rw [List.append_assoc] at w2'
        have w3 := w2'.cut hcut
        have hxl : x ∈ ls ++ [x] ++ t := by simp
        have hk2 : Hk2 x = none := w2.dj x hxl
        have x3 : Ext ls Hk1 H1 Hk2 H2 := by
          refine ⟨x2.kk, fun a o h hn => ?_, fun a h => ?_, fun a h => ?_⟩
          · obtain ⟨n1, n2⟩ := old a (by rw [h]; simp)
            refine x2.fr a o (by rw [upd_ne n1, upd_ne n2]; exact h) fun z => ?_
            rcases List.mem_append.mp z with z | z
            · exact hn z
            · exact n1 (List.mem_singleton.mp z)
          · rcases x2.gr a h with h | h
            · exact .inl h
            · right
              cases e : H1 a with
              | none => rfl
              | some o =>
                obtain ⟨n1, n2⟩ := old a (by rw [e]; simp)
                rw [upd_ne n1, upd_ne n2, e] at h
                cases h
          · obtain ⟨n1, n2⟩ := old a h
            exact x2.st a (by rw [upd_ne n1, upd_ne n2]; exact h)
        refine q (.ref x) (upd Hk2 x (.ins C' dx' fs)) H2 (w3.freeze fx.2 hH hk2) (x1.trans (x3.freeze hx hk2)) ?_
        exact Rp.obj upd_same O
      · cases h2
    · cases h2
  · cases h2
structure MakeOkU (P : Program) (w : PySem.World) (K : PySem.W.Frag) (mg : Str → Option Value) (base : Heap) (k : Nat) (x : Str) (C f : Addr) (fd : FuncData) (ps : List Str) (g : Fn) : Prop where
  gl : mg x = some (.ref C)
  ob : ObjC K C
  mr : Mk K C f
  bd : Binds K fd ps []
  ok : FnG P w K mg base CX0 k f fd ps (spU K ps.length g)
theorem pm_makeO {g : Fn} {ms : EM (List SV)} (F : MakeOkU X.prog X.w X.K X.mg X.base k x C f fd ps g) (hgd : X.A.guards = some []) (hr : Room (k + 1) X.A) (ha : PAm X (e :: es) ms) (hn : ∀ ρ M ss M', ms ρ M = some (ss, M') → ss.length + 1 = ps.length)
    (hg : Gl X x := by rfl) (hdb : (x == ("__debug__" : Str)) = false := by decide) (he : starEach (e :: es) X.env = (false, eval e X.env) :: starEach es X.env := by rfl) (hpl : (backTo pos (starEach es X.env)).any (·.1) = false := by rfl) :
    PM X (.Call (.Name x p) (e :: es) [] pos) (eMakeO C g ms) := PE.imp (pe_makeG F.mr F.ok hgd hr hg F.gl F.bd .nil pass0 ha hdb he hpl) (emakeO_go F.ob hn)
end
/-! ### key not in a dict -/
def rNotInK : R2 := fun x y H Q => ∃ a kvs k, y = .ref a ∧ H a = some (.dK kvs) ∧ x = kV k ∧ Q (.bl (!(valV kvs k).isSome)) H
theorem op_notInK {X : Cx} (hu : X.A.units + 1 < cLine) : OpR X (compareOp .NotIn) rNotInK := by
  intro pins s σ H x y v u Q I rx ry h
  obtain ⟨a, kvs, k, rfl, hH, rfl, q⟩ := h
  cases (show u = Value.ref a from ry)
  exact d_notIn hu I (.inl ⟨kvs, k, .inl hH, rfl, rfl⟩) rx fun s' I' => ⟨.bl _, H, I', rfl, q⟩
def gNotInK (M : MS) (s t : SV) : Option R := match dictOf M t, keyD s with
  | some (ks, xs), some k => rB (!(lookK k ks xs).isSome)
  | _, _ => none
theorem opd_notInK {K : PySem.W.Frag} : OpD K rNotInK gNotInK := by
  intro Hk H M ls x y s t z Q w rx ry e q
  unfold gNotInK at e
  split at e
  · rename_i ks xs k hd hk
    cases e
    obtain ⟨a, kvs, rfl, hH, rfl, hsv⟩ := dictOf_ok w ry hd
    have ey := keyD_ok rx hk
    subst ey
    obtain ⟨l1, l2⟩ := lookK_ok (k := k) hsv
    refine ⟨a, kvs, k, rfl, hH, rfl, ?_⟩
    have e : (valV kvs k).isSome = (lookK k (kvs.map (·.1)) xs).isSome := by
      cases hl : lookK k (kvs.map (·.1)) xs with
      | none => rw [l1 hl]; rfl
      | some x => obtain ⟨v, hv, _⟩ := l2 x hl; rw [hv]; rfl
    rw [e]
    exact q _ Hk H w (Ext.refl _ _ _) (Rp.bl _)
  · cases e
theorem ptm_notInK {X : Cx} {a b : Expr} {ma mb : EM R} {pos : Pos} (hu : X.A.units + 64 < cLine) (ha : PM X a ma) (hb : PM X b mb) (hm : behindInMarks .NotIn b = false := by rfl) : PTm X (.Compare a [.NotIn] [b] pos) (eBool (eBin gNotInK ma mb)) := ptm_cmp (op_notInK (by omega)) opd_notInK ha hb hm
/-! ### an error as a value -/
def eExcV (n : Nat) (ms : EM (List SV)) : EM R := ms.seq fun ss => fun _ M => if ss.length = n ∧ n ≤ 1000 then some (.sv (.dt .opq), M) else none
theorem pm_excV {X : Cx} {a : Expr} {as : List Expr} {nm : Str} {C fI : Addr} {names : List Str} {ms : EM (List SV)} {p pos : Pos} {k : Nat} (O : Ex.Own X.prog X.w X.K X.mg nm C fI names) (hr : Room k X.A) (ha : PAm X (a :: as) ms) (hg : Gl X nm := by rfl)
    (he : starEach (a :: as) X.env = (false, eval a X.env) :: starEach as X.env := by rfl) (hpl : (backTo pos (starEach as X.env)).any (·.1) = false := by rfl) (hd : (nm == ("__debug__" : Str)) = false := by decide) :
    PM X (.Call (.Name nm p) (a :: as) [] pos) (eExcV names.length ms) := by
  refine ⟨fun pins s σ H Q I h => ?_⟩
  obtain ⟨Hk, ls, ρ, M, r, M', w, en, hm, q⟩ := h
  obtain ⟨ss, M1, h1, h2⟩ := seq_some hm
  refine wpAny_Call_Name_kw (ld_glob I hg O.gC ?_ hd)
  refine PySem.W.callWith_K (h₀ := X.base) I.ok.mod.kin O.T.kC (thn (ha.run pos pins s σ H (fun vs H1 => vs.length = names.length ∧ vs.length ≤ 1000 ∧ ∀ e, Q (.ref e) H1) I ⟨Hk, ls, ρ, M, ss, M1, w, en, h1, fun vs Hk1 H1 w1 x1 r1 => ?_⟩) fun us s1 hh => ?_) he hpl
  · split at h2
    · rename_i hz
      cases h2
      exact ⟨by rw [r1.length]; exact hz.1, by rw [r1.length, hz.1]; exact hz.2, fun e => q _ Hk1 H1 w1 x1 (Rp.opq _)⟩
    · cases h2
  · obtain ⟨vs, H1, I1, r1, hl, hz, q1⟩ := hh
    refine ⟨I1.kIn, ?_⟩
    show wpAny _ _ (call (.ref C) us) _ _ _
    have hlim := I1.nolimit
    have S := Ex.spaces I1 O.sup O.top
    have hlu : us.length = names.length := by rw [← r1.length]; exact hl
    obtain ⟨hp, g, dr, tk, os⟩ := s1
    refine wpAny_call (Ex.made O.T O.iC O.tI (O.init us hlu) I1.kIn S hlim (by have := hr.dp; omega) (by rw [sizeLine_eq, hlu]; omega) fun h' tk' e d hdx M => ?_)
    exact ⟨.ref e, H1, I1.kept (t' := tk') M.keep, rfl, q1 e⟩
end Dy

set_option Elab.async false
set_option linter.all false
set_option maxRecDepth 100000
set_option maxHeartbeats 4000000
/-! Layer Dy: the head's run in parts, each its own evaluation; the addresses that are looked at are written down. -/
namespace Dy
open PySem PySem.W PySem.Calls PyProof.Rows HandSHeadRun
def obsY (as : List Addr) (chk : Frag → Bool) (fn : List He.DefD) (g : Addr → Option Obj) : He.AlD := (fun K => (chk K && fn.all fun d => d.ok K, fn.map fun d => He.fnW K d.at_)) (He.frG g as)
def hookY (as : List Addr) (chk : Frag → Bool) (fn : List He.DefD) : Hook where
  α := He.AlD
  obs := fun s => obsY as chk fn s.heap.get?
  val := fun _ => He.valD fn
  says := fun _ h => ∃ K : Frag, K.In h ∧ SaysX chk fn K
  of := fun _ _ e => ⟨_, He.frG_in, congrArg (fun z : He.AlD => z.1) e, congrArg (fun z : He.AlD => z.2) e⟩
  keeps := fun _ _ _ ⟨K, hK, c⟩ k => ⟨K, Frag.In.keeps hK k, c⟩
theorem obsY_eq {as : List Addr} {chk : Frag → Bool} {fn : List He.DefD} {g : Addr → Option Obj} {s : Shared} (h : ∀ a, g a = s.heap.get? a) : obsY as chk fn g = (hookY as chk fn).obs s := by
  have e : g = s.heap.get? := funext h
  rw [e] <;> rfl
def fragT (as : List Addr) (s : SharedT) : Frag := He.frG (getT s) as
noncomputable def EndA {α : Type} (r : OpenRow) (M : Nat) (w : PySem.World) (os : OsState) (f : SharedT → α) : Option α := (endF (stepQ (denQ tabQ) r.prog w) M r.prog w os).map f
/-- the addresses, as one number -/
def encAds : List Addr → Nat
  | [] => 0
  | a :: r => (a + 1) + 1048576 * encAds r
def adsT (n : Nat) (s : SharedT) : List Addr := sysModules :: He.asD (getT s) n
theorem run_parts {r : OpenRow} {q : Program} {M : Nat} {as : List Addr} {loose : List PySem.Str} {chk : Frag → Bool} {fn : List He.DefD} {w : PySem.World}
    (h0 : ∀ os : OsState, EndA r M w os (fun s => looksF r.prog (boot_heap w.params) s.abs) = some true)
    (h1 : ∀ os : OsState, EndA r M w os (fun s => seenQ q loose (importedModules r.prog.main.body) (fun s => xlAt q [] s && recOk r.toRowW.records s) s.abs) = some (openGood q loose))
    (h2 : ∀ os : OsState, EndA r M w os (fun s => chk (fragT as s)) = some true)
    (h3 : ∀ os : OsState, EndA r M w os (fun s => (fn.all fun d => d.ok (fragT as s), fn.map fun d => He.fnW (fragT as s) d.at_)) = some (true, fn.map He.DefD.val)) :
    RunEq r q (hookY as chk fn) (fun s => obsY as chk fn (getT s)) M loose w := by
  intro os
  have a0 := h0 os
  have a := h1 os
  have b := h2 os
  have c := h3 os
  unfold EndA at a0 a b c
  revert a0 a b c
  generalize endF (stepQ (denQ tabQ) r.prog w) M r.prog w os = E
  intro a0 a b c
  cases E with
  | none => cases a0
  | some s =>
    simp only [Option.map_some, Option.some.injEq, Prod.mk.injEq] at a0 a b c
    have z : obsY as chk fn (getT s) = He.valD fn := by
      show (chk (fragT as s) && fn.all (fun d => d.ok (fragT as s)), fn.map fun d => He.fnW (fragT as s) d.at_) = _
      rw [b, c.1, c.2]
      rfl
    rw [Option.map_some, a0, a]
    exact congrArg (fun x : He.AlD => some (true, openGood q loose, x)) z
end Dy

set_option Elab.async false
set_option linter.all false
set_option maxRecDepth 100000
set_option maxHeartbeats 4000000
/-! Layer Dy, part R: what the head says of own errors. -/
namespace Dy
open PySem PySem.W PySem.Calls PyProof.Rows HandSHeadRun
def hdrB (K : Frag) (C : Addr) : Bool := match K.lookup C with
  | some ⟨.type "type", _, .cls cd, sl⟩ => (match cd.mro, sl.toList with
    | .ref C' :: bm, [_, _, _, _, some (.builtin n), _] => decide (C' = C) && (decide (n = "ValueError.__new__") && (!cd.hasDel && (cd.hasDict && HandSPX.refsVE bm)))
    | _, _ => false)
  | _ => false
theorem hdrB_ok {K : Frag} {C : Addr} (q : hdrB K C = true) : ∃ nm q N bs bm sn sub ab col dd k0 k1 k2 k3 k5, K.lookup C = some (excClassObj nm q C N bs bm true sn sub ab col dd k0 k1 k2 k3 k5 "ValueError.__new__") ∧ HandSPX.refsVE bm = true := by
  unfold hdrB at q
  split at q
  · rename_i dd cd sl ho
    split at q
    · rename_i C' bm k0 k1 k2 k3 n k5 hm hs
      obtain ⟨e1, q⟩ := He.ba q
      obtain ⟨e2, q⟩ := He.ba q
      obtain ⟨e3, q⟩ := He.ba q
      obtain ⟨e4, e5⟩ := He.ba q
      have e1 := of_decide_eq_true e1
      have e2 := of_decide_eq_true e2
      have e6 : cd.hasDel = false := by simpa using e3
      clear e3
      obtain ⟨nm, bs, mro, ns, qn, hd, sn, sub, ab, col, del⟩ := cd
      dsimp only at hm e6 e4
      subst hm e6 e4 e1 e2
      have hsl : sl = #[k0, k1, k2, k3, some (.builtin "ValueError.__new__"), k5] := by
        obtain ⟨l⟩ := sl
        simp only at hs
        rw [hs]
      subst hsl
      exact ⟨nm, qn, ns, bs, bm, sn, sub, ab, col, dd, k0, k1, k2, k3, k5, ho, e5⟩
    · cases q
  · cases q
def clsXB (K : Frag) (C : Addr) : Bool := hdrB K C && (He.eqO (findIn K (.ref C) "__setattr__") (some (some (.builtin "object.__setattr__"))) && (He.eqO (findIn K (.ref C) "__getattribute__") (some (some (.builtin "BaseException.__getattribute__"))) &&
  (He.eqO (findIn K (.ref C) "__getattr__") (some none) && (keepIn K (.ref C) && (decide (subIn K (.ref C) (.type "BaseException") = some true) && (decide (typeIn K (.ref C) = some (.type "type")) && (hasDictIn K C && (He.eqO (nsIn K cStatics "thirdparty.any") (some none) &&
  (decide (mroIn K C (.type "ValueError") = some true) && (decide (mroIn K C (.ref C) = some true) && He.eqO (ks_superIn K C C "__init__") (some (some (.builtin "ValueError.__init__")))))))))))))
theorem clsXB_ok {K : Frag} {C : Addr} (c : clsXB K C = true) : Ex.ClsX K C := by
  obtain ⟨c0, c⟩ := He.ba c
  obtain ⟨c1, c⟩ := He.ba c
  obtain ⟨c2, c⟩ := He.ba c
  obtain ⟨c3, c⟩ := He.ba c
  obtain ⟨c4, c⟩ := He.ba c
  obtain ⟨c5, c⟩ := He.ba c
  obtain ⟨c6, c⟩ := He.ba c
  obtain ⟨c7, c⟩ := He.ba c
  obtain ⟨c8, c⟩ := He.ba c
  obtain ⟨c9, c⟩ := He.ba c
  obtain ⟨c10, c11⟩ := He.ba c
  exact ⟨hdrB_ok c0, He.eqO_ok c1, He.eqO_ok c2, He.eqO_ok c3, c4, of_decide_eq_true c5, of_decide_eq_true c6, c7, He.eqO_ok c8, of_decide_eq_true c9, of_decide_eq_true c10, He.eqO_ok c11⟩
/-- what isinstance asks of the class -/
def excCB (K : Frag) (C : Addr) : Bool := He.eqO (findIn K (.ref C) "__class__") (some (some (.builtin "object.__class__"))) && (He.eqO (specialIn K (.builtin "object.__class__") "__get__") (some (some (.builtin "getset_descriptor.__get__"))) && (decide (takesIn K (.builtin "object.__class__") = some true) && decide (mroIn K C (.type "object") = some true)))
theorem excCB_ok {K : Frag} {C : Addr} (T : Ex.ClsX K C) (c : excCB K C = true) : L2.ExcC K C := by
  obtain ⟨c0, c⟩ := He.ba c
  obtain ⟨c1, c⟩ := He.ba c
  obtain ⟨c2, c3⟩ := He.ba c
  exact ⟨T.ga, T.gg, T.exC, T.hdC, He.eqO_ok c0, He.eqO_ok c1, of_decide_eq_true c2, of_decide_eq_true c3⟩
theorem xfC_of {K : Frag} {C : Addr} (T : Ex.ClsX K C) : L2.XfC K C := ⟨T.ga, T.gg, T.exC, T.hdC⟩
/-! ### the __init__s -/
abbrev IniW : Type := Option (PySem.Str × PySem.Str × Arguments × FuncBody × Scope × Addr × Addr)
def iniW (K : Frag) (nm : PySem.Str) : IniW := match K.lookup (He.ma K (He.ga K nm) "__init__") with
  | some ⟨_, _, .func fd, _⟩ => some (fd.name, fd.qualname, fd.params, fd.body, fd.scope, fd.globals, fd.builtins)
  | _ => none
structure IniD where
  nm : PySem.Str
  qual : PySem.Str
  st : Stmt
def IniD.val (d : IniD) : IniW := some ("__init__", d.qual, L2.defArgs d.st, .stmts (L2.defBody d.st), L2.defScope d.st, mainGlobals, builtinsNs)
def isNon : Value → Bool
  | .none => true
  | _ => false
theorem isNon_ok {v : Value} (h : isNon v = true) : v = .none := by cases v <;> first | rfl | cases h
def cellB (K : Frag) (C : Addr) : List (PySem.Str × Addr) → Bool
  | [(n, cc)] => decide (n = "__class__") && (match K.lookup cc with
    | some ⟨_, _, .cell (some (.ref C')), _⟩ => decide (C' = C)
    | _ => false)
  | _ => false
def codeB (file : PySem.Str) (K : Frag) (qual : PySem.Str) : Value → Bool
  | .ref cda => codeIn K (.ref cda) qual && (match K.lookup cda with
    | some ⟨_, _, .fields vs, _⟩ => (match (vs[2]? : Option Value) with
      | some (.str f _) => file == f
      | _ => false)
    | _ => false)
  | _ => false
def iniB (file : PySem.Str) (K : Frag) (d : IniD) : Bool := He.eqO (findIn K (.ref (He.ga K d.nm)) "__init__") (some (some (.ref (He.ma K (He.ga K d.nm) "__init__")))) && (decide (typeIn K (.ref (He.ma K (He.ga K d.nm) "__init__")) = some (.type "function")) && (match K.lookup (He.ma K (He.ga K d.nm) "__init__") with
  | some ⟨_, _, .func fd, _⟩ => isNon fd.defaults && (isNon fd.kwdefaults && (cellB K (He.ga K d.nm) fd.closure && codeB file K d.qual fd.code))
  | _ => false))
theorem cellB_ok {K : Frag} {C : Addr} {l : List (PySem.Str × Addr)} (h : cellB K C l = true) : ∃ (cc : Addr) (cl : Value) (cld : Option Addr) (csl : Array (Option Value)), l = [(("__class__" : PySem.Str), cc)] ∧ K.lookup cc = some ⟨cl, cld, .cell (some (.ref C)), csl⟩ := by
  unfold cellB at h
  split at h
  · rename_i n cc
    obtain ⟨h1, h2⟩ := He.ba h
    have e := of_decide_eq_true h1
    subst e
    split at h2
    · rename_i cl cld C' csl hl
      have e := of_decide_eq_true h2
      subst e
      exact ⟨cc, cl, cld, csl, rfl, hl⟩
    · cases h2
  · cases h
theorem codeB_ok {K : Frag} {file qual : PySem.Str} {v : Value} (h : codeB file K qual v = true) : ∃ (cda : Addr) (ccl : Value) (cdd : Option Addr) (vs : Array Value) (ccs : Array (Option Value)) (f : PySem.Str) (tf : Tok), v = .ref cda ∧ codeIn K (.ref cda) qual = true ∧ K.lookup cda = some ⟨ccl, cdd, .fields vs, ccs⟩ ∧ vs[2]? = some (.str f tf) ∧ (file == f) = true := by
  unfold codeB at h
  split at h
  · rename_i cda
    obtain ⟨h1, h2⟩ := He.ba h
    split at h2
    · rename_i ccl cdd vs ccs hl
      split at h2
      · rename_i f tf hv
        exact ⟨cda, ccl, cdd, vs, ccs, f, tf, rfl, h1, hl, hv, h2⟩
      · cases h2
    · cases h2
  · cases h
theorem initF_of {prog : Program} {K : Frag} {d : IniD} (e : iniW K d.nm = d.val) (c : iniB prog.main.file K d = true) : Ex.InitF prog K (He.ga K d.nm) (He.ma K (He.ga K d.nm) "__init__") d.qual (L2.defArgs d.st) (L2.defBody d.st) (L2.defScope d.st) := by
  obtain ⟨c0, c⟩ := He.ba c
  obtain ⟨c1, c⟩ := He.ba c
  refine ⟨He.eqO_ok c0, of_decide_eq_true c1, ?_⟩
  unfold iniW at e
  split at e
  · rename_i oc od fd osl q
    rw [q] at c
    have c2 : (isNon fd.defaults && (isNon fd.kwdefaults && (cellB K (He.ga K d.nm) fd.closure && codeB prog.main.file K d.qual fd.code))) = true := c
    obtain ⟨k1, c2⟩ := He.ba c2
    obtain ⟨k2, c2⟩ := He.ba c2
    obtain ⟨k3, k4⟩ := He.ba c2
    obtain ⟨n1, n2, n3, n4, n5, n6, n7, n8, n9, n10, n11, n12, n13, n14, n15⟩ := fd
    have e2 : (some (n1, n2, n3, n4, n5, n6, n15) : IniW) = some (("__init__" : PySem.Str), d.qual, L2.defArgs d.st, FuncBody.stmts (L2.defBody d.st), L2.defScope d.st, mainGlobals, builtinsNs) := e
    simp only [Option.some.injEq, Prod.mk.injEq] at e2
    obtain ⟨h1, h2, h3, h4, h5, h6, h8⟩ := e2
    have j1 : n8 = .none := isNon_ok k1
    have j2 : n9 = .none := isNon_ok k2
    obtain ⟨cc, cl, cld, csl, hcl, hcell⟩ := cellB_ok k3
    obtain ⟨cda, ccl, cdd, vs, ccs, f, tf, hcode, hci, hcd, hv, hf⟩ := codeB_ok k4
    have hcl' : n7 = [(("__class__" : PySem.Str), cc)] := hcl
    have hcode' : n13 = .ref cda := hcode
    clear k1 k2 k3 k4 hcl hcode c e
    subst h1 h2 h3 h4 h5 h6 h8 j1 j2 hcl' hcode'
    exact ⟨oc, od, n10, n11, n12, cda, cc, n14, osl, ccl, cdd, vs, ccs, f, tf, cl, cld, csl, q, hci, hcd, hv, hf, hcell⟩
  · cases e
/-! ### the error classes, made -/
section
variable {prog : Program} {w : PySem.World} {K : Frag} {mg : PySem.Str → Option Value} {nm qual f g : PySem.Str} {C fI : Addr}
theorem own0_of {p1 a1 a2 a3 a5 a6 : Pos} (T : Ex.ClsX K C) (gC : mg nm = some (.ref C)) (F1 : Ex.InitF prog K C fI qual (Ex.iA0 p1) (Ex.iB0 a1 a2 a3 a5 a6) (Ex.iS [])) (sup : mg "super" = none) (top : (prog.main.scope.names.lookup ("super" : PySem.Str)).isSome = false)
    (hev : ∀ (L cda cc : Addr), ∃ pl : Sem Bool, eval (.Call (.Attribute (.Call (.Name "super" a1) [] [] a2) "__init__" a3) [] [] a5) (ksEnv qual (Ex.iS []) L fI (.ref cda) cc) = (do
      let ov ← attributeBase (.Call (.Name "super" a1) [] [] a2) "__init__" (ksEnv qual (Ex.iS []) L fI (.ref cda) cc) (eval (.Call (.Name "super" a1) [] [] a2) (ksEnv qual (Ex.iS []) L fI (.ref cda) cc))
      standAt a3.atName
      let (g, first) ← holding [ov] (getMethod ov "__init__" pl)
      callWith a5 g first (backTo a5 (starEach [] (ksEnv qual (Ex.iS []) L fI (.ref cda) cc))) [])) : Ex.Own prog w K mg nm C fI [] :=
  ⟨T, gC, F1.iC, F1.tI, sup, top, fun us hl => by
    cases us with
    | nil => intro A R s x t0 X S lim hx hnx hr hq; exact Ex.init0 T F1 S hev X lim hx hnx hr fun h' tk t1 E => hq h' tk none t1 rfl E
    | cons u us => cases hl⟩
theorem own1_of {p1 p2 a1 a2 a3 a4 a5 a6 b1 b2 b3 b4 : Pos} (T : Ex.ClsX K C) (gC : mg nm = some (.ref C)) (F1 : Ex.InitF prog K C fI qual (Ex.iA1 f p1 p2) (Ex.iB1 f a1 a2 a3 a4 a5 a6 b1 b2 b3 b4) (Ex.iS [f])) (nof : findIn K (.ref C) f = some none) (nf : Ex.Nm1 f) (sup : mg "super" = none) (top : (prog.main.scope.names.lookup ("super" : PySem.Str)).isSome = false)
    (hev : ∀ (L cda cc : Addr), ∃ pl : Sem Bool, eval (.Call (.Attribute (.Call (.Name "super" a1) [] [] a2) "__init__" a3) [.Name f a4] [] a5) (ksEnv qual (Ex.iS [f]) L fI (.ref cda) cc) = (do
      let ov ← attributeBase (.Call (.Name "super" a1) [] [] a2) "__init__" (ksEnv qual (Ex.iS [f]) L fI (.ref cda) cc) (eval (.Call (.Name "super" a1) [] [] a2) (ksEnv qual (Ex.iS [f]) L fI (.ref cda) cc))
      standAt a3.atName
      let (g, first) ← holding [ov] (getMethod ov "__init__" pl)
      callWith a5 g first (backTo a5 (starEach [.Name f a4] (ksEnv qual (Ex.iS [f]) L fI (.ref cda) cc))) [])) : Ex.Own prog w K mg nm C fI [f] :=
  ⟨T, gC, F1.iC, F1.tI, sup, top, fun us hl => by
    match us, hl with
    | [u], _ => intro A R s x t0 X S lim hx hnx hr hq; exact Ex.init1 T F1 S nof nf hev X lim hx hnx hr fun h' tk dx t1 E => hq h' tk (some dx) t1 rfl E⟩
theorem own2_of {p1 p2 p3 a1 a2 a3 a4 a7 a5 a6 b1 b2 b3 b4 c1 c2 c3 c4 : Pos} (T : Ex.ClsX K C) (gC : mg nm = some (.ref C)) (F1 : Ex.InitF prog K C fI qual (Ex.iA2 f g p1 p2 p3) (Ex.iB2 f g a1 a2 a3 a4 a7 a5 a6 b1 b2 b3 b4 c1 c2 c3 c4) (Ex.iS [f, g])) (nof : findIn K (.ref C) f = some none) (nog : findIn K (.ref C) g = some none) (nn : Ex.Nm2 f g) (sup : mg "super" = none) (top : (prog.main.scope.names.lookup ("super" : PySem.Str)).isSome = false)
    (hev : ∀ (L cda cc : Addr), ∃ pl : Sem Bool, eval (.Call (.Attribute (.Call (.Name "super" a1) [] [] a2) "__init__" a3) [.Name f a4, .Name g a7] [] a5) (ksEnv qual (Ex.iS [f, g]) L fI (.ref cda) cc) = (do
      let ov ← attributeBase (.Call (.Name "super" a1) [] [] a2) "__init__" (ksEnv qual (Ex.iS [f, g]) L fI (.ref cda) cc) (eval (.Call (.Name "super" a1) [] [] a2) (ksEnv qual (Ex.iS [f, g]) L fI (.ref cda) cc))
      standAt a3.atName
      let (k, first) ← holding [ov] (getMethod ov "__init__" pl)
      callWith a5 k first (backTo a5 (starEach [.Name f a4, .Name g a7] (ksEnv qual (Ex.iS [f, g]) L fI (.ref cda) cc))) [])) : Ex.Own prog w K mg nm C fI [f, g] :=
  ⟨T, gC, F1.iC, F1.tI, sup, top, fun us hl => by
    match us, hl with
    | [u, v], _ => intro A R s x t0 X S lim hx hnx hr hq; exact Ex.init2 T F1 S nof nog nn hev X lim hx hnx hr fun h' tk dx t1 E => hq h' tk (some dx) t1 rfl E⟩
end
/-! ### the hook with __init__s -/
def obsZ (as : List Addr) (chk : Frag → Bool) (fn : List He.DefD) (ini : List IniD) (g : Addr → Option Obj) : He.AlD × List IniW := (obsY as chk fn g, ini.map fun d => iniW (He.frG g as) d.nm)
def hookZ (as : List Addr) (chk : Frag → Bool) (fn : List He.DefD) (ini : List IniD) : Hook where
  α := He.AlD × List IniW
  obs := fun s => obsZ as chk fn ini s.heap.get?
  val := fun _ => (He.valD fn, ini.map IniD.val)
  says := fun _ h => ∃ K : Frag, K.In h ∧ SaysX chk fn K ∧ ini.map (fun d => iniW K d.nm) = ini.map IniD.val
  of := fun _ _ e => ⟨_, He.frG_in, ⟨congrArg (fun z : He.AlD × List IniW => z.1.1) e, congrArg (fun z : He.AlD × List IniW => z.1.2) e⟩, congrArg (fun z : He.AlD × List IniW => z.2) e⟩
  keeps := fun _ _ _ ⟨K, hK, c⟩ k => ⟨K, Frag.In.keeps hK k, c⟩
theorem obsZ_eq {as : List Addr} {chk : Frag → Bool} {fn : List He.DefD} {ini : List IniD} {g : Addr → Option Obj} {s : Shared} (h : ∀ a, g a = s.heap.get? a) : obsZ as chk fn ini g = (hookZ as chk fn ini).obs s := by
  have e : g = s.heap.get? := funext h
  rw [e] <;> rfl
theorem run_partsZ {r : OpenRow} {q : Program} {M : Nat} {as : List Addr} {loose : List PySem.Str} {chk : Frag → Bool} {fn : List He.DefD} {ini : List IniD} {w : PySem.World}
    (h0 : ∀ os : OsState, EndA r M w os (fun s => looksF r.prog (boot_heap w.params) s.abs) = some true)
    (h1 : ∀ os : OsState, EndA r M w os (fun s => seenQ q loose (importedModules r.prog.main.body) (fun s => xlAt q [] s && recOk r.toRowW.records s) s.abs) = some (openGood q loose))
    (h2 : ∀ os : OsState, EndA r M w os (fun s => chk (fragT as s)) = some true)
    (h3 : ∀ os : OsState, EndA r M w os (fun s => (fn.all fun d => d.ok (fragT as s), fn.map fun d => He.fnW (fragT as s) d.at_)) = some (true, fn.map He.DefD.val))
    (h4 : ∀ os : OsState, EndA r M w os (fun s => ini.map fun d => iniW (fragT as s) d.nm) = some (ini.map IniD.val)) :
    RunEq r q (hookZ as chk fn ini) (fun s => obsZ as chk fn ini (getT s)) M loose w := by
  intro os
  have a0 := h0 os
  have a := h1 os
  have b := h2 os
  have c := h3 os
  have d := h4 os
  unfold EndA at a0 a b c d
  revert a0 a b c d
  generalize endF (stepQ (denQ tabQ) r.prog w) M r.prog w os = E
  intro a0 a b c d
  cases E with
  | none => cases a0
  | some s =>
    simp only [Option.map_some, Option.some.injEq, Prod.mk.injEq] at a0 a b c d
    have z : obsZ as chk fn ini (getT s) = (He.valD fn, ini.map IniD.val) := by
      show (((chk (fragT as s) && fn.all (fun d => d.ok (fragT as s)), fn.map fun d => He.fnW (fragT as s) d.at_), ini.map fun d => iniW (fragT as s) d.nm) : He.AlD × List IniW) = _
      rw [b, c.1, c.2, d]
      rfl
    rw [Option.map_some, a0, a]
    exact congrArg (fun x : He.AlD × List IniW => some (true, openGood q loose, x)) z
def adsZ (n : Nat) (s : SharedT) : List Addr := (fun as => (sysModules :: cStatics :: as ++ as.flatMap fun a => match getT s a with
  | some ⟨_, _, .func fd, _⟩ => fd.closure.map (·.2)
  | _ => []).eraseDups) (He.asD (getT s) n)
end Dy

set_option Elab.async false
set_option linter.all false
set_option maxRecDepth 100000
set_option maxHeartbeats 4000000
/-! Errors as a law asks of them, part 1: the very objects. -/
namespace Dy
open PySem PySem.Spec PyProof.Rows L2
/-! ### two lists of the very same objects are not unequal -/
def rNeSame (K : PySem.W.Frag) : R2 := fun x y H Q => ∃ (a b : Addr) (as : List Addr), x = .ref a ∧ y = .ref b ∧ SqL K H a (as.map V.ref) ∧ SqL K H b (as.map V.ref) ∧ Q (.bl false) H
theorem vals_refs : ∀ {as : List Addr} {us : List Value}, Vals (as.map V.ref) us → us = as.map Value.ref
  | [], _, .nil => rfl
  | a :: as, _, .cons r t => by
    have e : _ = Value.ref a := r
    subst e
    rw [vals_refs t]
    rfl
theorem op_neSame {X : Cx} (hu : X.A.units < cLine) : OpR X (compareOp .NotEq) (rNeSame X.K) := by
  intro pins s σ H x y v u Q I rx ry h
  obtain ⟨a, b, as, rfl, rfl, ha, hb, q⟩ := h
  cases (show v = Value.ref a from rx)
  cases (show u = Value.ref b from ry)
  obtain ⟨i1, r1, l1, _⟩ := I.list ha
  obtain ⟨i2, r2, l2, _⟩ := I.list hb
  have e1 := vals_refs r1
  have e2 := vals_refs r2
  subst e1 e2
  have z := SeqAt.RcNeAt.lists (A := X.A) (e := fun _ => true) l1.isList l2.isList rfl hu (fun j h1 h2 => SeqAt.EqAt.same _) X.prog X.w X.xe (EP X pins σ Q)
  refine z ?_
  have e : (!(List.range ((as.map Value.ref).toArray).size).all fun _ => true) = false := by simp
  rw [e]
  exact ⟨.bl false, H, I, rfl, q⟩
def musL : List SV → Option (List Nat)
  | [] => some []
  | .mu k :: xs => match musL xs with
    | some ks => some (k :: ks)
    | none => none
  | _ => none
theorem musL_ok {K : PySem.W.Frag} {Hk : Hp} {ls : List Addr} {n : Nat} : ∀ {vs : List V} {xs : List SV} {ks : List Nat}, SVs K Hk ls n vs xs → musL xs = some ks → vs = ks.map fun k => V.ref (ls.getD k 0)
  | _, _, _, .nil, e => by cases e; rfl
  | _, _, _, .cons (s := s) r t, e => by
    cases s with
    | dt d => cases e
    | mu k =>
      unfold musL at e
      split at e
      · rename_i ks' h
        cases e
        obtain ⟨_, l, hl, rfl⟩ := r
        rw [musL_ok t h, List.map_cons, List.getD_eq_getElem?_getD, hl]
        rfl
      · cases e
def eSameH (t o w m : Nat) : EM Bool := fun ρ M => match ρ[t]?, ρ[o]?, ρ[w]?, ρ[m]? with
  | some (some (.mu a)), some (some (.mu i)), some (some (.mu j)), some (some (.dt (.int n))) => match M[a]? with
    | some (.l [_, .mu c]) => match M[c]? with
      | some (.l xs) => if musL xs = some ([i, j].take n.toNat) ∧ 0 ≤ n ∧ n ≤ 2 then some (false, M) else none
      | _ => none
    | _ => none
  | _, _, _, _ => none
theorem cutV_two (a b : V) (n : Int) (h0 : 0 ≤ n) (h2 : n ≤ 2) : cutV [a, b] none (some n) = [a, b].take n.toNat := by
  have : n = 0 ∨ n = 1 ∨ n = 2 := by omega
  rcases this with rfl | rfl | rfl <;> rfl
theorem ptm_sameH {X : Cx} {et eo ew em : Expr} {t o w m k : Nat} {pos p2 p3 lp ps pc : Pos} (hu : X.A.units + 64 < cLine) (ht : PE X et (tVar t)) (ho : PE X eo (tVar o)) (hw : PE X ew (tVar w)) (hm : PE X em (tVar m))
    (hs1 : starEach (eo :: [ew]) X.env = (false, eval eo X.env) :: starEach [ew] X.env := by rfl) (hs2 : starEach (ew :: []) X.env = (false, eval ew X.env) :: starEach [] X.env := by rfl) :
    PTm X (.Compare (.Subscript et (.Constant (.int 1) k pc) ps) [.NotEq] [.Subscript (.List [eo, ew] lp) (.Slice none (some em) none p2) p3] pos) (eSameH t o w m) :=
  PT.imp (pt_cmpR (op_neSame (by omega)) (PM.v (pm_sub_ix (pm_var ht) pm_int)) (pe_slice sl_list (pe_lst (pa_cons ho (pa_cons hw pa_nil hs2) hs1)) po_none (po_some hm)) (nomark _)) fun σ H Q ⟨Hk, ls, ρ, M, r, M', w0, en, hm0, q⟩ => by
  unfold eSameH at hm0
  split at hm0
  · rename_i a i j n e1 e2 e3 e4
    split at hm0
    · rename_i s0 c hMa
      split at hm0
      · rename_i xs hMc
        split at hm0
        · rename_i hz
          obtain ⟨hz, h0, h2⟩ := hz
          cases hm0
          have e5 : fz (eBin gIx (eVar t) (eC (.int 1))) ρ M = some (.mu c, M) := by
            have e6 : itemsOf M (.mu a) = some [s0, .mu c] := by
              show listOf M (.mu a) = _
              unfold listOf
              simp only [hMa]
            simp only [fz, EM.seq, eBin, eVar, e1, eC, EM.ret, R.toSV, gIx, e6]
            rfl
          refine ⟨Hk, ls, ρ, M, .mu c, M, w0, en, e5, fun v Hk1 H1 w1 x1 r1 => ?_⟩
          have en1 := en.mono x1.kk
          obtain ⟨v1, hv1, s1⟩ := en1.2 o _ e2
          obtain ⟨v2, hv2, s2⟩ := en1.2 w _ e3
          obtain ⟨v3, hv3, s3⟩ := en1.2 m _ e4
          obtain ⟨_, li, hli, rfl⟩ := s1
          obtain ⟨_, lj, hlj, rfl⟩ := s2
          have s3 := Rp.int_inv s3
          subst s3
          obtain ⟨_, lc, hlc, rfl⟩ := r1
          obtain ⟨lc', hlc', vs, hH, hsv⟩ := w1.ms _ _ hMc
          rw [hlc] at hlc'
          cases hlc'
          have hvs := musL_ok hsv hz
          refine ⟨_, hv1, _, hv2, by simp, fun p hp => ⟨_, hv3, n, rfl, p, _, rfl, SqL.of upd_same, fun p' hp' => ?_⟩⟩
          rw [cutV_two _ _ _ h0 h2]
          have ev : vs = (([li, lj].take n.toNat).map V.ref) := by
            rw [hvs]
            have : n = 0 ∨ n = 1 ∨ n = 2 := by omega
            rcases this with rfl | rfl | rfl <;> simp [List.getD_eq_getElem?_getD, hli, hlj]
          have ec : ([V.ref li, V.ref lj].take n.toNat) = (([li, lj].take n.toNat).map V.ref) := by rw [List.map_take]; rfl
          rw [ec]
          have np : lc ≠ p := fun z => by rw [z, hp] at hH; cases hH
          have np' : lc ≠ p' := fun z => by
            have : upd H1 p (.lst [V.ref li, V.ref lj]) lc = some (.lst vs) := by rw [upd_ne np]; exact hH
            rw [z, hp'] at this; cases this
          refine ⟨lc, p', _, rfl, rfl, SqL.of (by rw [upd_ne np', upd_ne np, hH, ev]), SqL.of upd_same, false, rfl, ?_⟩
          exact q Hk1 _ ((w1.upd_new hp).upd_new hp') (x1.trans ((Ext.upd_new hp).trans (Ext.upd_new hp')))
        · cases hm0
      · cases hm0
    · cases hm0
  · cases hm0
end Dy

set_option Elab.async false
set_option linter.all false
set_option maxRecDepth 100000
set_option maxHeartbeats 4000000
/-! Errors as a law asks of them, part 2: raised, caught, looked at. -/
namespace Dy
open PySem PySem.Spec PyProof.Rows L2
/-! ### defs that look at the handled exception, by their mirrors -/
def spP (K : PySem.W.Frag) (n : Nat) (C : Addr) (g : Addr → Option Addr → Fn) : Addr × Obj → Sp := fun p vs H Q E => ∃ Hk ls M ss z M' d, World K Hk H M ls ∧ SVs K Hk ls ls.length vs ss ∧ ss.length = n ∧ Zc (.ref C) d p.2 ∧ (∃ fv, p.2.data = .fields fv) ∧ g p.1 d ss M = some (z, M') ∧ Res K ls Hk H z M' Q
theorem spP_len {K : PySem.W.Frag} {n : Nat} {C : Addr} {g : Addr → Option Addr → Fn} {ps : List Str} (h : ps.length = n) : ∀ p vs H Q E, spP K n C g p vs H Q E → vs.length = ps.length := fun p vs H Q E ⟨Hk, ls, M, ss, z, M', d, w, r, hn, _⟩ => by
  rw [r.length, hn, h]
theorem FunDG.okP {P : Program} {w : PySem.World} {K : PySem.W.Frag} {mg : Str → Option Value} {base : Heap} {x qual : Str} {params : Arguments} {body : List Stmt} {scope : Scope} {dvs : List V} {kws : List (Str × V)} {f C : Addr} {fd : FuncData} {N ps : List Str} {k : Nat} {b : Addr → Option Addr → SM} {n : Nat} (F : FunD K x qual params body scope dvs kws f fd) (S : FnScope N ps scope) (hl : ps.length = n)
    (hbody : ∀ (cdv : Value) (p : Addr × Obj) (A : Around) (outer : List PySem.Env) (s : Shared) (H : Hp) (E : XK) (d : Option Addr), L2H.RoomH k (A.deeper (envOfC qual scope s.heap.objs.size f cdv)) → PinX (L2H.cxH CX0 P w K mg base N qual scope f cdv A outer s H E p) p C d → PSsm (L2H.cxH CX0 P w K mg base N qual scope f cdv A outer s H E p) body (b p.1 d)) : FnP P w K mg base CX0 (k + 1) f fd ps (spP K n C fun a d => runBody (b a d) N.length) := by
  obtain ⟨oc, od, dV, kV, doc, pm, an, cdv, ct, osl, rfl, lk, hcd, _, _⟩ := F.ex
  refine fnp_of lk hcd S (spP_len hl) fun p A outer s H vs Q E hot hr h => ?_
  obtain ⟨Hk, ls, M, ss, z, M', d, w0, r, hn, hz, hf, hg, q⟩ := h
  exact ⟨_, hbody cdv p A outer s H E d hr ⟨List.mem_singleton.mpr rfl, hz, hf⟩, body_go (E := E) ⟨Hk, ls, M, ss, z, M', w0, r, hn, hg, q⟩⟩
theorem pm_callP {X : Cx} {k n : Nat} {f C : Addr} {d : Option Addr} {fd : FuncData} {ps : List Str} {g : Addr → Option Addr → Fn} {x : Str} {q pos : Pos} {e : Expr} {es : List Expr} {ms : EM (List SV)} {p : Addr × Obj} (F : FnP X.prog X.w X.K X.mg X.base CX0 k f fd ps (spP X.K n C g)) (hr : L2H.RoomH k X.A) (hot : L2H.Hot1 X.A p) (Z : PinX X p C d)
    (hm : X.mg x = some (.ref f)) (hk : PySem.W.keepIn X.K (.ref f) = true) (hb : Binds X.K fd ps []) (ha : PAm X (e :: es) ms) (hn : ∀ ρ M ss M', ms ρ M = some (ss, M') → ss.length = n) (hg : Gl X x := by rfl)
    (hdb : (x == ("__debug__" : Str)) = false := by decide) (he : starEach (e :: es) X.env = (false, eval e X.env) :: starEach es X.env := by rfl) (hpl : (backTo pos (starEach es X.env)).any (·.1) = false := by rfl) :
    PM X (.Call (.Name x q) (e :: es) [] pos) (eFn (g p.1 d) ms) := PE.imp (pe_callP (E := fun _ _ _ _ => False) F hr hot Z.mem hg hm hk hb (fun σ _ _ _ _ _ _ z => z.elim) ha hdb he hpl) fun σ H Q ⟨Hk, ls, ρ, M, z, M', w, en, hm, q⟩ => by
  obtain ⟨ss, M1, h1, h2⟩ := seq_some hm
  exact ⟨Hk, ls, ρ, M, ss, M1, w, en, h1, fun vs Hk1 H1 w1 x1 r1 => ⟨Hk1, ls, M1, ss, z, M', d, w1, r1, hn _ _ _ _ h1, Z.zc, Z.fl, h2, q.back x1⟩⟩
/-! ### return [.., ..], fresh lists in it -/
def tNL (K : PySem.W.Frag) (ms : EM (List R)) : TS := fun E σ H => ∃ Hk ls ρ M rs M1, World K Hk H M ls ∧ EnvR K Hk ls σ ρ ∧ ms ρ M = some (rs, M1) ∧ (allocL rs M1).1.length ≤ sizeLine ∧
  ∀ v Hk' H' ls', World K Hk' H' ((allocL rs M1).2 ++ [.l (allocL rs M1).1]) ls' → ExtS ls ls' Hk H Hk' H' → SVr K Hk' ls' ls'.length v (.mu (allocL rs M1).2.length) → E.rt v H'
theorem ps_retL {X : Cx} {es : List Expr} {ms : EM (List R)} {lp pos : Pos} (h : PAR X es ms) : PS X (.Return (some (.List es lp)) pos) (tNL X.K ms) := PS.imp (ps_ret (pe_lst h)) fun E σ H ⟨Hk, ls, ρ, M, rs, M1, w, en, h1, hz, q⟩ => by
  refine ⟨Hk, ls, ρ, M, rs, M1, w, en, h1, fun vs Hk1 H1 w1 x1 k1 => ?_⟩
  obtain ⟨t, w2, s2, n2⟩ := alloc_ok w1 k1
  refine ⟨by rw [s2.length]; exact hz, fun p hp => ?_⟩
  have f2 := w2.fresh hp
  have w3 := (w2.upd_new (o := .lst vs) hp).push (o := .l (allocL rs M1).1) f2.2 f2.1 ⟨vs, upd_same, by rw [w2.len]; exact s2⟩
  have x2 : Ext ls Hk H Hk1 (upd H1 p (.lst vs)) := x1.trans (Ext.upd_new hp)
  have hp0 : H p = none := x1.s.back hp
  have xs : ExtS ls (ls ++ t ++ [p]) Hk H Hk1 (upd H1 p (.lst vs)) := by
    rw [List.append_assoc]
    refine extS_alloc x2 fun a ha => ?_
    rcases List.mem_append.mp ha with h | h
    · exact n2 a h
    · have : a = p := by simpa using h
      subst this
      exact hp0
  refine q _ Hk1 _ _ w3 xs ⟨by rw [w2.len]; simp, p, ?_, rfl⟩
  rw [w2.len, List.getElem?_append_right (Nat.le_refl _)]
  simp
theorem World.recast {K : PySem.W.Frag} {Hk H : Hp} {M : MS} {ls : List Addr} {k : Nat} {xs ys : List SV} (w : World K Hk H M ls) (hM : M[k]? = some (.l xs)) (h : ∀ vs, SVs K Hk ls k vs xs → SVs K Hk ls k vs ys) : World K Hk H (M.set k (.l ys)) ls where
  sub := w.sub
  len := by rw [List.length_set]; exact w.len
  nd := w.nd
  dj := w.dj
  ms := fun j o e => by
    by_cases hj : k = j
    · subst hj
      have hk : k < M.length := (List.getElem?_eq_some_iff.mp hM).1
      rw [List.getElem?_set_self hk] at e
      cases e
      obtain ⟨l, hl, vs, h1, h2⟩ := w.ms k _ hM
      exact ⟨l, hl, vs, h1, h vs h2⟩
    · rw [List.getElem?_set_ne hj] at e
      exact w.ms j o e
/-! ### the taken error -/
def spT (K : PySem.W.Frag) (tk : Int → Nat → Nat → MS → Option MS) : Sp := fun vs H Q E => ∃ Hk ls M k i j M3, World K Hk H M ls ∧ SVs K Hk ls ls.length vs [.dt (.int k), .mu i, .mu j] ∧ tk k i j M = some M3 ∧
  ∀ v Hk' H' ls', World K Hk' H' M3 ls' → ExtS ls ls' Hk H Hk' H' → SVr K Hk' ls' ls'.length v (.mu (M.length + 2)) → Q v H'
theorem spT_len {K : PySem.W.Frag} {tk : Int → Nat → Nat → MS → Option MS} {ps : List Str} (h : ps.length = 3) : ∀ vs H Q E, spT K tk vs H Q E → vs.length = ps.length := fun vs H Q E ⟨Hk, ls, M, k, i, j, M3, w, r, _⟩ => by
  rw [r.length, h]
  rfl
def sTaken (tk : Int → Nat → Nat → MS → Option MS) (it id ik i1 i2 : Nat) (m2 : EM R) : SM := fun ρ M => match ρ[ik]?, ρ[i1]?, ρ[i2]? with
  | some (some (.dt (.int k))), some (some (.mu i)), some (some (.mu j)) => match tk k i j M with
    | some M1 => match fz m2 ρ M1 with
      | some (s, M2) => some (.nx ((ρ.set it (some (.mu (M.length + 2)))).set id (some s)) M2)
      | none => none
    | none => none
  | _, _, _ => none
theorem psm_taken {X : Cx} {tk : Int → Nat → Nat → MS → Option MS} {it id ik i1 i2 : Nat} {m2 : EM R} {st : Stmt} {E : L2.St → XK}
    (h : PS X st (tPar it id (tCons (tCallS (spT X.K tk) E (tCons (tVar ik) (tCons (tVar i1) (tCons (tVar i2) tNil)))) (tCons (tV X.K (fz m2)) tNil)))) : PSm X st (sTaken tk it id ik i1 i2 m2) := PS.imp h fun D σ H ⟨Hk, ls, ρ, M, o, w, en, hm, q⟩ => by
  unfold sTaken at hm
  split at hm
  · rename_i k i j e1 e2 e3
    split at hm
    · rename_i M1 h1
      split at hm
      · rename_i s M2 h2
        cases hm
        obtain ⟨v1, hv1, s1⟩ := en.2 ik _ e1
        obtain ⟨v2, hv2, s2⟩ := en.2 i1 _ e2
        obtain ⟨v3, hv3, s3⟩ := en.2 i2 _ e3
        refine ⟨v1, hv1, v2, hv2, v3, hv3, Hk, ls, M, k, i, j, M1, w, .cons s1 (.cons s2 (.cons s3 .nil)), h1, fun v Hk1 H1 ls1 w1 x1 r1 => ?_⟩
        refine ⟨Hk1, ls1, ρ, M1, s, M2, w1, en.extS x1, h2, fun u Hk2 H2 w2 x2 r2 => ?_⟩
        exact ⟨v, u, rfl, q _ Hk2 H2 ls1 w2 (x1.trans x2.s) ((((en.extS x1).mono x2.kk).set (r1.mono x2.kk)).set r2)⟩
      · cases hm
    · cases hm
  · cases hm
end Dy

set_option Elab.async false
set_option linter.all false
set_option maxRecDepth 100000
set_option maxHeartbeats 4000000
/-! Errors as a law asks of them, part 3: the whole of a try that takes them. -/
namespace Dy
open PySem PySem.Spec PyProof.Rows L2
def fldH (n i j : Nat) : List SV := ([i, j].take n).map SV.mu
def takenS (nsOf : Nat → List Str) (bits : Nat → List Bool) (k : Int) (i j : Nat) (M : MS) : Option MS :=
  if 0 ≤ k ∧ k < 27 ∧ i < M.length ∧ j < M.length ∧ cutOk M M.length = true then some (M ++ [.l (((bits k.toNat).map D.bl).map SV.dt), .l (fldH (nsOf k.toNat).length i j), .l [.mu M.length, .mu (M.length + 1)]]) else none
theorem svs_raw {K : PySem.W.Frag} {Hk : Hp} {ls : List Addr} {n : Nat} : ∀ {as : List Addr} {vs : List V}, SVs K Hk ls n vs ((as.map D.raw).map SV.dt) → vs = as.map V.ref
  | [], _, .nil => rfl
  | a :: as, _, .cons r t => by
    have r' : Rp K Hk _ (.raw a) := r
    cases r'
    rw [svs_raw t]
    rfl
theorem svs_mus {K : PySem.W.Frag} {Hk : Hp} {ls : List Addr} {n : Nat} {f : Nat → Addr} : ∀ {ks : List Nat}, (∀ k ∈ ks, k < n ∧ ls[k]? = some (f k)) → SVs K Hk ls n (ks.map fun k => V.ref (f k)) (ks.map SV.mu)
  | [], _ => .nil
  | k :: ks, h => .cons ⟨(h k List.mem_cons_self).1, f k, (h k List.mem_cons_self).2, rfl⟩ (svs_mus fun j hj => h j (List.mem_cons_of_mem _ hj))
theorem musL_map : ∀ ks : List Nat, musL (ks.map SV.mu) = some ks
  | [] => rfl
  | k :: ks => by
    show (match musL (ks.map SV.mu) with | some ks => some (k :: ks) | none => none) = _
    rw [musL_map ks]
def tsT (K : PySem.W.Frag) (Cs : Nat → Addr) (gC gF : Nat → Addr → Option Addr → Fn) : Addr → Value → Option Addr → TS := fun a cls d E σ H => ∃ kk, kk < 27 ∧ cls = .ref (Cs kk) ∧
  tNL K (rConsN (eFn (gC kk a d) (eCons (eVar 3) eNil)) (rConsN (eFn (gF kk a d) (eCons (eVar 0) (eCons (eVar 3) eNil))) rNil)) E σ H
theorem set_mid {α : Type} (M : List α) (a b b' c : α) : ((M ++ [a] ++ [b]) ++ [c]).set (M.length + 1) b' = M ++ [a, b', c] := by
  rw [show (M ++ [a] ++ [b]) ++ [c] = M ++ [a, b, c] by simp, List.set_append_right _ _ (by omega), show M.length + 1 - M.length = 1 by omega]
  rfl
theorem taken_go {K : PySem.W.Frag} {Cs : Nat → Addr} {nsOf : Nat → List Str} {bits : Nat → List Bool} {gR : FnX} {gC gF : Nat → Addr → Option Addr → Fn} {ME : Addr} {N : List Str} {D0 : Ends} (hN : N.length = 4)
    (hexm : ∀ kk, kk < 27 → PySem.W.exmOne K (.ref (Cs kk)) (.ref ME) = some true)
    (hR : ∀ (kk i j : Nat) (M : MS), kk < 27 → i < M.length → j < M.length → cutOk M M.length = true → gR [.dt (.int kk), .mu i, .mu j] M = some (.x ⟨Cs kk, nsOf kk, fldH (nsOf kk).length i j⟩, M))
    (hC : ∀ (kk : Nat) (a : Addr) (d : Option Addr) (fs : List (Str × V)) (M : MS), kk < 27 → cutOk M M.length = true → gC kk a d [.dt (.exc a d fs)] M = some (.fr ((bits kk).map D.bl), M))
    (hF : ∀ (kk : Nat) (a : Addr) (d : Option Addr) (as : List Addr) (M : MS), kk < 27 → cutOk M M.length = true → as.length = (nsOf kk).length → (nsOf kk ≠ [] → d.isSome = true) → gF kk a d [.dt (.int kk), .dt (.exc a d ((nsOf kk).zip (as.map V.ref)).reverse)] M = some (.fr (as.map D.raw), M))
    (h2 : ∀ kk, kk < 27 → (nsOf kk).length ≤ 2) {vs : List V} {H : Hp} {Q : VK} {E : XK} (hD : D0.rt = Q) (h : spT K (takenS nsOf bits) vs H Q E) :
    tSX K (wAs K (.ref ME) 3 (tsT K Cs gC gF) (fun _ _ _ _ => False) D0) (xExpr (eFnX gR (eCons (eVar 0) (eCons (eVar 1) (eCons (eVar 2) eNil))))) D0 (L2.start N vs) H := by
  obtain ⟨Hk, ls, M, k, i, j, M3, w, r, ht, q⟩ := h
  unfold takenS at ht
  split at ht
  · rename_i hz
    obtain ⟨z0, z1, z2, z3, z4⟩ := hz
    obtain ⟨kk, rfl⟩ : ∃ kk : Nat, k = (kk : Int) := ⟨k.toNat, by omega⟩
    have hkk : kk < 27 := by omega
    rw [show ((kk : Int)).toNat = kk by omega] at ht
    cases ht
    have en0 := start_env (N := N) r
    rw [hN] at en0
    refine ⟨Hk, ls, [some (.dt (.int kk)), some (.mu i), some (.mu j), none], M, .x ⟨Cs kk, nsOf kk, fldH (nsOf kk).length i j⟩ [some (.dt (.int kk)), some (.mu i), some (.mu j), none] M, w, en0, ?_, ?_⟩
    · show (match gR [.dt (.int kk), .mu i, .mu j] M with
        | some (.r _, M') => some (OX.o (.nx [some (.dt (.int kk)), some (.mu i), some (.mu j), none] M'))
        | some (.x v, M') => some (OX.x v [some (.dt (.int kk)), some (.mu i), some (.mu j), none] M')
        | none => none) = _
      rw [hR kk i j M hkk z2 z3 z4]
    · intro cls d σ' Hk' H' ls' w' x' en' r'
      obtain ⟨rfl, r'⟩ := r'
      refine ⟨true, hexm kk hkk, fun _ a ha => ⟨kk, hkk, rfl, ?_⟩, fun z => nomatch z⟩
      have hlen : ls'.length = M.length := w'.len.symm
      obtain ⟨Hk2, w2, x2, e2, hd1, hd2⟩ : ∃ (Hk2 : Hp), World K Hk2 H' M ls' ∧ ExtS ls ls' Hk H Hk2 H' ∧ Same Hk' Hk2 ∧ (nsOf kk ≠ [] → d.isSome = true) ∧
          (∀ dd, d = some dd → Hk2 dd = some (.xd ((nsOf kk).zip ((([i, j].take (nsOf kk).length).map fun k => ls'.getD k 0).map V.ref)).reverse)) := by
        rcases r' with ⟨rfl, hn, _⟩ | ⟨dd, vsF, rfl, hH, hsv, n1, n2, n3⟩
        · exact ⟨Hk', w', x', fun _ _ z => z, fun z => absurd hn z, fun dd z => nomatch z⟩
        · have ev := musL_ok hsv (musL_map _)
          subst ev
          refine ⟨upd Hk' dd _, w'.freeze n1 hH n2, ⟨x'.pre, fun b o z => ?_, x'.fr, fun b z => ?_, x'.nw, x'.st⟩, fun b o z => ?_, fun _ => rfl, fun dd' z => ?_⟩
          · rw [upd_ne (ne_of_none (x'.kk b o z) n2)]
            exact x'.kk b o z
          · by_cases hb : b = dd
            · subst hb; exact .inr n3
            · rw [upd_ne hb] at z; exact x'.gr b z
          · rw [upd_ne (ne_of_none z n2)]
            exact z
          · cases z
            rw [upd_same, List.map_map]
            rfl
      have hmem : ∀ k ∈ [i, j].take (nsOf kk).length, k < M.length := fun k hk => by
        have := List.mem_of_mem_take hk
        simp only [List.mem_cons, List.not_mem_nil, or_false] at this
        rcases this with rfl | rfl
        · exact z2
        · exact z3
      have hal : ((([i, j].take (nsOf kk).length).map fun k => ls'.getD k 0)).length = (nsOf kk).length := by
        have := h2 kk hkk
        simp only [List.length_map, List.length_take, List.length_cons, List.length_nil]
        omega
      have hc := hC kk a d ((nsOf kk).zip ((([i, j].take (nsOf kk).length).map fun k => ls'.getD k 0).map V.ref)).reverse M hkk z4
      have hf := hF kk a d _ M hkk z4 hal hd1
      refine ⟨Hk2, ls', [some (.dt (.int kk)), some (.mu i), some (.mu j), some (.dt (.exc a d ((nsOf kk).zip ((([i, j].take (nsOf kk).length).map fun k => ls'.getD k 0).map V.ref)).reverse))], M, [.fr ((bits kk).map D.bl), .fr ((([i, j].take (nsOf kk).length).map fun k => ls'.getD k 0).map D.raw)], M, w2, ?_, ?_, ?_, fun v Hk3 H3 ls3 w3 x3 r3 => ?_⟩
      · exact EnvR.set (en'.mono e2) (i := 3) (s := .dt (.exc a d _)) (Rp.exc hd2)
      · simp only [rConsN, rNil, EM.seq, eFn, eCons, eNil, EM.ret, eVar, fz, R.toSV, List.getElem?_cons_succ, List.getElem?_cons_zero, hc, hf]
      · show 2 ≤ sizeLine
        rw [sizeLine_eq]
        omega
      · have w3' : World K Hk3 H3 ((M ++ [.l (((bits kk).map D.bl).map SV.dt)] ++ [.l (((([i, j].take (nsOf kk).length).map fun k => ls'.getD k 0).map D.raw).map SV.dt)]) ++ [.l [.mu M.length, .mu (M ++ [MO.l (((bits kk).map D.bl).map SV.dt)]).length]]) ls3 := w3
        obtain ⟨t, rfl⟩ := id x3.pre
        have w4 := w3'.recast (k := M.length + 1) (xs := (((([i, j].take (nsOf kk).length).map fun k => ls'.getD k 0).map D.raw).map SV.dt)) (ys := fldH (nsOf kk).length i j) (by
          rw [List.append_assoc, List.append_assoc, List.getElem?_append_right (by omega), show M.length + 1 - M.length = 1 by omega]
          rfl) fun vs hv => by
            rw [svs_raw hv, List.map_map]
            refine svs_mus fun k hk => ?_
            have hk' := hmem k hk
            refine ⟨by omega, ?_⟩
            rw [List.getElem?_append_left (by omega), List.getD_eq_getElem?_getD, List.getElem?_eq_getElem (by omega)]
            rfl
        rw [set_mid] at w4
        have el : (M ++ [MO.l (((bits kk).map D.bl).map SV.dt)]).length = M.length + 1 := by simp
        rw [el] at w4
        show D0.rt v H3
        rw [hD]
        refine q v Hk3 H3 _ w4 (x2.trans x3) ?_
        have r4 : SVr K Hk3 (ls' ++ t) (ls' ++ t).length v (.mu (M ++ [MO.l (((bits kk).map D.bl).map SV.dt)] ++ [MO.l (((([i, j].take (nsOf kk).length).map fun k => ls'.getD k 0).map D.raw).map SV.dt)]).length) := r3
        have el2 : (M ++ [MO.l (((bits kk).map D.bl).map SV.dt)] ++ [MO.l (((([i, j].take (nsOf kk).length).map fun k => ls'.getD k 0).map D.raw).map SV.dt)]).length = M.length + 2 := by simp
        rw [el2] at r4
        exact r4
  · cases ht
end Dy

set_option Elab.async false
set_option linter.all false
set_option maxRecDepth 100000
set_option maxHeartbeats 4000000
/-! Errors as a law asks of them, part 4: what the head says of all of them. -/
namespace Dy
open PySem PySem.Spec PyProof.Rows L2
structure ErrC (K : PySem.W.Frag) (mg : Str → Option Value) (flds : List Str) (nm : Str) : Prop where
  gc : mg nm = some (.ref (He.ga K nm))
  T : Ex.ClsX K (He.ga K nm)
  ec : ExcC K (He.ga K nm)
  no : ∀ f ∈ flds, PySem.W.findIn K (.ref (He.ga K nm)) f = some none
  ex : PySem.W.exmOne K (.ref (He.ga K nm)) (.ref (He.ga K "MoveError")) = some true
  mv : PySem.W.kitOne K (.ref (He.ga K nm)) (.ref (He.ga K "MoveError")) = some true
  ve : PySem.W.kitOne K (.ref (He.ga K nm)) (.type "ValueError") = some true
  le : PySem.W.kitOne K (.ref (He.ga K nm)) (.type "LookupError") = some false
def errB (flds : List Str) (K : PySem.W.Frag) (nm : Str) : Bool := (He.Fa.glo nm).ok K && (clsXB K (He.ga K nm) && (excCB K (He.ga K nm) && ((flds.all fun f => He.eqO (PySem.W.findIn K (.ref (He.ga K nm)) f) (some none)) &&
  (decide (PySem.W.exmOne K (.ref (He.ga K nm)) (.ref (He.ga K "MoveError")) = some true) && (decide (PySem.W.kitOne K (.ref (He.ga K nm)) (.ref (He.ga K "MoveError")) = some true) && (decide (PySem.W.kitOne K (.ref (He.ga K nm)) (.type "ValueError") = some true) && decide (PySem.W.kitOne K (.ref (He.ga K nm)) (.type "LookupError") = some false)))))))
theorem errB_ok {K : PySem.W.Frag} {h : Heap} {mg : Str → Option Value} {flds : List Str} {nm : Str} (X : K.In h) (G : h.Ns mainGlobals mg) (c : errB flds K nm = true) : ErrC K mg flds nm := by
  obtain ⟨c0, c⟩ := He.ba c
  obtain ⟨c1, c⟩ := He.ba c
  obtain ⟨c2, c⟩ := He.ba c
  obtain ⟨c3, c⟩ := He.ba c
  obtain ⟨c4, c⟩ := He.ba c
  obtain ⟨c5, c⟩ := He.ba c
  obtain ⟨c6, c7⟩ := He.ba c
  exact ⟨He.glo_ok X G c0, clsXB_ok c1, excCB_ok (clsXB_ok c1) c2, fun f hf => He.eqO_ok (List.all_eq_true.mp c3 f hf), of_decide_eq_true c4, of_decide_eq_true c5, of_decide_eq_true c6, of_decide_eq_true c7⟩
def kitB (errs : List Str) (K : PySem.W.Frag) : Bool := (List.range errs.length).all fun i => (List.range errs.length).all fun j => decide (PySem.W.kitOne K (.ref (He.ga K (errs.getD i ""))) (.ref (He.ga K (errs.getD j ""))) = some (i == j))
theorem kitB_ok {errs : List Str} {K : PySem.W.Frag} (c : kitB errs K = true) (i j : Nat) (hi : i < errs.length) (hj : j < errs.length) : PySem.W.kitOne K (.ref (He.ga K (errs.getD i ""))) (.ref (He.ga K (errs.getD j ""))) = some (i == j) :=
  of_decide_eq_true (List.all_eq_true.mp (List.all_eq_true.mp c i (List.mem_range.mpr hi)) j (List.mem_range.mpr hj))
theorem iniAll_ok {file : Str} {K : PySem.W.Frag} {ini : List IniD} (c : (ini.all fun d => iniB file K d) = true) (e : ini.map (fun d => iniW K d.nm) = ini.map IniD.val) : ∀ (i : Nat) {d : IniD}, ini[i]? = some d → iniW K d.nm = d.val ∧ iniB file K d = true := fun i d h => by
  refine ⟨?_, List.all_eq_true.mp c d (List.mem_of_getElem? h)⟩
  have e2 : (ini.map fun d => iniW K d.nm)[i]? = (ini.map IniD.val)[i]? := by rw [e]
  rw [List.getElem?_map, List.getElem?_map, h] at e2
  exact Option.some.inj e2
section
variable {P : Program} {w : PySem.World} {K : PySem.W.Frag} {mg : Str → Option Value} {base : Heap} {CX : CXT} {k n : Nat} {f C : Addr} {fd : FuncData} {ps : List Str}
theorem FnG.zeroX : FnG P w K mg base CX k f fd ps (spX K n fun _ _ => none) := ⟨fun _ _ _ _ ⟨_, _, _, _, _, _, _, _, _, z, _⟩ => (nomatch z), fun _ _ _ _ _ _ _ _ _ _ _ _ _ _ ⟨_, _, _, _, _, _, _, _, _, z, _⟩ => nomatch z⟩
theorem FnG.zeroU : FnG P w K mg base CX k f fd ps (spU K n fun _ _ => none) := ⟨fun _ _ _ _ ⟨_, _, _, _, _, _, _, _, z, _⟩ => (nomatch z), fun _ _ _ _ _ _ _ _ _ _ _ _ _ _ ⟨_, _, _, _, _, _, _, _, z, _⟩ => nomatch z⟩
theorem FnG.zeroT : FnG P w K mg base CX k f fd ps (spT K fun _ _ _ _ => none) := ⟨fun _ _ _ _ ⟨_, _, _, _, _, _, _, _, _, z, _⟩ => (nomatch z), fun _ _ _ _ _ _ _ _ _ _ _ _ _ _ ⟨_, _, _, _, _, _, _, _, _, z, _⟩ => nomatch z⟩
theorem FnP.zeroP : FnP P w K mg base CX k f fd ps (spP K n C fun _ _ _ _ => none) := ⟨fun _ _ _ _ _ ⟨_, _, _, _, _, _, _, _, _, _, _, _, z, _⟩ => (nomatch z), fun _ _ _ _ _ _ _ _ _ _ _ _ _ _ _ _ ⟨_, _, _, _, _, _, _, _, _, _, _, _, z, _⟩ => (nomatch z)⟩
end
end Dy
namespace Dy
open PySem PySem.Spec PyProof.Rows L2
/-- a def's own place: its name, its text -/
structure DefA (K : PySem.W.Frag) (mg : Str → Option Value) (x : Str) (f : Addr) (fd : FuncData) (ps : List Str) : Prop where
  gl : mg x = some (.ref f)
  kp : PySem.W.keepIn K (.ref f) = true
  bd : Binds K fd ps []
structure DefT (P : Program) (w : PySem.World) (K : PySem.W.Frag) (mg : Str → Option Value) (base : Heap) (k : Nat) (x : Str) (f : Addr) (fd : FuncData) (ps : List Str) (tk : Int → Nat → Nat → MS → Option MS) : Prop where
  at_ : DefA K mg x f fd ps
  ok : FnG P w K mg base CX0 k f fd ps (spT K tk)
end Dy
namespace Dy
open PySem PySem.Spec PyProof.Rows L2
theorem FunDG.okT {P : Program} {w : PySem.World} {K : PySem.W.Frag} {mg : Str → Option Value} {base : Heap} {x qual : Str} {params : Arguments} {body : List Stmt} {scope : Scope} {dvs : List V} {kws : List (Str × V)} {f : Addr} {fd : FuncData} {N ps : List Str} {k : Nat} {tk : Int → Nat → Nat → MS → Option MS} (F : FunD K x qual params body scope dvs kws f fd) (S : FnScope N ps scope) (hl : ps.length = 3)
    (hbody : ∀ (cdv : Value) (A : Around) (outer : List PySem.Env) (s : Shared) (H : Hp) (vs : List V) (Q : VK) (E : XK), A.guards = some [] → Room k (A.deeper (envOfC qual scope s.heap.objs.size f cdv)) → spT K tk vs H Q E →
      ∃ t, PSs (cxOf CX0 P w K mg base N qual scope f cdv A outer s H E) body t ∧ t { nx := fun _ H' => Q .non H', rt := Q } (L2.start N vs) H) : FnG P w K mg base CX0 (k + 1) f fd ps (spT K tk) := by
  obtain ⟨oc, od, dV, kV, doc, pm, an, cdv, ct, osl, rfl, lk, hcd, _, _⟩ := F.ex
  exact fng_of lk hcd S (spT_len hl) fun A outer s H vs Q E hgd hr h => hbody cdv A outer s H vs Q E hgd hr h
end Dy

set_option Elab.async false
set_option linter.all false
set_option maxRecDepth 100000
set_option maxHeartbeats 0
namespace K10
open PySem PySem.Spec PyProof.Rows L2 Dy
abbrev RH : PySem.W.OpenRow := PySem.W.OpenLaw.row PySem.Challenge.rw_movedchecks_k10_errors
abbrev P : Program := RH.prog
def top (i : Nat) : Stmt := PySem.Challenge.pw_movedchecks_k10_errors.main.body.getD i (.Pass ⟨0, 0, 0, 0⟩)
abbrev s_law : Stmt := top 79
abbrev i_law : Nat := 0
abbrev N_law : List Str := ["_law_script", "_law_bag_here", "_law_turn", "_law_k", "_law_one", "_law_two", "_law_told", "_law_due", "_law_many", "_law_at", "_law_j"]
abbrev p_law : List Str := ["_law_script"]
def d_law : He.DefD := ⟨("law", none), "law", "law", defArgs s_law, defBody s_law, defScope s_law, [], []⟩
theorem sc_law : FnScope N_law p_law (defScope s_law) := ⟨rfl, rfl, rfl, by decide +kernel, rfl, by decide +kernel, by decide +kernel⟩
abbrev s__law_taken : Stmt := top 78
abbrev i__law_taken : Nat := 1
abbrev N__law_taken : List Str := ["_law_k", "_law_one", "_law_two", "_law_e"]
abbrev p__law_taken : List Str := ["_law_k", "_law_one", "_law_two"]
def d__law_taken : He.DefD := ⟨("_law_taken", none), "_law_taken", "_law_taken", defArgs s__law_taken, defBody s__law_taken, defScope s__law_taken, [], []⟩
theorem sc__law_taken : FnScope N__law_taken p__law_taken (defScope s__law_taken) := ⟨rfl, rfl, rfl, by decide +kernel, rfl, by decide +kernel, by decide +kernel⟩
abbrev s__law_raise_first : Stmt := top 73
abbrev i__law_raise_first : Nat := 2
abbrev N__law_raise_first : List Str := ["_law_k", "_law_one", "_law_two"]
abbrev p__law_raise_first : List Str := ["_law_k", "_law_one", "_law_two"]
def d__law_raise_first : He.DefD := ⟨("_law_raise_first", none), "_law_raise_first", "_law_raise_first", defArgs s__law_raise_first, defBody s__law_raise_first, defScope s__law_raise_first, [], []⟩
theorem sc__law_raise_first : FnScope N__law_raise_first p__law_raise_first (defScope s__law_raise_first) := ⟨rfl, rfl, rfl, by decide +kernel, rfl, by decide +kernel, by decide +kernel⟩
abbrev s__law_raise : Stmt := top 74
abbrev i__law_raise : Nat := 3
abbrev N__law_raise : List Str := ["_law_k", "_law_one", "_law_two"]
abbrev p__law_raise : List Str := ["_law_k", "_law_one", "_law_two"]
def d__law_raise : He.DefD := ⟨("_law_raise", none), "_law_raise", "_law_raise", defArgs s__law_raise, defBody s__law_raise, defScope s__law_raise, [], []⟩
theorem sc__law_raise : FnScope N__law_raise p__law_raise (defScope s__law_raise) := ⟨rfl, rfl, rfl, by decide +kernel, rfl, by decide +kernel, by decide +kernel⟩
abbrev s__law_classes : Stmt := top 75
abbrev i__law_classes : Nat := 4
abbrev N__law_classes : List Str := ["_law_e", "_law_found"]
abbrev p__law_classes : List Str := ["_law_e"]
def d__law_classes : He.DefD := ⟨("_law_classes", none), "_law_classes", "_law_classes", defArgs s__law_classes, defBody s__law_classes, defScope s__law_classes, [], []⟩
theorem sc__law_classes : FnScope N__law_classes p__law_classes (defScope s__law_classes) := ⟨rfl, rfl, rfl, by decide +kernel, rfl, by decide +kernel, by decide +kernel⟩
abbrev s__law_fields : Stmt := top 76
abbrev i__law_fields : Nat := 5
abbrev N__law_fields : List Str := ["_law_k", "_law_e"]
abbrev p__law_fields : List Str := ["_law_k", "_law_e"]
def d__law_fields : He.DefD := ⟨("_law_fields", none), "_law_fields", "_law_fields", defArgs s__law_fields, defBody s__law_fields, defScope s__law_fields, [], []⟩
theorem sc__law_fields : FnScope N__law_fields p__law_fields (defScope s__law_fields) := ⟨rfl, rfl, rfl, by decide +kernel, rfl, by decide +kernel, by decide +kernel⟩
abbrev s__law_bag : Stmt := top 69
abbrev i__law_bag : Nat := 6
abbrev N__law_bag : List Str := ["_law_script", "_law_cell"]
abbrev p__law_bag : List Str := ["_law_script"]
def d__law_bag : He.DefD := ⟨("_law_bag", none), "_law_bag", "_law_bag", defArgs s__law_bag, defBody s__law_bag, defScope s__law_bag, [], []⟩
theorem sc__law_bag : FnScope N__law_bag p__law_bag (defScope s__law_bag) := ⟨rfl, rfl, rfl, by decide +kernel, rfl, by decide +kernel, by decide +kernel⟩
abbrev s__law_take : Stmt := top 70
abbrev i__law_take : Nat := 7
abbrev N__law_take : List Str := ["_law_bag_here", "_law_many", "_law_cell", "_law_mixed", "_law_drawn", "_law_early", "_law_second"]
abbrev p__law_take : List Str := ["_law_bag_here", "_law_many"]
def d__law_take : He.DefD := ⟨("_law_take", none), "_law_take", "_law_take", defArgs s__law_take, defBody s__law_take, defScope s__law_take, [], []⟩
theorem sc__law_take : FnScope N__law_take p__law_take (defScope s__law_take) := ⟨rfl, rfl, rfl, by decide +kernel, rfl, by decide +kernel, by decide +kernel⟩
abbrev s__law_value : Stmt := top 77
abbrev i__law_value : Nat := 8
abbrev N__law_value : List Str := ["_law_bag_here", "_law_style"]
abbrev p__law_value : List Str := ["_law_bag_here"]
def d__law_value : He.DefD := ⟨("_law_value", none), "_law_value", "_law_value", defArgs s__law_value, defBody s__law_value, defScope s__law_value, [], []⟩
theorem sc__law_value : FnScope N__law_value p__law_value (defScope s__law_value) := ⟨rfl, rfl, rfl, by decide +kernel, rfl, by decide +kernel, by decide +kernel⟩
abbrev s__law_alike : Stmt := top 71
abbrev i__law_alike : Nat := 9
abbrev N__law_alike : List Str := ["_law_found", "_law_due"]
abbrev p__law_alike : List Str := ["_law_found", "_law_due"]
def d__law_alike : He.DefD := ⟨("_law_alike", none), "_law_alike", "_law_alike", defArgs s__law_alike, defBody s__law_alike, defScope s__law_alike, [], []⟩
theorem sc__law_alike : FnScope N__law_alike p__law_alike (defScope s__law_alike) := ⟨rfl, rfl, rfl, by decide +kernel, rfl, by decide +kernel, by decide +kernel⟩
abbrev s_Program___init__ : Stmt := meth (top 67) 0
abbrev i_Program___init__ : Nat := 10
abbrev N_Program___init__ : List Str := ["self", "inputs", "rows", "row"]
abbrev p_Program___init__ : List Str := ["self", "inputs", "rows"]
def d_Program___init__ : He.DefD := ⟨("Program", some "__init__"), "__init__", "Program.__init__", defArgs s_Program___init__, defBody s_Program___init__, defScope s_Program___init__, [], []⟩
theorem sc_Program___init__ : FnScope N_Program___init__ p_Program___init__ (defScope s_Program___init__) := ⟨rfl, rfl, rfl, by decide +kernel, rfl, by decide +kernel, by decide +kernel⟩
abbrev s__law_odd : Stmt := top 72
abbrev i__law_odd : Nat := 11
abbrev N__law_odd : List Str := ["_law_bag_here", "_law_name", "_law_odd_here"]
abbrev p__law_odd : List Str := ["_law_bag_here", "_law_name"]
def d__law_odd : He.DefD := ⟨("_law_odd", none), "_law_odd", "_law_odd", defArgs s__law_odd, defBody s__law_odd, defScope s__law_odd, [], []⟩
theorem sc__law_odd : FnScope N__law_odd p__law_odd (defScope s__law_odd) := ⟨rfl, rfl, rfl, by decide +kernel, rfl, by decide +kernel, by decide +kernel⟩
abbrev s_are_inputs : Stmt := top 66
abbrev i_are_inputs : Nat := 12
abbrev N_are_inputs : List Str := ["thing"]
abbrev p_are_inputs : List Str := ["thing"]
def d_are_inputs : He.DefD := ⟨("are_inputs", none), "are_inputs", "are_inputs", defArgs s_are_inputs, defBody s_are_inputs, defScope s_are_inputs, [], []⟩
theorem sc_are_inputs : FnScope N_are_inputs p_are_inputs (defScope s_are_inputs) := ⟨rfl, rfl, rfl, by decide +kernel, rfl, by decide +kernel, by decide +kernel⟩
abbrev s_are_rows : Stmt := top 45
abbrev i_are_rows : Nat := 13
abbrev N_are_rows : List Str := ["thing", "row"]
abbrev p_are_rows : List Str := ["thing"]
def d_are_rows : He.DefD := ⟨("are_rows", none), "are_rows", "are_rows", defArgs s_are_rows, defBody s_are_rows, defScope s_are_rows, [], []⟩
theorem sc_are_rows : FnScope N_are_rows p_are_rows (defScope s_are_rows) := ⟨rfl, rfl, rfl, by decide +kernel, rfl, by decide +kernel, by decide +kernel⟩
abbrev s_count : Stmt := top 51
abbrev i_count : Nat := 14
abbrev N_count : List Str := ["rows", "row", "some"]
abbrev p_count : List Str := ["rows"]
def d_count : He.DefD := ⟨("count", none), "count", "count", defArgs s_count, defBody s_count, defScope s_count, [], []⟩
theorem sc_count : FnScope N_count p_count (defScope s_count) := ⟨rfl, rfl, rfl, by decide +kernel, rfl, by decide +kernel, by decide +kernel⟩
abbrev s_depth : Stmt := top 52
abbrev i_depth : Nat := 15
abbrev N_depth : List Str := ["rows", "row", "some"]
abbrev p_depth : List Str := ["rows"]
def d_depth : He.DefD := ⟨("depth", none), "depth", "depth", defArgs s_depth, defBody s_depth, defScope s_depth, [], []⟩
theorem sc_depth : FnScope N_depth p_depth (defScope s_depth) := ⟨rfl, rfl, rfl, by decide +kernel, rfl, by decide +kernel, by decide +kernel⟩
abbrev s_walked : Stmt := top 60
abbrev i_walked : Nat := 16
abbrev N_walked : List Str := ["rows", "begin", "found", "at", "row", "number", "some"]
abbrev p_walked : List Str := ["rows", "begin"]
def d_walked : He.DefD := ⟨("walked", none), "walked", "walked", defArgs s_walked, defBody s_walked, defScope s_walked, [], []⟩
theorem sc_walked : FnScope N_walked p_walked (defScope s_walked) := ⟨rfl, rfl, rfl, by decide +kernel, rfl, by decide +kernel, by decide +kernel⟩
abbrev s_Program_need_leaves : Stmt := meth (top 67) 1
abbrev i_Program_need_leaves : Nat := 17
abbrev N_Program_need_leaves : List Str := ["self", "address", "row"]
abbrev p_Program_need_leaves : List Str := ["self"]
def d_Program_need_leaves : He.DefD := ⟨("Program", some "need_leaves"), "need_leaves", "Program.need_leaves", defArgs s_Program_need_leaves, defBody s_Program_need_leaves, defScope s_Program_need_leaves, [], []⟩
theorem sc_Program_need_leaves : FnScope N_Program_need_leaves p_Program_need_leaves (defScope s_Program_need_leaves) := ⟨rfl, rfl, rfl, by decide +kernel, rfl, by decide +kernel, by decide +kernel⟩
abbrev s_Program_need_names : Stmt := meth (top 67) 2
abbrev i_Program_need_names : Nat := 18
abbrev N_Program_need_names : List Str := ["self", "doubled", "address", "row", "name"]
abbrev p_Program_need_names : List Str := ["self"]
def d_Program_need_names : He.DefD := ⟨("Program", some "need_names"), "need_names", "Program.need_names", defArgs s_Program_need_names, defBody s_Program_need_names, defScope s_Program_need_names, [], []⟩
theorem sc_Program_need_names : FnScope N_Program_need_names p_Program_need_names (defScope s_Program_need_names) := ⟨rfl, rfl, rfl, by decide +kernel, rfl, by decide +kernel, by decide +kernel⟩
abbrev s_Program_need_sight : Stmt := meth (top 67) 3
abbrev i_Program_need_sight : Nat := 19
abbrev N_Program_need_sight : List Str := ["self", "address", "row", "ends", "at", "name", "gap", "number", "some"]
abbrev p_Program_need_sight : List Str := ["self"]
def d_Program_need_sight : He.DefD := ⟨("Program", some "need_sight"), "need_sight", "Program.need_sight", defArgs s_Program_need_sight, defBody s_Program_need_sight, defScope s_Program_need_sight, [], []⟩
theorem sc_Program_need_sight : FnScope N_Program_need_sight p_Program_need_sight (defScope s_Program_need_sight) := ⟨rfl, rfl, rfl, by decide +kernel, rfl, by decide +kernel, by decide +kernel⟩
abbrev s_Program_need_trees : Stmt := meth (top 67) 4
abbrev i_Program_need_trees : Nat := 20
abbrev N_Program_need_trees : List Str := ["self", "fans", "name"]
abbrev p_Program_need_trees : List Str := ["self"]
def d_Program_need_trees : He.DefD := ⟨("Program", some "need_trees"), "need_trees", "Program.need_trees", defArgs s_Program_need_trees, defBody s_Program_need_trees, defScope s_Program_need_trees, [], []⟩
theorem sc_Program_need_trees : FnScope N_Program_need_trees p_Program_need_trees (defScope s_Program_need_trees) := ⟨rfl, rfl, rfl, by decide +kernel, rfl, by decide +kernel, by decide +kernel⟩
abbrev s_are_names : Stmt := top 36
abbrev i_are_names : Nat := 21
abbrev N_are_names : List Str := ["thing", "most", "name"]
abbrev p_are_names : List Str := ["thing", "most"]
def d_are_names : He.DefD := ⟨("are_names", none), "are_names", "are_names", defArgs s_are_names, defBody s_are_names, defScope s_are_names, [], []⟩
theorem sc_are_names : FnScope N_are_names p_are_names (defScope s_are_names) := ⟨rfl, rfl, rfl, by decide +kernel, rfl, by decide +kernel, by decide +kernel⟩
abbrev s_Fans___init__ : Stmt := meth (top 65) 0
abbrev i_Fans___init__ : Nat := 22
abbrev N_Fans___init__ : List Str := ["self", "inputs", "rows", "name"]
abbrev p_Fans___init__ : List Str := ["self", "inputs", "rows"]
def d_Fans___init__ : He.DefD := ⟨("Fans", some "__init__"), "__init__", "Fans.__init__", defArgs s_Fans___init__, defBody s_Fans___init__, defScope s_Fans___init__, [], []⟩
theorem sc_Fans___init__ : FnScope N_Fans___init__ p_Fans___init__ (defScope s_Fans___init__) := ⟨rfl, rfl, rfl, by decide +kernel, rfl, by decide +kernel, by decide +kernel⟩
abbrev s_Program_names : Stmt := meth (top 67) 13
abbrev i_Program_names : Nat := 23
abbrev N_Program_names : List Str := ["self"]
abbrev p_Program_names : List Str := ["self"]
def d_Program_names : He.DefD := ⟨("Program", some "names"), "names", "Program.names", defArgs s_Program_names, defBody s_Program_names, defScope s_Program_names, [], []⟩
theorem sc_Program_names : FnScope N_Program_names p_Program_names (defScope s_Program_names) := ⟨rfl, rfl, rfl, by decide +kernel, rfl, by decide +kernel, by decide +kernel⟩
abbrev s_is_name : Stmt := top 34
abbrev i_is_name : Nat := 24
abbrev N_is_name : List Str := ["thing", "letter"]
abbrev p_is_name : List Str := ["thing"]
def d_is_name : He.DefD := ⟨("is_name", none), "is_name", "is_name", defArgs s_is_name, defBody s_is_name, defScope s_is_name, [], []⟩
theorem sc_is_name : FnScope N_is_name p_is_name (defScope s_is_name) := ⟨rfl, rfl, rfl, by decide +kernel, rfl, by decide +kernel, by decide +kernel⟩
abbrev s_Fans_number : Stmt := meth (top 65) 1
abbrev i_Fans_number : Nat := 25
abbrev N_Fans_number : List Str := ["self", "node"]
abbrev p_Fans_number : List Str := ["self", "node"]
def d_Fans_number : He.DefD := ⟨("Fans", some "number"), "number", "Fans.number", defArgs s_Fans_number, defBody s_Fans_number, defScope s_Fans_number, [], []⟩
theorem sc_Fans_number : FnScope N_Fans_number p_Fans_number (defScope s_Fans_number) := ⟨rfl, rfl, rfl, by decide +kernel, rfl, by decide +kernel, by decide +kernel⟩
abbrev s_Fans_add : Stmt := meth (top 65) 5
abbrev i_Fans_add : Nat := 26
abbrev N_Fans_add : List Str := ["self", "rows", "row", "some", "name", "one", "other", "arg"]
abbrev p_Fans_add : List Str := ["self", "rows"]
def d_Fans_add : He.DefD := ⟨("Fans", some "add"), "add", "Fans.add", defArgs s_Fans_add, defBody s_Fans_add, defScope s_Fans_add, [], []⟩
theorem sc_Fans_add : FnScope N_Fans_add p_Fans_add (defScope s_Fans_add) := ⟨rfl, rfl, rfl, by decide +kernel, rfl, by decide +kernel, by decide +kernel⟩
/-! ### errors -/
def errs : List Str := ["Wrong", "Full", "Deep", "NotLast", "Twice", "Unseen", "Wide", "NoRow", "NoGap", "NoName", "Inside", "NoFork", "NoWord", "BadChoices", "Unlike", "NoLags", "TooMany", "Parted", "NoPair", "BadDeeds", "BadStep", "NoDeed", "Refused", "Nothing", "NoEntry", "NoText", "NoCommand"]
def flds : List Str := ["address", "at", "bad", "deed", "gap", "limit", "many", "most", "name", "pair", "place", "road", "step", "word"]
def nsL : List (List Str) := [["place"], ["limit"], ["limit"], ["address"], ["name"], ["address", "name"], ["name"], ["address"], ["gap"], ["name"], ["gap"], ["at"], ["word"], ["at"], [], [], ["most"], ["road", "bad"], ["pair"], [], ["step"], [], ["deed"], [], ["many"], [], []]
def nsOf (kk : Nat) : List Str := nsL.getD kk []
def CsK (K : PySem.W.Frag) (kk : Nat) : Addr := He.ga K (errs.getD kk "")
def bits (kk : Nat) : List Bool := (List.range 27).map (fun j => kk == j) ++ [true, true, false]
def in_Wrong : IniD := ⟨"Wrong", "Wrong.__init__", meth (top 3) 0⟩
def in_Full : IniD := ⟨"Full", "Full.__init__", meth (top 4) 0⟩
def in_Deep : IniD := ⟨"Deep", "Deep.__init__", meth (top 5) 0⟩
def in_NotLast : IniD := ⟨"NotLast", "NotLast.__init__", meth (top 6) 0⟩
def in_Twice : IniD := ⟨"Twice", "Twice.__init__", meth (top 7) 0⟩
def in_Unseen : IniD := ⟨"Unseen", "Unseen.__init__", meth (top 8) 0⟩
def in_Wide : IniD := ⟨"Wide", "Wide.__init__", meth (top 9) 0⟩
def in_NoRow : IniD := ⟨"NoRow", "NoRow.__init__", meth (top 10) 0⟩
def in_NoGap : IniD := ⟨"NoGap", "NoGap.__init__", meth (top 11) 0⟩
def in_NoName : IniD := ⟨"NoName", "NoName.__init__", meth (top 12) 0⟩
def in_Inside : IniD := ⟨"Inside", "Inside.__init__", meth (top 13) 0⟩
def in_NoFork : IniD := ⟨"NoFork", "NoFork.__init__", meth (top 14) 0⟩
def in_NoWord : IniD := ⟨"NoWord", "NoWord.__init__", meth (top 15) 0⟩
def in_BadChoices : IniD := ⟨"BadChoices", "BadChoices.__init__", meth (top 16) 0⟩
def in_Unlike : IniD := ⟨"Unlike", "Unlike.__init__", meth (top 17) 0⟩
def in_NoLags : IniD := ⟨"NoLags", "NoLags.__init__", meth (top 18) 0⟩
def in_TooMany : IniD := ⟨"TooMany", "TooMany.__init__", meth (top 19) 0⟩
def in_Parted : IniD := ⟨"Parted", "Parted.__init__", meth (top 20) 0⟩
def in_NoPair : IniD := ⟨"NoPair", "NoPair.__init__", meth (top 21) 0⟩
def in_BadDeeds : IniD := ⟨"BadDeeds", "BadDeeds.__init__", meth (top 22) 0⟩
def in_BadStep : IniD := ⟨"BadStep", "BadStep.__init__", meth (top 23) 0⟩
def in_NoDeed : IniD := ⟨"NoDeed", "NoDeed.__init__", meth (top 24) 0⟩
def in_Refused : IniD := ⟨"Refused", "Refused.__init__", meth (top 25) 0⟩
def in_Nothing : IniD := ⟨"Nothing", "Nothing.__init__", meth (top 26) 0⟩
def in_NoEntry : IniD := ⟨"NoEntry", "NoEntry.__init__", meth (top 27) 0⟩
def in_NoText : IniD := ⟨"NoText", "NoText.__init__", meth (top 28) 0⟩
def in_NoCommand : IniD := ⟨"NoCommand", "NoCommand.__init__", meth (top 29) 0⟩
def ini_0 : List IniD := [in_Wrong, in_Full, in_Deep, in_NotLast, in_Twice, in_Unseen, in_Wide, in_NoRow, in_NoGap, in_NoName, in_Inside, in_NoFork, in_NoWord, in_BadChoices, in_Unlike, in_NoLags, in_TooMany, in_Parted, in_NoPair, in_BadDeeds]
def ini_1 : List IniD := [in_BadStep, in_NoDeed, in_Refused, in_Nothing, in_NoEntry, in_NoText, in_NoCommand]
def ini : List IniD := ini_0 ++ ini_1
/-! ### mirrors -/
def m_law (T : Nat → Fn) (TT : Int → Nat → Nat → MS → Option MS) (a_Fans a_Program : Addr) : SM := (sSeq (sNew 1 (eFn (T i__law_bag) (eCons (eVar 0) eNil)))
    (sSeq (sFor (eRng1 (eCons (eC (.int 8)) eNil)) (bName 2) (sSeq (sSet 3 (eFn (T i__law_take) (eCons (eVar 1) (eCons (eC (.int 27)) eNil))))
    (sSeq (sPar2N 4 5 (rConsN (eLst (eCons (eFn (T i__law_value) (eCons (eVar 1) eNil)) eNil)) (rConsN (eLst (eCons (eFn (T i__law_value) (eCons (eVar 1) eNil)) eNil)) rNil)))
    (sSeq (sTaken TT 6 7 3 4 5 (eBin gAdd (eComp (eRng1 (eCons (eC (.int 27)) eNil)) (bName 10) cYes (eBin gEq (eVar 10) (eVar 3)) [10]) (eLst (eCons (eC (.bl true)) (eCons (eC (.bl true)) (eCons (eC (.bl false)) eNil))))))
    (sSeq (sSet 8 (eIf (eBool (eBin gIn (eVar 3) (eTup (eCons (eC (.int 14)) (eCons (eC (.int 15)) (eCons (eC (.int 19)) (eCons (eC (.int 21)) (eCons (eC (.int 23)) (eCons (eC (.int 25)) (eCons (eC (.int 26)) eNil)))))))))) (eC (.int 0)) (eIf (eBool (eBin gIn (eVar 3) (eTup (eCons (eC (.int 5)) (eCons (eC (.int 17)) eNil))))) (eC (.int 2)) (eC (.int 1)))))
    (sSeq (sIf (tOrB (eBool (eBin gNe (eCall (g1 lenS) (eCons (eVar 6) eNil)) (eC (.int 2)))) (tOrB (tNotB (eTru (eFn (T i__law_alike) (eCons (eBin gIx (eVar 6) (eC (.int 0))) (eCons (eVar 7) eNil))))) (eSameH 6 4 5 8))) (sRet (eC (.bl false))) sNext)
    (sSeq (sExpr (eMt "list" gAppend (eVar 4) (eCons (eC (.str "more")) eNil)))
    (sSeq (sExpr (eMt "list" gAppend (eVar 5) (eCons (eC (.str "again")) eNil)))
    (sSeq (sIf (eSameH 6 4 5 8) (sRet (eC (.bl false))) sNext)
    (sFor (eRng1 (eCons (eVar 8) eNil)) (bName 9) (sIf (eBool (eBin gNe (eBin gIx (eBin gIx (eBin gIx (eVar 6) (eC (.int 1))) (eVar 9)) (eNeg (eC (.int 1)))) (eBin gIx (eLst (eCons (eC (.str "more")) (eCons (eC (.str "again")) eNil))) (eVar 9)))) (sRet (eC (.bl false))) sNext)))))))))))
    (sRet (eC (.bl true)))))
def m__law_bag (T : Nat → Fn) (TT : Int → Nat → Nat → MS → Option MS) (a_Fans a_Program : Addr) : SM := (sRet (eLst (eCons (eC (.int 0)) (eCons (eC (.int 1234567891)) (eCons (eC (.int 0)) (eCons (eComp (eSeq (eSlice (eVar 0) eNoPart (ePart (eC (.int 63))))) (bName 1) cYes (eCall (g1 absS) (eCons (eVar 1) eNil)) [1]) eNil))))))
def m__law_take (T : Nat → Fn) (TT : Int → Nat → Nat → MS → Option MS) (a_Fans a_Program : Addr) : SM := (sSeq (sIf (eBool (eBin gEq (eBin gIx (eVar 0) (eC (.int 0))) (eC (.int 0)))) (sSeq (sSet 2 (eBin gIx (eBin gAdd (eSlice (eBin gIx (eVar 0) (eC (.int 3))) (ePart (eBin gIx (eVar 0) (eC (.int 2)))) eNoPart) (eLst (eCons (eC (.int 0)) eNil))) (eC (.int 0))))
    (sSeq (sAugPut (fun i j => i + j) (eVar 0) (eC (.int 2)) (eC (.int 1)))
    (sSeq (sPut (eVar 0) (eC (.int 0)) (eBin gMul (eVar 2) (eCall (g1 intS) (eCons (eBin gGe (eVar 2) (eBin gPow (eC (.int 10)) (eC (.int 18)))) eNil))))
    (sSeq (sSet 3 (eBin gAdd (eBin gAdd (eBin gMul (eBin gIx (eVar 0) (eC (.int 1))) (eC (.int 48271))) (eBin gMod (eCall (g1 intS) (eCons (eVar 2) eNil)) (eC (.int 2147483647)))) (eBin gMul (eC (.int 7919)) (eBin gIx (eVar 0) (eC (.int 2))))))
    (sPut (eVar 0) (eC (.int 1)) (eBin gMod (eCall (g1 intS) (eCons (eVar 3) eNil)) (eC (.int 2147483647)))))))) sNext)
    (sSeq (sIf (eBool (eBin gGt (eBin gIx (eVar 0) (eC (.int 0))) (eC (.int 0)))) (sSeq (sNamePut 4 (eVar 0) (eC (.int 0)) (eTup (eCons (eBin gMod (eCall (g1 intS) (eCons (eBin gIx (eVar 0) (eC (.int 0))) eNil)) (eVar 1)) (eCons (eBin gFdiv (eCall (g1 intS) (eCons (eBin gIx (eVar 0) (eC (.int 0))) eNil)) (eVar 1)) eNil))))
    (sRet (eVar 4))) sNext)
    (sSeq (sSet 5 (eBin gMod (eCall (g1 intS) (eCons (eBin gMul (eBin gAdd (eBin gIx (eVar 0) (eC (.int 1))) (eC (.int 1))) (eC (.int 39373))) eNil)) (eC (.int 1000000007))))
    (sSeq (sSet 6 (eBin gMod (eCall (g1 intS) (eCons (eBin gMul (eBin gMod (eCall (g1 intS) (eCons (eBin gMul (eVar 5) (eVar 5)) eNil)) (eC (.int 998244353))) (eC (.int 30011))) eNil)) (eC (.int 998244353))))
    (sRet (eBin gMod (eCall (g1 intS) (eCons (eBin gFdiv (eVar 6) (eC (.int 7))) eNil)) (eVar 1)))))))
def m__law_value (T : Nat → Fn) (TT : Int → Nat → Nat → MS → Option MS) (a_Fans a_Program : Addr) : SM := (sSeq (sSet 1 (eFn (T i__law_take) (eCons (eVar 0) (eCons (eC (.int 6)) eNil))))
    (sSeq (sIf (eBool (eBin gEq (eVar 1) (eC (.int 0)))) (sRet (eMake a_Program (T i_Program___init__) (eCons (eLst (eCons (eC (.str "a")) eNil)) (eCons (eLst eNil) eNil)))) sNext)
    (sRet (eIf (eBool (eBin gEq (eVar 1) (eC (.int 1)))) (eExcV 1 (eCons (eTup (eCons (eC (.int 0)) eNil)) eNil)) (eFn (T i__law_odd) (eCons (eVar 0) (eCons (eC (.str "ab")) eNil)))))))
def m__law_alike (T : Nat → Fn) (TT : Int → Nat → Nat → MS → Option MS) (a_Fans a_Program : Addr) : SM := (sRet (eAnd (eBin gEq (eVar 0) (eVar 1)) (eBin gEq (eCall (g1 reprS) (eCons (eVar 0) eNil)) (eCall (g1 reprS) (eCons (eVar 1) eNil)))))
def m_Program___init__ (T : Nat → Fn) (TT : Int → Nat → Nat → MS → Option MS) (a_Fans a_Program : Addr) : SM := (sSeq (sIf (tNotB (eTru (eFn (T i_are_inputs) (eCons (eVar 1) eNil)))) sNo sNext)
    (sSeq (sIf (tNotB (eTru (eFn (T i_are_rows) (eCons (eVar 2) eNil)))) sNo sNext)
    (sSeq (sIf (eBool (eBin gGt (eFn (T i_count) (eCons (eVar 2) eNil)) (eC (.int 24)))) sNo sNext)
    (sSeq (sIf (eBool (eBin gGt (eFn (T i_depth) (eCons (eVar 2) eNil)) (eC (.int 4)))) sNo sNext)
    (sSeq (sFldPut a_Program "kept_inputs" (eVar 0) (eCall (g1 tupleS) (eCons (eCall (g1 sortedS) (eCons (eVar 1) eNil)) eNil)))
    (sSeq (sFldPut a_Program "kept_rows" (eVar 0) (eCall (g1 tupleS) (eCons (eComp (eSeq (eVar 2)) (bName 3) cYes eNo [3]) eNil)))
    (sSeq (sFldPut a_Program "kept_at" (eVar 0) (eCall (g1 dictPS) (eCons (eFn (T i_walked) (eCons (eFld a_Program "kept_rows" (eVar 0)) (eCons (eTup eNil) eNil))) eNil)))
    (sSeq (sFlds (fsCons a_Program "kept_makers" (eVar 0) (fsCons a_Program "kept_ways" (eVar 0) (fsCons a_Program "kept_forks" (eVar 0) fsNil))) 3 (eTup (eCons eDict0 (eCons eDict0 (eCons (eLst eNil) eNil)))))
    (sSeq (sExpr (eMeth a_Program "need_leaves" (T i_Program_need_leaves) (eVar 0) eNil))
    (sSeq (sExpr (eMeth a_Program "need_names" (T i_Program_need_names) (eVar 0) eNil))
    (sSeq (sExpr (eMeth a_Program "need_sight" (T i_Program_need_sight) (eVar 0) eNil))
    (sExpr (eMeth a_Program "need_trees" (T i_Program_need_trees) (eVar 0) eNil)))))))))))))
def m__law_odd (T : Nat → Fn) (TT : Int → Nat → Nat → MS → Option MS) (a_Fans a_Program : Addr) : SM := (sSeq (sSet 2 (eLst (eCons (eC .non) (eCons (eC (.bl true)) (eCons (eC (.bl false)) (eCons (eC (.int 0)) (eCons (eC (.int 1)) (eCons (eNeg (eC (.int 1))) (eCons (eBin gPow (eC (.int 10)) (eC (.int 40))) (eCons (eC (.str "")) (eCons (eVar 1) (eCons (eMt "str" gUpper (eVar 1) eNil) (eCons (eBin gAdd (eVar 1) (eC (.str "_"))) (eCons (eC (.str "abcdefghi")) (eCons (eC (.str "a b")) (eCons (eC (.str "a1")) eNil))))))))))))))))
    (sSeq (sSet 2 (eBin gAdd (eVar 2) (eLst (eCons (eTup eNil) (eCons (eLst eNil) (eCons eDict0 (eCons (eTup (eCons (eVar 1) eNil)) (eCons (eLst (eCons (eVar 1) eNil)) (eCons (eDict1 (eVar 1) (eC (.int 0))) (eCons (eTup (eCons (eC (.int 0)) eNil)) (eCons (eLst (eCons (eC (.int 0)) eNil)) (eCons (eTup (eCons (eC (.bl true)) eNil)) (eCons (eTup (eCons (eNeg (eC (.int 1))) eNil)) (eCons (eTup (eCons (eC (.int 0)) (eCons (eC (.int 1)) eNil))) (eCons (eC (.str "yes")) (eCons (eTup (eCons (eC (.str "yes")) eNil)) eNil))))))))))))))))
    (sRet (eBin gIx (eVar 2) (eFn (T i__law_take) (eCons (eVar 0) (eCons (eCall (g1 lenS) (eCons (eVar 2) eNil)) eNil)))))))
def m_are_inputs (T : Nat → Fn) (TT : Int → Nat → Nat → MS → Option MS) (a_Fans a_Program : Addr) : SM := (sRet (eAnd (eFn (T i_are_names) (eCons (eVar 0) (eCons (eC (.int 4)) eNil))) (eBin gEq (eLenSet (eVar 0)) (eCall (g1 lenS) (eCons (eVar 0) eNil)))))
def m_are_rows (T : Nat → Fn) (TT : Int → Nat → Nat → MS → Option MS) (a_Fans a_Program : Addr) : SM := (sRet (eAnd (eIsi2 "list" "tuple" (eVar 0)) (eCall (g1 allS) (eCons (eComp (eSeq (eVar 0)) (bName 1) cYes eNo [1]) eNil))))
def m_count (T : Nat → Fn) (TT : Int → Nat → Nat → MS → Option MS) (a_Fans a_Program : Addr) : SM := (sRet (eBin gAdd (eCall (g1 lenS) (eCons (eVar 0) eNil)) (eCall (g1 sumS) (eCons (eComp20 (eSeq (eVar 0))) eNil))))
def m_depth (T : Nat → Fn) (TT : Int → Nat → Nat → MS → Option MS) (a_Fans a_Program : Addr) : SM := (sRet (eBin gAdd (eC (.int 1)) (eMax0 (eComp20 (eSeq (eVar 0))) (eC (.int 0)))))
def m_walked (T : Nat → Fn) (TT : Int → Nat → Nat → MS → Option MS) (a_Fans a_Program : Addr) : SM := (sSeq (sNew 2 (eLst eNil))
    (sSeq (sFor (eEnum (eCons (eVar 0) eNil)) (bTup 2 (bsCons (bName 3) (bsCons (bName 4) bsNil))) sNo)
    (sRet (eVar 2))))
def m_Program_need_leaves (T : Nat → Fn) (TT : Int → Nat → Nat → MS → Option MS) (a_Fans a_Program : Addr) : SM := (sForFld0 a_Program 0 "kept_at")
def m_Program_need_names (T : Nat → Fn) (TT : Int → Nat → Nat → MS → Option MS) (a_Fans a_Program : Addr) : SM := (sSeq (sNew 1 (eLst eNil))
    (sSeq (sForFld0 a_Program 0 "kept_at")
    (sIf (eBool (eBin gNe (eVar 1) (eLst eNil))) sNo sNext)))
def m_Program_need_sight (T : Nat → Fn) (TT : Int → Nat → Nat → MS → Option MS) (a_Fans a_Program : Addr) : SM := (sForFld0 a_Program 0 "kept_at")
def m_Program_need_trees (T : Nat → Fn) (TT : Int → Nat → Nat → MS → Option MS) (a_Fans a_Program : Addr) : SM := (sSeq (sSet 1 (eMakeO a_Fans (T i_Fans___init__) (eCons (eFld a_Program "kept_inputs" (eVar 0)) (eCons (eFld a_Program "kept_rows" (eVar 0)) eNil))))
    (sFor (eSeq (eMeth a_Program "names" (T i_Program_names) (eVar 0) eNil)) (bName 2) sNo))
def m_are_names (T : Nat → Fn) (TT : Int → Nat → Nat → MS → Option MS) (a_Fans a_Program : Addr) : SM := (sSeq (sIf (tOrB (tNotB (eTru (eIsi2 "list" "tuple" (eVar 0)))) (eBool (eBin gGt (eCall (g1 lenS) (eCons (eVar 0) eNil)) (eVar 1)))) (sRet (eC (.bl false))) sNext)
    (sRet (eCall (g1 allS) (eCons (eComp (eSeq (eVar 0)) (bName 2) cYes (eFn (T i_is_name) (eCons (eVar 2) eNil)) [2]) eNil))))
def m_Fans___init__ (T : Nat → Fn) (TT : Int → Nat → Nat → MS → Option MS) (a_Fans a_Program : Addr) : SM := (sSeq (sFldsO a_Fans 0 ["nodes", "numbers", "makings", "rank"] (rConsN (eLst eNil) (rConsN eDict0 (rConsN eDict0 (rConsN (eC (.int 0)) rNil)))))
    (sSeq (sFldO a_Fans "node_of" 0 (eDc (eSeq (eVar 1)) (bName 3) cYes (eVar 3) (eMeth a_Fans "number" (T i_Fans_number) (eVar 0) (eCons (eTup (eCons (eC (.str "tree")) (eCons (eTup (eCons (eC (.str "in")) (eCons (eVar 3) eNil))) eNil))) eNil)) [3]))
    (sExpr (eMeth a_Fans "add" (T i_Fans_add) (eVar 0) (eCons (eVar 2) eNil)))))
def m_Program_names (T : Nat → Fn) (TT : Int → Nat → Nat → MS → Option MS) (a_Fans a_Program : Addr) : SM := (sRet (eCall (g1 sorted0S) (eCons (eFld a_Program "kept_makers" (eVar 0)) eNil)))
def m_is_name (T : Nat → Fn) (TT : Int → Nat → Nat → MS → Option MS) (a_Fans a_Program : Addr) : SM := (sSeq (sIf (tOrB (tNotB (eTru (eIsi "str" (eVar 0)))) (tNotB (eBool (eChain gLe gLe (eC (.int 1)) (eCall (g1 lenS) (eCons (eVar 0) eNil)) (eC (.int 8)))))) (sRet (eC (.bl false))) sNext)
    (sRet (eCall (g1 allS) (eCons (eComp (eSeq (eVar 0)) (bName 1) cYes (eBin gIn (eVar 1) (eC (.str "abcdefghijklmnopqrstuvwxyz"))) [1]) eNil))))
def m_Fans_number (T : Nat → Fn) (TT : Int → Nat → Nat → MS → Option MS) (a_Fans a_Program : Addr) : SM := (sSeq (sIf (eBool (eBin gNotInK (eCall (g1 reprS) (eCons (eVar 1) eNil)) (eFldO a_Fans "numbers" (eVar 0)))) (sSeq (sPutD (eFldO a_Fans "numbers" (eVar 0)) (eCall (g1 reprS) (eCons (eVar 1) eNil)) (eCall (g1 lenS) (eCons (eFldO a_Fans "nodes" (eVar 0)) eNil)))
    (sExpr (eMt "list" gAppend (eFldO a_Fans "nodes" (eVar 0)) (eCons (eVar 1) eNil)))) sNext)
    (sRet (eDGet (eFldO a_Fans "numbers" (eVar 0)) (eCall (g1 reprS) (eCons (eVar 1) eNil)))))
def m_Fans_add (T : Nat → Fn) (TT : Int → Nat → Nat → MS → Option MS) (a_Fans a_Program : Addr) : SM := (sFor (eSeq (eVar 1)) (bName 2) sNo)
def m__law_raise_first (g0 : FnX) (Cs : Nat → Addr) : SX := (xSeq (xIf (eBool (eBin gEq (eVar 0) (eC (.int 0)))) (xRaise (Cs 0) ["place"] (eCons (eVar 1) eNil)) (liftS sNext))
    (xSeq (xIf (eBool (eBin gEq (eVar 0) (eC (.int 1)))) (xRaise (Cs 1) ["limit"] (eCons (eVar 1) eNil)) (liftS sNext))
    (xSeq (xIf (eBool (eBin gEq (eVar 0) (eC (.int 2)))) (xRaise (Cs 2) ["limit"] (eCons (eVar 1) eNil)) (liftS sNext))
    (xSeq (xIf (eBool (eBin gEq (eVar 0) (eC (.int 3)))) (xRaise (Cs 3) ["address"] (eCons (eVar 1) eNil)) (liftS sNext))
    (xSeq (xIf (eBool (eBin gEq (eVar 0) (eC (.int 4)))) (xRaise (Cs 4) ["name"] (eCons (eVar 1) eNil)) (liftS sNext))
    (xSeq (xIf (eBool (eBin gEq (eVar 0) (eC (.int 5)))) (xRaise (Cs 5) ["address", "name"] (eCons (eVar 1) (eCons (eVar 2) eNil))) (liftS sNext))
    (xSeq (xIf (eBool (eBin gEq (eVar 0) (eC (.int 6)))) (xRaise (Cs 6) ["name"] (eCons (eVar 1) eNil)) (liftS sNext))
    (xSeq (xIf (eBool (eBin gEq (eVar 0) (eC (.int 7)))) (xRaise (Cs 7) ["address"] (eCons (eVar 1) eNil)) (liftS sNext))
    (xSeq (xIf (eBool (eBin gEq (eVar 0) (eC (.int 8)))) (xRaise (Cs 8) ["gap"] (eCons (eVar 1) eNil)) (liftS sNext))
    (xSeq (xIf (eBool (eBin gEq (eVar 0) (eC (.int 9)))) (xRaise (Cs 9) ["name"] (eCons (eVar 1) eNil)) (liftS sNext))
    (xSeq (xIf (eBool (eBin gEq (eVar 0) (eC (.int 10)))) (xRaise (Cs 10) ["gap"] (eCons (eVar 1) eNil)) (liftS sNext))
    (xSeq (xIf (eBool (eBin gEq (eVar 0) (eC (.int 11)))) (xRaise (Cs 11) ["at"] (eCons (eVar 1) eNil)) (liftS sNext))
    (xSeq (xIf (eBool (eBin gEq (eVar 0) (eC (.int 12)))) (xRaise (Cs 12) ["word"] (eCons (eVar 1) eNil)) (liftS sNext))
    (xIf (eBool (eBin gEq (eVar 0) (eC (.int 13)))) (xRaise (Cs 13) ["at"] (eCons (eVar 1) eNil)) (liftS sNext)))))))))))))))
def m__law_raise (g0 : FnX) (Cs : Nat → Addr) : SX := (xSeq (xExpr (eFnX g0 (eCons (eVar 0) (eCons (eVar 1) (eCons (eVar 2) eNil)))))
    (xSeq (xIf (eBool (eBin gEq (eVar 0) (eC (.int 14)))) (xRaise0 (Cs 14)) (liftS sNext))
    (xSeq (xIf (eBool (eBin gEq (eVar 0) (eC (.int 15)))) (xRaise0 (Cs 15)) (liftS sNext))
    (xSeq (xIf (eBool (eBin gEq (eVar 0) (eC (.int 16)))) (xRaise (Cs 16) ["most"] (eCons (eVar 1) eNil)) (liftS sNext))
    (xSeq (xIf (eBool (eBin gEq (eVar 0) (eC (.int 17)))) (xRaise (Cs 17) ["road", "bad"] (eCons (eVar 1) (eCons (eVar 2) eNil))) (liftS sNext))
    (xSeq (xIf (eBool (eBin gEq (eVar 0) (eC (.int 18)))) (xRaise (Cs 18) ["pair"] (eCons (eVar 1) eNil)) (liftS sNext))
    (xSeq (xIf (eBool (eBin gEq (eVar 0) (eC (.int 19)))) (xRaise0 (Cs 19)) (liftS sNext))
    (xSeq (xIf (eBool (eBin gEq (eVar 0) (eC (.int 20)))) (xRaise (Cs 20) ["step"] (eCons (eVar 1) eNil)) (liftS sNext))
    (xSeq (xIf (eBool (eBin gEq (eVar 0) (eC (.int 21)))) (xRaise0 (Cs 21)) (liftS sNext))
    (xSeq (xIf (eBool (eBin gEq (eVar 0) (eC (.int 22)))) (xRaise (Cs 22) ["deed"] (eCons (eVar 1) eNil)) (liftS sNext))
    (xSeq (xIf (eBool (eBin gEq (eVar 0) (eC (.int 23)))) (xRaise0 (Cs 23)) (liftS sNext))
    (xSeq (xIf (eBool (eBin gEq (eVar 0) (eC (.int 24)))) (xRaise (Cs 24) ["many"] (eCons (eVar 1) eNil)) (liftS sNext))
    (xSeq (xIf (eBool (eBin gEq (eVar 0) (eC (.int 25)))) (xRaise0 (Cs 25)) (liftS sNext))
    (xIf (eBool (eBin gEq (eVar 0) (eC (.int 26)))) (xRaise0 (Cs 26)) (liftS sNext)))))))))))))))
def m__law_classes (kk : Nat) (a : Addr) (d : Option Addr) : SM := (sSeq (sSet 1 (eLst (eCons (eIsP a d (kk == 0) (eVar 0)) (eCons (eIsP a d (kk == 1) (eVar 0)) (eCons (eIsP a d (kk == 2) (eVar 0)) (eCons (eIsP a d (kk == 3) (eVar 0)) eNil))))))
    (sSeq (sSet 1 (eBin gAdd (eVar 1) (eLst (eCons (eIsP a d (kk == 4) (eVar 0)) (eCons (eIsP a d (kk == 5) (eVar 0)) (eCons (eIsP a d (kk == 6) (eVar 0)) (eCons (eIsP a d (kk == 7) (eVar 0)) eNil)))))))
    (sSeq (sSet 1 (eBin gAdd (eVar 1) (eLst (eCons (eIsP a d (kk == 8) (eVar 0)) (eCons (eIsP a d (kk == 9) (eVar 0)) (eCons (eIsP a d (kk == 10) (eVar 0)) (eCons (eIsP a d (kk == 11) (eVar 0)) eNil)))))))
    (sSeq (sSet 1 (eBin gAdd (eVar 1) (eLst (eCons (eIsP a d (kk == 12) (eVar 0)) (eCons (eIsP a d (kk == 13) (eVar 0)) (eCons (eIsP a d (kk == 14) (eVar 0)) (eCons (eIsP a d (kk == 15) (eVar 0)) eNil)))))))
    (sSeq (sSet 1 (eBin gAdd (eVar 1) (eLst (eCons (eIsP a d (kk == 16) (eVar 0)) (eCons (eIsP a d (kk == 17) (eVar 0)) (eCons (eIsP a d (kk == 18) (eVar 0)) (eCons (eIsP a d (kk == 19) (eVar 0)) eNil)))))))
    (sSeq (sSet 1 (eBin gAdd (eVar 1) (eLst (eCons (eIsP a d (kk == 20) (eVar 0)) (eCons (eIsP a d (kk == 21) (eVar 0)) (eCons (eIsP a d (kk == 22) (eVar 0)) (eCons (eIsP a d (kk == 23) (eVar 0)) eNil)))))))
    (sSeq (sSet 1 (eBin gAdd (eVar 1) (eLst (eCons (eIsP a d (kk == 24) (eVar 0)) (eCons (eIsP a d (kk == 25) (eVar 0)) (eCons (eIsP a d (kk == 26) (eVar 0)) eNil))))))
    (sRet (eBin gAdd (eVar 1) (eLst (eCons (eIsP a d true (eVar 0)) (eCons (eIsP a d true (eVar 0)) (eCons (eIsP a d false (eVar 0)) eNil)))))))))))))
def m__law_fields (kk : Nat) (a : Addr) (d : Option Addr) : SM := (sSeq (sIf (eBool (eBin gIn (eVar 0) (eTup (eCons (eC (.int 0)) eNil)))) (sRet (eLst (eCons (eXf a d "place" (eVar 1)) eNil))) sNext)
    (sSeq (sIf (eBool (eBin gIn (eVar 0) (eTup (eCons (eC (.int 1)) (eCons (eC (.int 2)) eNil))))) (sRet (eLst (eCons (eXf a d "limit" (eVar 1)) eNil))) sNext)
    (sSeq (sIf (eBool (eBin gIn (eVar 0) (eTup (eCons (eC (.int 3)) (eCons (eC (.int 7)) eNil))))) (sRet (eLst (eCons (eXf a d "address" (eVar 1)) eNil))) sNext)
    (sSeq (sIf (eBool (eBin gIn (eVar 0) (eTup (eCons (eC (.int 4)) (eCons (eC (.int 6)) (eCons (eC (.int 9)) eNil)))))) (sRet (eLst (eCons (eXf a d "name" (eVar 1)) eNil))) sNext)
    (sSeq (sIf (eBool (eBin gIn (eVar 0) (eTup (eCons (eC (.int 5)) eNil)))) (sRet (eLst (eCons (eXf a d "address" (eVar 1)) (eCons (eXf a d "name" (eVar 1)) eNil)))) sNext)
    (sSeq (sIf (eBool (eBin gIn (eVar 0) (eTup (eCons (eC (.int 8)) (eCons (eC (.int 10)) eNil))))) (sRet (eLst (eCons (eXf a d "gap" (eVar 1)) eNil))) sNext)
    (sSeq (sIf (eBool (eBin gIn (eVar 0) (eTup (eCons (eC (.int 11)) (eCons (eC (.int 13)) eNil))))) (sRet (eLst (eCons (eXf a d "at" (eVar 1)) eNil))) sNext)
    (sSeq (sIf (eBool (eBin gIn (eVar 0) (eTup (eCons (eC (.int 12)) eNil)))) (sRet (eLst (eCons (eXf a d "word" (eVar 1)) eNil))) sNext)
    (sSeq (sIf (eBool (eBin gIn (eVar 0) (eTup (eCons (eC (.int 16)) eNil)))) (sRet (eLst (eCons (eXf a d "most" (eVar 1)) eNil))) sNext)
    (sSeq (sIf (eBool (eBin gIn (eVar 0) (eTup (eCons (eC (.int 17)) eNil)))) (sRet (eLst (eCons (eXf a d "road" (eVar 1)) (eCons (eXf a d "bad" (eVar 1)) eNil)))) sNext)
    (sSeq (sIf (eBool (eBin gIn (eVar 0) (eTup (eCons (eC (.int 18)) eNil)))) (sRet (eLst (eCons (eXf a d "pair" (eVar 1)) eNil))) sNext)
    (sSeq (sIf (eBool (eBin gIn (eVar 0) (eTup (eCons (eC (.int 20)) eNil)))) (sRet (eLst (eCons (eXf a d "step" (eVar 1)) eNil))) sNext)
    (sSeq (sIf (eBool (eBin gIn (eVar 0) (eTup (eCons (eC (.int 22)) eNil)))) (sRet (eLst (eCons (eXf a d "deed" (eVar 1)) eNil))) sNext)
    (sSeq (sIf (eBool (eBin gIn (eVar 0) (eTup (eCons (eC (.int 24)) eNil)))) (sRet (eLst (eCons (eXf a d "many" (eVar 1)) eNil))) sNext)
    (sRet (eLst eNil))))))))))))))))
def gR0 (Cs : Nat → Addr) : FnX := runX (m__law_raise_first (fun _ _ => none) Cs) 3
def gR (Cs : Nat → Addr) : FnX := runX (m__law_raise (gR0 Cs) Cs) 3
def gC (kk : Nat) (a : Addr) (d : Option Addr) : Fn := runBody (m__law_classes kk a d) N__law_classes.length
def gF (kk : Nat) (a : Addr) (d : Option Addr) : Fn := runBody (m__law_fields kk a d) N__law_fields.length
def tT (k : Nat) : Int → Nat → Nat → MS → Option MS := if 2 ≤ k then takenS nsOf bits else fun _ _ _ _ => none
def step (T : Nat → Fn) (TT : Int → Nat → Nat → MS → Option MS) (a_Fans a_Program : Addr) : Nat → Fn
  | 0 => runBody (m_law T TT a_Fans a_Program) 11
  | 6 => runBody (m__law_bag T TT a_Fans a_Program) 2
  | 7 => runBody (m__law_take T TT a_Fans a_Program) 7
  | 8 => runBody (m__law_value T TT a_Fans a_Program) 2
  | 9 => runBody (m__law_alike T TT a_Fans a_Program) 2
  | 10 => runBody (m_Program___init__ T TT a_Fans a_Program) 4
  | 11 => runBody (m__law_odd T TT a_Fans a_Program) 3
  | 12 => runBody (m_are_inputs T TT a_Fans a_Program) 1
  | 13 => runBody (m_are_rows T TT a_Fans a_Program) 2
  | 14 => runBody (m_count T TT a_Fans a_Program) 3
  | 15 => runBody (m_depth T TT a_Fans a_Program) 3
  | 16 => runBody (m_walked T TT a_Fans a_Program) 7
  | 17 => runBody (m_Program_need_leaves T TT a_Fans a_Program) 3
  | 18 => runBody (m_Program_need_names T TT a_Fans a_Program) 5
  | 19 => runBody (m_Program_need_sight T TT a_Fans a_Program) 9
  | 20 => runBody (m_Program_need_trees T TT a_Fans a_Program) 3
  | 21 => runBody (m_are_names T TT a_Fans a_Program) 3
  | 22 => runU (m_Fans___init__ T TT a_Fans a_Program) 4
  | 23 => runBody (m_Program_names T TT a_Fans a_Program) 1
  | 24 => runBody (m_is_name T TT a_Fans a_Program) 2
  | 25 => runBody (m_Fans_number T TT a_Fans a_Program) 2
  | 26 => runBody (m_Fans_add T TT a_Fans a_Program) 8
  | _ => fun _ _ => none
def tab (a_Fans a_Program : Addr) : Nat → Nat → Fn
  | 0 => fun _ _ _ => none
  | k + 1 => step (tab a_Fans a_Program k) (tT k) a_Fans a_Program
end K10

set_option Elab.async false
set_option maxRecDepth 100000
set_option maxHeartbeats 0
namespace K10
open PySem PySem.Spec PyProof.Rows L2 Dy
theorem isP_ev (a : Addr) (d : Option Addr) (fs : List (Str × V)) (b : Bool) (x : Option SV) (M : MS) : eIsP a d b (eVar 0) [some (.dt (.exc a d fs)), x] M = some (.sv (.dt (.bl b)), M) := by
  show (if a = a ∧ d = d then some (R.sv (.dt (.bl b)), M) else none) = _
  rw [if_pos ⟨rfl, rfl⟩]
theorem cls_l4 (a : Addr) (d : Option Addr) (fs : List (Str × V)) (b0 b1 b2 b3 : Bool) (x : Option SV) (M : MS) : eLst (eCons (eIsP a d b0 (eVar 0)) (eCons (eIsP a d b1 (eVar 0)) (eCons (eIsP a d b2 (eVar 0)) (eCons (eIsP a d b3 (eVar 0)) eNil)))) [some (.dt (.exc a d fs)), x] M = some (.fr [.bl b0, .bl b1, .bl b2, .bl b3], M) := by
  simp only [eLst_ev, eCons_ev, isP_ev, Option.bind_some]
  rfl
theorem cls_l3 (a : Addr) (d : Option Addr) (fs : List (Str × V)) (b0 b1 b2 : Bool) (x : Option SV) (M : MS) : eLst (eCons (eIsP a d b0 (eVar 0)) (eCons (eIsP a d b1 (eVar 0)) (eCons (eIsP a d b2 (eVar 0)) eNil))) [some (.dt (.exc a d fs)), x] M = some (.fr [.bl b0, .bl b1, .bl b2], M) := by
  simp only [eLst_ev, eCons_ev, isP_ev, Option.bind_some]
  rfl
theorem cls_ev (kk : Nat) (a : Addr) (d : Option Addr) (fs : List (Str × V)) (M : MS) : m__law_classes kk a d [some (.dt (.exc a d fs)), none] M = some (.rt (.fr ((bits kk).map D.bl)) M) := by
  have st : ∀ (m : EM R) (x : Option SV) (ds : List D), m [some (.dt (.exc a d fs)), x] M = some (.fr ds, M) → sSet 1 m [some (.dt (.exc a d fs)), x] M = some (.nx [some (.dt (.exc a d fs)), some (.dt (.lst ds))] M) := fun m x ds h => by
    unfold sSet
    rw [h]
    rfl
  have ad : ∀ (m : EM R) (xs ys : List D), m [some (.dt (.exc a d fs)), some (.dt (.lst xs))] M = some (.fr ys, M) → xs.length + ys.length ≤ 1000 → eBin gAdd (eVar 1) m [some (.dt (.exc a d fs)), some (.dt (.lst xs))] M = some (.fr (xs ++ ys), M) := fun m xs ys h hz => by
    rw [eBin_ev]
    show (some ((R.sv (.dt (.lst xs)), M) : R × MS)).bind _ = _
    rw [Option.bind_some, h, Option.bind_some]
    show ((gAdd M (.dt (.lst xs)) (.dt (.lst ys))).bind _) = _
    rw [gAdd_lst (by omega)]
    rfl
  unfold m__law_classes
  refine (sSeq_nx (st _ _ _ (cls_l4 ..))).trans ?_
  refine (sSeq_nx (st _ _ _ (ad _ _ _ (cls_l4 ..) (by simp)))).trans ?_
  refine (sSeq_nx (st _ _ _ (ad _ _ _ (cls_l4 ..) (by simp)))).trans ?_
  refine (sSeq_nx (st _ _ _ (ad _ _ _ (cls_l4 ..) (by simp)))).trans ?_
  refine (sSeq_nx (st _ _ _ (ad _ _ _ (cls_l4 ..) (by simp)))).trans ?_
  refine (sSeq_nx (st _ _ _ (ad _ _ _ (cls_l4 ..) (by simp)))).trans ?_
  refine (sSeq_nx (st _ _ _ (ad _ _ _ (cls_l3 ..) (by simp)))).trans ?_
  unfold sRet
  rw [ad _ _ _ (cls_l3 ..) (by simp)]
  rfl
theorem hC (kk : Nat) (a : Addr) (d : Option Addr) (fs : List (Str × V)) (M : MS) (_ : kk < 27) (hc : cutOk M M.length = true) : gC kk a d [.dt (.exc a d fs)] M = some (.fr ((bits kk).map D.bl), M) := by
  unfold gC
  rw [runBody_eq]
  show fin (m__law_classes kk a d [some (.dt (.exc a d fs)), none] M) M.length = _
  rw [cls_ev, fin_rt _ _ hc]
  show some (R.fr _, M.take M.length) = _
  rw [List.take_length]
theorem xf_ev (a dd : Addr) (fs : List (Str × V)) (f : Str) (l : Addr) (s : Option SV) (M : MS) (h : fs.lookup f = some (.ref l)) : eXf a (some dd) f (eVar 1) [s, some (.dt (.exc a (some dd) fs))] M = some (.sv (.dt (.raw l)), M) := by
  show (if a = a ∧ some dd = some dd ∧ true = true then (match fs.lookup f with
    | some (.ref l) => some (R.sv (.dt (.raw l)), M)
    | _ => none) else none) = _
  rw [if_pos ⟨rfl, rfl, rfl⟩, h]
theorem ret1 (m : EM R) (ρ : Dy.Env) (M : MS) (l : Addr) (h : m ρ M = some (.sv (.dt (.raw l)), M)) : sRet (eLst (eCons m eNil)) ρ M = some (.rt (.fr [.raw l]) M) := by
  unfold sRet
  simp only [eLst_ev, eCons_ev, h, Option.bind_some]
  rfl
theorem ret2 (m m' : EM R) (ρ : Dy.Env) (M : MS) (l l' : Addr) (h : m ρ M = some (.sv (.dt (.raw l)), M)) (h' : m' ρ M = some (.sv (.dt (.raw l')), M)) : sRet (eLst (eCons m (eCons m' eNil))) ρ M = some (.rt (.fr [.raw l, .raw l']) M) := by
  unfold sRet
  simp only [eLst_ev, eCons_ev, h, h', Option.bind_some]
  rfl
theorem sSeq_rt' {s1 s2 : SM} {ρ : Dy.Env} {M M1 : MS} {r : R} (h : s1 ρ M = some (.rt r M1)) : sSeq s1 s2 ρ M = some (.rt r M1) := by
  unfold sSeq
  rw [h]
theorem if_no {c : EM Bool} {s1 : SM} {ρ : Dy.Env} {M : MS} (h : c ρ M = some (false, M)) : sIf c s1 sNext ρ M = some (.nx ρ M) := by
  unfold sIf
  rw [h]
  rfl
theorem if_yes {c : EM Bool} {s1 s2 : SM} {ρ : Dy.Env} {M : MS} (h : c ρ M = some (true, M)) : sIf c s1 s2 ρ M = s1 ρ M := by
  unfold sIf
  rw [h]
theorem fe_0 (a : Addr) (dd : Addr) (l : Addr) (M : MS) : m__law_fields 0 a (some dd) [some (.dt (.int ((0 : Nat) : Int))), some (.dt (.exc a (some dd) [("place", V.ref l)]))] M = some (.rt (.fr [.raw l]) M) := by
  unfold m__law_fields
  exact sSeq_rt' ((if_yes rfl).trans (ret1 _ _ _ _ (xf_ev a dd _ "place" l _ M rfl)))
theorem fe_1 (a : Addr) (dd : Addr) (l : Addr) (M : MS) : m__law_fields 1 a (some dd) [some (.dt (.int ((1 : Nat) : Int))), some (.dt (.exc a (some dd) [("limit", V.ref l)]))] M = some (.rt (.fr [.raw l]) M) := by
  unfold m__law_fields
  refine (sSeq_nx (if_no rfl)).trans ?_
  exact sSeq_rt' ((if_yes rfl).trans (ret1 _ _ _ _ (xf_ev a dd _ "limit" l _ M rfl)))
theorem fe_2 (a : Addr) (dd : Addr) (l : Addr) (M : MS) : m__law_fields 2 a (some dd) [some (.dt (.int ((2 : Nat) : Int))), some (.dt (.exc a (some dd) [("limit", V.ref l)]))] M = some (.rt (.fr [.raw l]) M) := by
  unfold m__law_fields
  refine (sSeq_nx (if_no rfl)).trans ?_
  exact sSeq_rt' ((if_yes rfl).trans (ret1 _ _ _ _ (xf_ev a dd _ "limit" l _ M rfl)))
theorem fe_3 (a : Addr) (dd : Addr) (l : Addr) (M : MS) : m__law_fields 3 a (some dd) [some (.dt (.int ((3 : Nat) : Int))), some (.dt (.exc a (some dd) [("address", V.ref l)]))] M = some (.rt (.fr [.raw l]) M) := by
  unfold m__law_fields
  refine (sSeq_nx (if_no rfl)).trans ?_
  refine (sSeq_nx (if_no rfl)).trans ?_
  exact sSeq_rt' ((if_yes rfl).trans (ret1 _ _ _ _ (xf_ev a dd _ "address" l _ M rfl)))
theorem fe_4 (a : Addr) (dd : Addr) (l : Addr) (M : MS) : m__law_fields 4 a (some dd) [some (.dt (.int ((4 : Nat) : Int))), some (.dt (.exc a (some dd) [("name", V.ref l)]))] M = some (.rt (.fr [.raw l]) M) := by
  unfold m__law_fields
  refine (sSeq_nx (if_no rfl)).trans ?_
  refine (sSeq_nx (if_no rfl)).trans ?_
  refine (sSeq_nx (if_no rfl)).trans ?_
  exact sSeq_rt' ((if_yes rfl).trans (ret1 _ _ _ _ (xf_ev a dd _ "name" l _ M rfl)))
theorem fe_5 (a : Addr) (dd : Addr) (l m : Addr) (M : MS) : m__law_fields 5 a (some dd) [some (.dt (.int ((5 : Nat) : Int))), some (.dt (.exc a (some dd) [("name", V.ref m), ("address", V.ref l)]))] M = some (.rt (.fr [.raw l, .raw m]) M) := by
  unfold m__law_fields
  refine (sSeq_nx (if_no rfl)).trans ?_
  refine (sSeq_nx (if_no rfl)).trans ?_
  refine (sSeq_nx (if_no rfl)).trans ?_
  refine (sSeq_nx (if_no rfl)).trans ?_
  exact sSeq_rt' ((if_yes rfl).trans (ret2 _ _ _ _ _ _ (xf_ev a dd _ "address" l _ M rfl) (xf_ev a dd _ "name" m _ M rfl)))
theorem fe_6 (a : Addr) (dd : Addr) (l : Addr) (M : MS) : m__law_fields 6 a (some dd) [some (.dt (.int ((6 : Nat) : Int))), some (.dt (.exc a (some dd) [("name", V.ref l)]))] M = some (.rt (.fr [.raw l]) M) := by
  unfold m__law_fields
  refine (sSeq_nx (if_no rfl)).trans ?_
  refine (sSeq_nx (if_no rfl)).trans ?_
  refine (sSeq_nx (if_no rfl)).trans ?_
  exact sSeq_rt' ((if_yes rfl).trans (ret1 _ _ _ _ (xf_ev a dd _ "name" l _ M rfl)))
theorem fe_7 (a : Addr) (dd : Addr) (l : Addr) (M : MS) : m__law_fields 7 a (some dd) [some (.dt (.int ((7 : Nat) : Int))), some (.dt (.exc a (some dd) [("address", V.ref l)]))] M = some (.rt (.fr [.raw l]) M) := by
  unfold m__law_fields
  refine (sSeq_nx (if_no rfl)).trans ?_
  refine (sSeq_nx (if_no rfl)).trans ?_
  exact sSeq_rt' ((if_yes rfl).trans (ret1 _ _ _ _ (xf_ev a dd _ "address" l _ M rfl)))
theorem fe_8 (a : Addr) (dd : Addr) (l : Addr) (M : MS) : m__law_fields 8 a (some dd) [some (.dt (.int ((8 : Nat) : Int))), some (.dt (.exc a (some dd) [("gap", V.ref l)]))] M = some (.rt (.fr [.raw l]) M) := by
  unfold m__law_fields
  refine (sSeq_nx (if_no rfl)).trans ?_
  refine (sSeq_nx (if_no rfl)).trans ?_
  refine (sSeq_nx (if_no rfl)).trans ?_
  refine (sSeq_nx (if_no rfl)).trans ?_
  refine (sSeq_nx (if_no rfl)).trans ?_
  exact sSeq_rt' ((if_yes rfl).trans (ret1 _ _ _ _ (xf_ev a dd _ "gap" l _ M rfl)))
theorem fe_9 (a : Addr) (dd : Addr) (l : Addr) (M : MS) : m__law_fields 9 a (some dd) [some (.dt (.int ((9 : Nat) : Int))), some (.dt (.exc a (some dd) [("name", V.ref l)]))] M = some (.rt (.fr [.raw l]) M) := by
  unfold m__law_fields
  refine (sSeq_nx (if_no rfl)).trans ?_
  refine (sSeq_nx (if_no rfl)).trans ?_
  refine (sSeq_nx (if_no rfl)).trans ?_
  exact sSeq_rt' ((if_yes rfl).trans (ret1 _ _ _ _ (xf_ev a dd _ "name" l _ M rfl)))
theorem fe_10 (a : Addr) (dd : Addr) (l : Addr) (M : MS) : m__law_fields 10 a (some dd) [some (.dt (.int ((10 : Nat) : Int))), some (.dt (.exc a (some dd) [("gap", V.ref l)]))] M = some (.rt (.fr [.raw l]) M) := by
  unfold m__law_fields
  refine (sSeq_nx (if_no rfl)).trans ?_
  refine (sSeq_nx (if_no rfl)).trans ?_
  refine (sSeq_nx (if_no rfl)).trans ?_
  refine (sSeq_nx (if_no rfl)).trans ?_
  refine (sSeq_nx (if_no rfl)).trans ?_
  exact sSeq_rt' ((if_yes rfl).trans (ret1 _ _ _ _ (xf_ev a dd _ "gap" l _ M rfl)))
theorem fe_11 (a : Addr) (dd : Addr) (l : Addr) (M : MS) : m__law_fields 11 a (some dd) [some (.dt (.int ((11 : Nat) : Int))), some (.dt (.exc a (some dd) [("at", V.ref l)]))] M = some (.rt (.fr [.raw l]) M) := by
  unfold m__law_fields
  refine (sSeq_nx (if_no rfl)).trans ?_
  refine (sSeq_nx (if_no rfl)).trans ?_
  refine (sSeq_nx (if_no rfl)).trans ?_
  refine (sSeq_nx (if_no rfl)).trans ?_
  refine (sSeq_nx (if_no rfl)).trans ?_
  refine (sSeq_nx (if_no rfl)).trans ?_
  exact sSeq_rt' ((if_yes rfl).trans (ret1 _ _ _ _ (xf_ev a dd _ "at" l _ M rfl)))
theorem fe_12 (a : Addr) (dd : Addr) (l : Addr) (M : MS) : m__law_fields 12 a (some dd) [some (.dt (.int ((12 : Nat) : Int))), some (.dt (.exc a (some dd) [("word", V.ref l)]))] M = some (.rt (.fr [.raw l]) M) := by
  unfold m__law_fields
  refine (sSeq_nx (if_no rfl)).trans ?_
  refine (sSeq_nx (if_no rfl)).trans ?_
  refine (sSeq_nx (if_no rfl)).trans ?_
  refine (sSeq_nx (if_no rfl)).trans ?_
  refine (sSeq_nx (if_no rfl)).trans ?_
  refine (sSeq_nx (if_no rfl)).trans ?_
  refine (sSeq_nx (if_no rfl)).trans ?_
  exact sSeq_rt' ((if_yes rfl).trans (ret1 _ _ _ _ (xf_ev a dd _ "word" l _ M rfl)))
theorem fe_13 (a : Addr) (dd : Addr) (l : Addr) (M : MS) : m__law_fields 13 a (some dd) [some (.dt (.int ((13 : Nat) : Int))), some (.dt (.exc a (some dd) [("at", V.ref l)]))] M = some (.rt (.fr [.raw l]) M) := by
  unfold m__law_fields
  refine (sSeq_nx (if_no rfl)).trans ?_
  refine (sSeq_nx (if_no rfl)).trans ?_
  refine (sSeq_nx (if_no rfl)).trans ?_
  refine (sSeq_nx (if_no rfl)).trans ?_
  refine (sSeq_nx (if_no rfl)).trans ?_
  refine (sSeq_nx (if_no rfl)).trans ?_
  exact sSeq_rt' ((if_yes rfl).trans (ret1 _ _ _ _ (xf_ev a dd _ "at" l _ M rfl)))
theorem fe_14 (a : Addr) (d : Option Addr) (fs : List (Str × V)) (M : MS) : m__law_fields 14 a d [some (.dt (.int ((14 : Nat) : Int))), some (.dt (.exc a d fs))] M = some (.rt (.fr []) M) := by
  unfold m__law_fields
  refine (sSeq_nx (if_no rfl)).trans ?_
  refine (sSeq_nx (if_no rfl)).trans ?_
  refine (sSeq_nx (if_no rfl)).trans ?_
  refine (sSeq_nx (if_no rfl)).trans ?_
  refine (sSeq_nx (if_no rfl)).trans ?_
  refine (sSeq_nx (if_no rfl)).trans ?_
  refine (sSeq_nx (if_no rfl)).trans ?_
  refine (sSeq_nx (if_no rfl)).trans ?_
  refine (sSeq_nx (if_no rfl)).trans ?_
  refine (sSeq_nx (if_no rfl)).trans ?_
  refine (sSeq_nx (if_no rfl)).trans ?_
  refine (sSeq_nx (if_no rfl)).trans ?_
  refine (sSeq_nx (if_no rfl)).trans ?_
  refine (sSeq_nx (if_no rfl)).trans ?_
  rfl
theorem fe_15 (a : Addr) (d : Option Addr) (fs : List (Str × V)) (M : MS) : m__law_fields 15 a d [some (.dt (.int ((15 : Nat) : Int))), some (.dt (.exc a d fs))] M = some (.rt (.fr []) M) := by
  unfold m__law_fields
  refine (sSeq_nx (if_no rfl)).trans ?_
  refine (sSeq_nx (if_no rfl)).trans ?_
  refine (sSeq_nx (if_no rfl)).trans ?_
  refine (sSeq_nx (if_no rfl)).trans ?_
  refine (sSeq_nx (if_no rfl)).trans ?_
  refine (sSeq_nx (if_no rfl)).trans ?_
  refine (sSeq_nx (if_no rfl)).trans ?_
  refine (sSeq_nx (if_no rfl)).trans ?_
  refine (sSeq_nx (if_no rfl)).trans ?_
  refine (sSeq_nx (if_no rfl)).trans ?_
  refine (sSeq_nx (if_no rfl)).trans ?_
  refine (sSeq_nx (if_no rfl)).trans ?_
  refine (sSeq_nx (if_no rfl)).trans ?_
  refine (sSeq_nx (if_no rfl)).trans ?_
  rfl
theorem fe_16 (a : Addr) (dd : Addr) (l : Addr) (M : MS) : m__law_fields 16 a (some dd) [some (.dt (.int ((16 : Nat) : Int))), some (.dt (.exc a (some dd) [("most", V.ref l)]))] M = some (.rt (.fr [.raw l]) M) := by
  unfold m__law_fields
  refine (sSeq_nx (if_no rfl)).trans ?_
  refine (sSeq_nx (if_no rfl)).trans ?_
  refine (sSeq_nx (if_no rfl)).trans ?_
  refine (sSeq_nx (if_no rfl)).trans ?_
  refine (sSeq_nx (if_no rfl)).trans ?_
  refine (sSeq_nx (if_no rfl)).trans ?_
  refine (sSeq_nx (if_no rfl)).trans ?_
  refine (sSeq_nx (if_no rfl)).trans ?_
  exact sSeq_rt' ((if_yes rfl).trans (ret1 _ _ _ _ (xf_ev a dd _ "most" l _ M rfl)))
theorem fe_17 (a : Addr) (dd : Addr) (l m : Addr) (M : MS) : m__law_fields 17 a (some dd) [some (.dt (.int ((17 : Nat) : Int))), some (.dt (.exc a (some dd) [("bad", V.ref m), ("road", V.ref l)]))] M = some (.rt (.fr [.raw l, .raw m]) M) := by
  unfold m__law_fields
  refine (sSeq_nx (if_no rfl)).trans ?_
  refine (sSeq_nx (if_no rfl)).trans ?_
  refine (sSeq_nx (if_no rfl)).trans ?_
  refine (sSeq_nx (if_no rfl)).trans ?_
  refine (sSeq_nx (if_no rfl)).trans ?_
  refine (sSeq_nx (if_no rfl)).trans ?_
  refine (sSeq_nx (if_no rfl)).trans ?_
  refine (sSeq_nx (if_no rfl)).trans ?_
  refine (sSeq_nx (if_no rfl)).trans ?_
  exact sSeq_rt' ((if_yes rfl).trans (ret2 _ _ _ _ _ _ (xf_ev a dd _ "road" l _ M rfl) (xf_ev a dd _ "bad" m _ M rfl)))
theorem fe_18 (a : Addr) (dd : Addr) (l : Addr) (M : MS) : m__law_fields 18 a (some dd) [some (.dt (.int ((18 : Nat) : Int))), some (.dt (.exc a (some dd) [("pair", V.ref l)]))] M = some (.rt (.fr [.raw l]) M) := by
  unfold m__law_fields
  refine (sSeq_nx (if_no rfl)).trans ?_
  refine (sSeq_nx (if_no rfl)).trans ?_
  refine (sSeq_nx (if_no rfl)).trans ?_
  refine (sSeq_nx (if_no rfl)).trans ?_
  refine (sSeq_nx (if_no rfl)).trans ?_
  refine (sSeq_nx (if_no rfl)).trans ?_
  refine (sSeq_nx (if_no rfl)).trans ?_
  refine (sSeq_nx (if_no rfl)).trans ?_
  refine (sSeq_nx (if_no rfl)).trans ?_
  refine (sSeq_nx (if_no rfl)).trans ?_
  exact sSeq_rt' ((if_yes rfl).trans (ret1 _ _ _ _ (xf_ev a dd _ "pair" l _ M rfl)))
theorem fe_19 (a : Addr) (d : Option Addr) (fs : List (Str × V)) (M : MS) : m__law_fields 19 a d [some (.dt (.int ((19 : Nat) : Int))), some (.dt (.exc a d fs))] M = some (.rt (.fr []) M) := by
  unfold m__law_fields
  refine (sSeq_nx (if_no rfl)).trans ?_
  refine (sSeq_nx (if_no rfl)).trans ?_
  refine (sSeq_nx (if_no rfl)).trans ?_
  refine (sSeq_nx (if_no rfl)).trans ?_
  refine (sSeq_nx (if_no rfl)).trans ?_
  refine (sSeq_nx (if_no rfl)).trans ?_
  refine (sSeq_nx (if_no rfl)).trans ?_
  refine (sSeq_nx (if_no rfl)).trans ?_
  refine (sSeq_nx (if_no rfl)).trans ?_
  refine (sSeq_nx (if_no rfl)).trans ?_
  refine (sSeq_nx (if_no rfl)).trans ?_
  refine (sSeq_nx (if_no rfl)).trans ?_
  refine (sSeq_nx (if_no rfl)).trans ?_
  refine (sSeq_nx (if_no rfl)).trans ?_
  rfl
theorem fe_20 (a : Addr) (dd : Addr) (l : Addr) (M : MS) : m__law_fields 20 a (some dd) [some (.dt (.int ((20 : Nat) : Int))), some (.dt (.exc a (some dd) [("step", V.ref l)]))] M = some (.rt (.fr [.raw l]) M) := by
  unfold m__law_fields
  refine (sSeq_nx (if_no rfl)).trans ?_
  refine (sSeq_nx (if_no rfl)).trans ?_
  refine (sSeq_nx (if_no rfl)).trans ?_
  refine (sSeq_nx (if_no rfl)).trans ?_
  refine (sSeq_nx (if_no rfl)).trans ?_
  refine (sSeq_nx (if_no rfl)).trans ?_
  refine (sSeq_nx (if_no rfl)).trans ?_
  refine (sSeq_nx (if_no rfl)).trans ?_
  refine (sSeq_nx (if_no rfl)).trans ?_
  refine (sSeq_nx (if_no rfl)).trans ?_
  refine (sSeq_nx (if_no rfl)).trans ?_
  exact sSeq_rt' ((if_yes rfl).trans (ret1 _ _ _ _ (xf_ev a dd _ "step" l _ M rfl)))
theorem fe_21 (a : Addr) (d : Option Addr) (fs : List (Str × V)) (M : MS) : m__law_fields 21 a d [some (.dt (.int ((21 : Nat) : Int))), some (.dt (.exc a d fs))] M = some (.rt (.fr []) M) := by
  unfold m__law_fields
  refine (sSeq_nx (if_no rfl)).trans ?_
  refine (sSeq_nx (if_no rfl)).trans ?_
  refine (sSeq_nx (if_no rfl)).trans ?_
  refine (sSeq_nx (if_no rfl)).trans ?_
  refine (sSeq_nx (if_no rfl)).trans ?_
  refine (sSeq_nx (if_no rfl)).trans ?_
  refine (sSeq_nx (if_no rfl)).trans ?_
  refine (sSeq_nx (if_no rfl)).trans ?_
  refine (sSeq_nx (if_no rfl)).trans ?_
  refine (sSeq_nx (if_no rfl)).trans ?_
  refine (sSeq_nx (if_no rfl)).trans ?_
  refine (sSeq_nx (if_no rfl)).trans ?_
  refine (sSeq_nx (if_no rfl)).trans ?_
  refine (sSeq_nx (if_no rfl)).trans ?_
  rfl
theorem fe_22 (a : Addr) (dd : Addr) (l : Addr) (M : MS) : m__law_fields 22 a (some dd) [some (.dt (.int ((22 : Nat) : Int))), some (.dt (.exc a (some dd) [("deed", V.ref l)]))] M = some (.rt (.fr [.raw l]) M) := by
  unfold m__law_fields
  refine (sSeq_nx (if_no rfl)).trans ?_
  refine (sSeq_nx (if_no rfl)).trans ?_
  refine (sSeq_nx (if_no rfl)).trans ?_
  refine (sSeq_nx (if_no rfl)).trans ?_
  refine (sSeq_nx (if_no rfl)).trans ?_
  refine (sSeq_nx (if_no rfl)).trans ?_
  refine (sSeq_nx (if_no rfl)).trans ?_
  refine (sSeq_nx (if_no rfl)).trans ?_
  refine (sSeq_nx (if_no rfl)).trans ?_
  refine (sSeq_nx (if_no rfl)).trans ?_
  refine (sSeq_nx (if_no rfl)).trans ?_
  refine (sSeq_nx (if_no rfl)).trans ?_
  exact sSeq_rt' ((if_yes rfl).trans (ret1 _ _ _ _ (xf_ev a dd _ "deed" l _ M rfl)))
theorem fe_23 (a : Addr) (d : Option Addr) (fs : List (Str × V)) (M : MS) : m__law_fields 23 a d [some (.dt (.int ((23 : Nat) : Int))), some (.dt (.exc a d fs))] M = some (.rt (.fr []) M) := by
  unfold m__law_fields
  refine (sSeq_nx (if_no rfl)).trans ?_
  refine (sSeq_nx (if_no rfl)).trans ?_
  refine (sSeq_nx (if_no rfl)).trans ?_
  refine (sSeq_nx (if_no rfl)).trans ?_
  refine (sSeq_nx (if_no rfl)).trans ?_
  refine (sSeq_nx (if_no rfl)).trans ?_
  refine (sSeq_nx (if_no rfl)).trans ?_
  refine (sSeq_nx (if_no rfl)).trans ?_
  refine (sSeq_nx (if_no rfl)).trans ?_
  refine (sSeq_nx (if_no rfl)).trans ?_
  refine (sSeq_nx (if_no rfl)).trans ?_
  refine (sSeq_nx (if_no rfl)).trans ?_
  refine (sSeq_nx (if_no rfl)).trans ?_
  refine (sSeq_nx (if_no rfl)).trans ?_
  rfl
theorem fe_24 (a : Addr) (dd : Addr) (l : Addr) (M : MS) : m__law_fields 24 a (some dd) [some (.dt (.int ((24 : Nat) : Int))), some (.dt (.exc a (some dd) [("many", V.ref l)]))] M = some (.rt (.fr [.raw l]) M) := by
  unfold m__law_fields
  refine (sSeq_nx (if_no rfl)).trans ?_
  refine (sSeq_nx (if_no rfl)).trans ?_
  refine (sSeq_nx (if_no rfl)).trans ?_
  refine (sSeq_nx (if_no rfl)).trans ?_
  refine (sSeq_nx (if_no rfl)).trans ?_
  refine (sSeq_nx (if_no rfl)).trans ?_
  refine (sSeq_nx (if_no rfl)).trans ?_
  refine (sSeq_nx (if_no rfl)).trans ?_
  refine (sSeq_nx (if_no rfl)).trans ?_
  refine (sSeq_nx (if_no rfl)).trans ?_
  refine (sSeq_nx (if_no rfl)).trans ?_
  refine (sSeq_nx (if_no rfl)).trans ?_
  refine (sSeq_nx (if_no rfl)).trans ?_
  exact sSeq_rt' ((if_yes rfl).trans (ret1 _ _ _ _ (xf_ev a dd _ "many" l _ M rfl)))
theorem fe_25 (a : Addr) (d : Option Addr) (fs : List (Str × V)) (M : MS) : m__law_fields 25 a d [some (.dt (.int ((25 : Nat) : Int))), some (.dt (.exc a d fs))] M = some (.rt (.fr []) M) := by
  unfold m__law_fields
  refine (sSeq_nx (if_no rfl)).trans ?_
  refine (sSeq_nx (if_no rfl)).trans ?_
  refine (sSeq_nx (if_no rfl)).trans ?_
  refine (sSeq_nx (if_no rfl)).trans ?_
  refine (sSeq_nx (if_no rfl)).trans ?_
  refine (sSeq_nx (if_no rfl)).trans ?_
  refine (sSeq_nx (if_no rfl)).trans ?_
  refine (sSeq_nx (if_no rfl)).trans ?_
  refine (sSeq_nx (if_no rfl)).trans ?_
  refine (sSeq_nx (if_no rfl)).trans ?_
  refine (sSeq_nx (if_no rfl)).trans ?_
  refine (sSeq_nx (if_no rfl)).trans ?_
  refine (sSeq_nx (if_no rfl)).trans ?_
  refine (sSeq_nx (if_no rfl)).trans ?_
  rfl
theorem fe_26 (a : Addr) (d : Option Addr) (fs : List (Str × V)) (M : MS) : m__law_fields 26 a d [some (.dt (.int ((26 : Nat) : Int))), some (.dt (.exc a d fs))] M = some (.rt (.fr []) M) := by
  unfold m__law_fields
  refine (sSeq_nx (if_no rfl)).trans ?_
  refine (sSeq_nx (if_no rfl)).trans ?_
  refine (sSeq_nx (if_no rfl)).trans ?_
  refine (sSeq_nx (if_no rfl)).trans ?_
  refine (sSeq_nx (if_no rfl)).trans ?_
  refine (sSeq_nx (if_no rfl)).trans ?_
  refine (sSeq_nx (if_no rfl)).trans ?_
  refine (sSeq_nx (if_no rfl)).trans ?_
  refine (sSeq_nx (if_no rfl)).trans ?_
  refine (sSeq_nx (if_no rfl)).trans ?_
  refine (sSeq_nx (if_no rfl)).trans ?_
  refine (sSeq_nx (if_no rfl)).trans ?_
  refine (sSeq_nx (if_no rfl)).trans ?_
  refine (sSeq_nx (if_no rfl)).trans ?_
  rfl
theorem fin_f {r : List D} {ρ : Dy.Env} {M : MS} {m : SM} {a b : SV} (hc : cutOk M M.length = true) (h : m [some a, some b] M = some (.rt (.fr r) M)) : runBody m 2 [a, b] M = some (.fr r, M) := by
  rw [runBody_eq]
  show fin (m [some a, some b] M) M.length = _
  rw [h, fin_rt _ _ hc]
  show some (R.fr _, M.take M.length) = _
  rw [List.take_length]
theorem hF (kk : Nat) (a : Addr) (d : Option Addr) (as : List Addr) (M : MS) (hkk : kk < 27) (hc : cutOk M M.length = true) (hl : as.length = (nsOf kk).length) (hd : nsOf kk ≠ [] → d.isSome = true) : gF kk a d [.dt (.int kk), .dt (.exc a d ((nsOf kk).zip (as.map V.ref)).reverse)] M = some (.fr (as.map D.raw), M) := by
  match kk, hkk with
  | 0, _ =>
    match as, hl, d, hd (by decide) with
    | [l], _, some dd, _ => exact fin_f (ρ := []) hc (fe_0 a dd l M)
  | 1, _ =>
    match as, hl, d, hd (by decide) with
    | [l], _, some dd, _ => exact fin_f (ρ := []) hc (fe_1 a dd l M)
  | 2, _ =>
    match as, hl, d, hd (by decide) with
    | [l], _, some dd, _ => exact fin_f (ρ := []) hc (fe_2 a dd l M)
  | 3, _ =>
    match as, hl, d, hd (by decide) with
    | [l], _, some dd, _ => exact fin_f (ρ := []) hc (fe_3 a dd l M)
  | 4, _ =>
    match as, hl, d, hd (by decide) with
    | [l], _, some dd, _ => exact fin_f (ρ := []) hc (fe_4 a dd l M)
  | 5, _ =>
    match as, hl, d, hd (by decide) with
    | [l, m], _, some dd, _ => exact fin_f (ρ := []) hc (fe_5 a dd l m M)
  | 6, _ =>
    match as, hl, d, hd (by decide) with
    | [l], _, some dd, _ => exact fin_f (ρ := []) hc (fe_6 a dd l M)
  | 7, _ =>
    match as, hl, d, hd (by decide) with
    | [l], _, some dd, _ => exact fin_f (ρ := []) hc (fe_7 a dd l M)
  | 8, _ =>
    match as, hl, d, hd (by decide) with
    | [l], _, some dd, _ => exact fin_f (ρ := []) hc (fe_8 a dd l M)
  | 9, _ =>
    match as, hl, d, hd (by decide) with
    | [l], _, some dd, _ => exact fin_f (ρ := []) hc (fe_9 a dd l M)
  | 10, _ =>
    match as, hl, d, hd (by decide) with
    | [l], _, some dd, _ => exact fin_f (ρ := []) hc (fe_10 a dd l M)
  | 11, _ =>
    match as, hl, d, hd (by decide) with
    | [l], _, some dd, _ => exact fin_f (ρ := []) hc (fe_11 a dd l M)
  | 12, _ =>
    match as, hl, d, hd (by decide) with
    | [l], _, some dd, _ => exact fin_f (ρ := []) hc (fe_12 a dd l M)
  | 13, _ =>
    match as, hl, d, hd (by decide) with
    | [l], _, some dd, _ => exact fin_f (ρ := []) hc (fe_13 a dd l M)
  | 14, _ =>
    match as, hl with
    | [], _ => exact fin_f (ρ := []) hc (fe_14 a d _ M)
  | 15, _ =>
    match as, hl with
    | [], _ => exact fin_f (ρ := []) hc (fe_15 a d _ M)
  | 16, _ =>
    match as, hl, d, hd (by decide) with
    | [l], _, some dd, _ => exact fin_f (ρ := []) hc (fe_16 a dd l M)
  | 17, _ =>
    match as, hl, d, hd (by decide) with
    | [l, m], _, some dd, _ => exact fin_f (ρ := []) hc (fe_17 a dd l m M)
  | 18, _ =>
    match as, hl, d, hd (by decide) with
    | [l], _, some dd, _ => exact fin_f (ρ := []) hc (fe_18 a dd l M)
  | 19, _ =>
    match as, hl with
    | [], _ => exact fin_f (ρ := []) hc (fe_19 a d _ M)
  | 20, _ =>
    match as, hl, d, hd (by decide) with
    | [l], _, some dd, _ => exact fin_f (ρ := []) hc (fe_20 a dd l M)
  | 21, _ =>
    match as, hl with
    | [], _ => exact fin_f (ρ := []) hc (fe_21 a d _ M)
  | 22, _ =>
    match as, hl, d, hd (by decide) with
    | [l], _, some dd, _ => exact fin_f (ρ := []) hc (fe_22 a dd l M)
  | 23, _ =>
    match as, hl with
    | [], _ => exact fin_f (ρ := []) hc (fe_23 a d _ M)
  | 24, _ =>
    match as, hl, d, hd (by decide) with
    | [l], _, some dd, _ => exact fin_f (ρ := []) hc (fe_24 a dd l M)
  | 25, _ =>
    match as, hl with
    | [], _ => exact fin_f (ρ := []) hc (fe_25 a d _ M)
  | 26, _ =>
    match as, hl with
    | [], _ => exact fin_f (ρ := []) hc (fe_26 a d _ M)
  | n + 27, h => exact absurd h (by omega)
theorem cut_x {M : MS} {v : XV} (hc : cutOk M M.length = true) (h : v.ds.all (svLt M.length) = true) {m : SX} {a b c : SV} (e : m [some a, some b, some c] M = some (.x v [some a, some b, some c] M)) : runX m 3 [a, b, c] M = some (.x v, M) := by
  unfold runX
  show (match m [some a, some b, some c] M with
    | some (.o out) => _
    | some (.x v _ M') => if cutOk M' M.length = true ∧ v.ds.all (svLt M.length) = true then some (RX.x v, M'.take M.length) else none
    | none => none) = _
  rw [e]
  show (if cutOk M M.length = true ∧ v.ds.all (svLt M.length) = true then some (RX.x v, M.take M.length) else none) = _
  rw [if_pos ⟨hc, h⟩, List.take_length]
theorem cut_o {M : MS} {m : SX} {a b c : SV} (hc : cutOk M M.length = true) (e : m [some a, some b, some c] M = some (.o (.nx [some a, some b, some c] M))) : runX m 3 [a, b, c] M = some (.r (.sv (.dt .non)), M) := by
  unfold runX
  show (match m [some a, some b, some c] M with
    | some (.o out) => (match fin (some out) M.length with
      | some (r, M') => some (RX.r r, M')
      | none => none)
    | some (.x v _ M') => _
    | none => none) = _
  rw [e]
  show (match fin (some (.nx [some a, some b, some c] M)) M.length with
      | some (r, M') => some (RX.r r, M')
      | none => none) = _
  rw [fin_nx _ hc, List.take_length]
theorem low1 {M : MS} {i j n : Nat} (hi : i < M.length) (hj : j < M.length) : (fldH n i j).all (svLt M.length) = true := by
  rw [List.all_eq_true]
  intro s hs
  obtain ⟨k, hk, rfl⟩ := List.mem_map.mp hs
  have := List.mem_of_mem_take hk
  simp only [List.mem_cons, List.not_mem_nil, or_false] at this
  rcases this with rfl | rfl
  · exact decide_eq_true hi
  · exact decide_eq_true hj
theorem hR0a (Cs : Nat → Addr) (kk i j : Nat) (M : MS) (hkk : kk < 14) (hi : i < M.length) (hj : j < M.length) (hc : cutOk M M.length = true) : gR0 Cs [.dt (.int kk), .mu i, .mu j] M = some (.x ⟨Cs kk, nsOf kk, fldH (nsOf kk).length i j⟩, M) := by
  refine cut_x hc (low1 hi hj) ?_
  match kk, hkk with
  | 0, _ => rfl
  | 1, _ => rfl
  | 2, _ => rfl
  | 3, _ => rfl
  | 4, _ => rfl
  | 5, _ => rfl
  | 6, _ => rfl
  | 7, _ => rfl
  | 8, _ => rfl
  | 9, _ => rfl
  | 10, _ => rfl
  | 11, _ => rfl
  | 12, _ => rfl
  | 13, _ => rfl
  | n + 14, h => exact absurd h (by omega)
theorem hR0b (Cs : Nat → Addr) (kk i j : Nat) (M : MS) (hkk : kk < 13) (hc : cutOk M M.length = true) : gR0 Cs [.dt (.int ((kk + 14 : Nat) : Int)), .mu i, .mu j] M = some (.r (.sv (.dt .non)), M) := by
  refine cut_o hc ?_
  match kk, hkk with
  | 0, _ => rfl
  | 1, _ => rfl
  | 2, _ => rfl
  | 3, _ => rfl
  | 4, _ => rfl
  | 5, _ => rfl
  | 6, _ => rfl
  | 7, _ => rfl
  | 8, _ => rfl
  | 9, _ => rfl
  | 10, _ => rfl
  | 11, _ => rfl
  | 12, _ => rfl
  | n + 13, h => exact absurd h (by omega)
theorem ra_x {g0 : FnX} {Cs : Nat → Addr} {a b c : SV} {M : MS} {v : XV} (h : g0 [a, b, c] M = some (.x v, M)) : m__law_raise g0 Cs [some a, some b, some c] M = some (.x v [some a, some b, some c] M) := by
  unfold m__law_raise
  have e : xExpr (eFnX g0 (eCons (eVar 0) (eCons (eVar 1) (eCons (eVar 2) eNil)))) [some a, some b, some c] M = some (.x v [some a, some b, some c] M) := by
    show (match g0 [a, b, c] M with
      | some (.r _, M') => some (OX.o (.nx [some a, some b, some c] M'))
      | some (.x v, M') => some (OX.x v [some a, some b, some c] M')
      | none => none) = _
    rw [h]
  unfold xSeq
  rw [e]
theorem ra_n {g0 : FnX} {a b c : SV} {M : MS} (h : g0 [a, b, c] M = some (.r (.sv (.dt .non)), M)) (m2 : SX) : xSeq (xExpr (eFnX g0 (eCons (eVar 0) (eCons (eVar 1) (eCons (eVar 2) eNil))))) m2 [some a, some b, some c] M = m2 [some a, some b, some c] M := by
  have e : xExpr (eFnX g0 (eCons (eVar 0) (eCons (eVar 1) (eCons (eVar 2) eNil)))) [some a, some b, some c] M = some (.o (.nx [some a, some b, some c] M)) := by
    show (match g0 [a, b, c] M with
      | some (.r _, M') => some (OX.o (.nx [some a, some b, some c] M'))
      | some (.x v, M') => some (OX.x v [some a, some b, some c] M')
      | none => none) = _
    rw [h]
  unfold xSeq
  rw [e]
theorem hR {Cs : Nat → Addr} (kk i j : Nat) (M : MS) (hkk : kk < 27) (hi : i < M.length) (hj : j < M.length) (hc : cutOk M M.length = true) : gR Cs [.dt (.int kk), .mu i, .mu j] M = some (.x ⟨Cs kk, nsOf kk, fldH (nsOf kk).length i j⟩, M) := by
  refine cut_x hc (low1 hi hj) ?_
  by_cases h : kk < 14
  · exact ra_x (hR0a Cs kk i j M h hi hj hc)
  · obtain ⟨n, rfl⟩ : ∃ n, kk = n + 14 := ⟨kk - 14, by omega⟩
    have hn : n < 13 := by omega
    unfold m__law_raise
    refine (ra_n (hR0b Cs n i j M hn hc) _).trans ?_
    match n, hn with
    | 0, _ => rfl
    | 1, _ => rfl
    | 2, _ => rfl
    | 3, _ => rfl
    | 4, _ => rfl
    | 5, _ => rfl
    | 6, _ => rfl
    | 7, _ => rfl
    | 8, _ => rfl
    | 9, _ => rfl
    | 10, _ => rfl
    | 11, _ => rfl
    | 12, _ => rfl
    | n + 13, h => exact absurd h (by omega)
end K10

set_option Elab.async false
set_option linter.all false
set_option maxRecDepth 100000
set_option maxHeartbeats 0
namespace K10
open PySem PySem.Spec PyProof.Rows L2 Dy
/-! ### the head -/
def fn_0 : List He.DefD := [d_law, d__law_taken, d__law_raise_first, d__law_raise, d__law_classes, d__law_fields, d__law_bag, d__law_take, d__law_value, d__law_alike, d_Program___init__, d__law_odd, d_are_inputs, d_are_rows, d_count, d_depth, d_walked, d_Program_need_leaves, d_Program_need_names, d_Program_need_sight]
def fn_1 : List He.DefD := [d_Program_need_trees, d_are_names, d_Fans___init__, d_Program_names, d_is_name, d_Fans_number, d_Fans_add]
def fn : List He.DefD := fn_0 ++ fn_1
def fa_0 : List He.Fa := [.glo "law", .glo "_law_taken", .glo "_law_raise_first", .glo "_law_raise", .glo "_law_classes", .glo "_law_fields", .glo "_law_bag", .glo "_law_take", .glo "_law_value", .glo "_law_alike", .mkr "Program", .glo "_law_odd", .glo "are_inputs", .glo "are_rows", .glo "count", .glo "depth", .glo "walked", .meth "Program" "need_leaves", .meth "Program" "need_names", .meth "Program" "need_sight"]
def fa_1 : List He.Fa := [.meth "Program" "need_trees", .glo "are_names", .mkr "Fans", .meth "Program" "names", .glo "is_name", .meth "Fans" "number", .meth "Fans" "add", .glo "MoveError", .noat "Fans" "makings", .noat "Fans" "node_of", .noat "Fans" "nodes", .noat "Fans" "numbers", .noat "Fans" "rank", .noat "Program" "kept_at", .noat "Program" "kept_forks", .noat "Program" "kept_inputs", .noat "Program" "kept_makers", .noat "Program" "kept_rows", .noat "Program" "kept_ways", .str "LETTERS" "abcdefghijklmnopqrstuvwxyz"]
def fa_2 : List He.Fa := [.int "MOST_DEEP" 4, .int "MOST_INPUTS" 4, .int "MOST_LETTERS" 8, .int "MOST_ROWS" 24]
def fa : List He.Fa := fa_0 ++ fa_1 ++ fa_2
def chk (K : PySem.W.Frag) : Bool := noSysB K && (frees bltNames K && (fa.all (fun f => f.ok K) && (objB "Fans" K && (objB "Program" K && (frees ["ValueError", "LookupError", "super"] K && (errs.all (fun nm => errB flds K nm) && (kitB errs K && (ini.all (fun d => iniB P.main.file K d)))))))))
def loose_0 : List Str := ["_wall", "MoveError", "Wrong", "Full", "Deep", "NotLast", "Twice", "Unseen", "Wide", "NoRow", "NoGap", "NoName", "Inside", "NoFork", "NoWord", "BadChoices", "Unlike", "NoLags", "TooMany", "Parted"]
def loose_1 : List Str := ["NoPair", "BadDeeds", "BadStep", "NoDeed", "Refused", "Nothing", "NoEntry", "NoText", "NoCommand", "LETTERS", "MOST_LETTERS", "is_integer", "is_name", "is_address", "are_names", "MOST_ARGS", "MOST_JOINED", "is_called", "is_join", "are_joins"]
def loose_2 : List Str := ["is_plain", "is_row", "are_rows", "frozen", "inner_lists", "with_lists", "makes", "uses", "count", "depth", "MOST_INPUTS", "MOST_ROWS", "MOST_DEEP", "MOST_TREES", "MOST_PARTS", "MOST_READINGS", "walked", "changed", "size_of", "readings_of"]
def loose_3 : List Str := ["limited", "Fans", "are_inputs", "Program", "_law_bag", "_law_take", "_law_alike", "_law_odd", "_law_raise_first", "_law_raise", "_law_classes", "_law_fields", "_law_value", "_law_taken"]
def loose : List Str := loose_0 ++ loose_1 ++ loose_2 ++ loose_3
structure Gs (K : PySem.W.Frag) (mg : Str → Option Value) : Prop where
  ns : NoSys K
  bl : Blt mg
  gl_law : mg "law" = some (.ref (He.ga K "law"))
  gl__law_taken : mg "_law_taken" = some (.ref (He.ga K "_law_taken"))
  gl__law_raise_first : mg "_law_raise_first" = some (.ref (He.ga K "_law_raise_first"))
  gl__law_raise : mg "_law_raise" = some (.ref (He.ga K "_law_raise"))
  gl__law_classes : mg "_law_classes" = some (.ref (He.ga K "_law_classes"))
  gl__law_fields : mg "_law_fields" = some (.ref (He.ga K "_law_fields"))
  gl__law_bag : mg "_law_bag" = some (.ref (He.ga K "_law_bag"))
  gl__law_take : mg "_law_take" = some (.ref (He.ga K "_law_take"))
  gl__law_value : mg "_law_value" = some (.ref (He.ga K "_law_value"))
  gl__law_alike : mg "_law_alike" = some (.ref (He.ga K "_law_alike"))
  mk_Program : Mk K (He.ga K "Program") (He.ma K (He.ga K "Program") "__init__")
  gl__law_odd : mg "_law_odd" = some (.ref (He.ga K "_law_odd"))
  gl_are_inputs : mg "are_inputs" = some (.ref (He.ga K "are_inputs"))
  gl_are_rows : mg "are_rows" = some (.ref (He.ga K "are_rows"))
  gl_count : mg "count" = some (.ref (He.ga K "count"))
  gl_depth : mg "depth" = some (.ref (He.ga K "depth"))
  gl_walked : mg "walked" = some (.ref (He.ga K "walked"))
  mt_Program_need_leaves : Meth K (He.ga K "Program") "need_leaves" (He.ma K (He.ga K "Program") "need_leaves")
  mt_Program_need_names : Meth K (He.ga K "Program") "need_names" (He.ma K (He.ga K "Program") "need_names")
  mt_Program_need_sight : Meth K (He.ga K "Program") "need_sight" (He.ma K (He.ga K "Program") "need_sight")
  mt_Program_need_trees : Meth K (He.ga K "Program") "need_trees" (He.ma K (He.ga K "Program") "need_trees")
  gl_are_names : mg "are_names" = some (.ref (He.ga K "are_names"))
  mk_Fans : Mk K (He.ga K "Fans") (He.ma K (He.ga K "Fans") "__init__")
  mt_Program_names : Meth K (He.ga K "Program") "names" (He.ma K (He.ga K "Program") "names")
  gl_is_name : mg "is_name" = some (.ref (He.ga K "is_name"))
  mt_Fans_number : Meth K (He.ga K "Fans") "number" (He.ma K (He.ga K "Fans") "number")
  mt_Fans_add : Meth K (He.ga K "Fans") "add" (He.ma K (He.ga K "Fans") "add")
  gme : mg "MoveError" = some (.ref (He.ga K "MoveError"))
  na_Fans_makings : NoAttr K (He.ga K "Fans") "makings"
  na_Fans_node_of : NoAttr K (He.ga K "Fans") "node_of"
  na_Fans_nodes : NoAttr K (He.ga K "Fans") "nodes"
  na_Fans_numbers : NoAttr K (He.ga K "Fans") "numbers"
  na_Fans_rank : NoAttr K (He.ga K "Fans") "rank"
  na_Program_kept_at : NoAttr K (He.ga K "Program") "kept_at"
  na_Program_kept_forks : NoAttr K (He.ga K "Program") "kept_forks"
  na_Program_kept_inputs : NoAttr K (He.ga K "Program") "kept_inputs"
  na_Program_kept_makers : NoAttr K (He.ga K "Program") "kept_makers"
  na_Program_kept_rows : NoAttr K (He.ga K "Program") "kept_rows"
  na_Program_kept_ways : NoAttr K (He.ga K "Program") "kept_ways"
  c_LETTERS : ∃ t, mg "LETTERS" = some (.str "abcdefghijklmnopqrstuvwxyz" t)
  c_MOST_DEEP : ∃ t, mg "MOST_DEEP" = some (.int 4 t)
  c_MOST_INPUTS : ∃ t, mg "MOST_INPUTS" = some (.int 4 t)
  c_MOST_LETTERS : ∃ t, mg "MOST_LETTERS" = some (.int 8 t)
  c_MOST_ROWS : ∃ t, mg "MOST_ROWS" = some (.int 24 t)
  cl_Fans : Cls K (He.ga K "Fans")
  ob_Fans : ObjC K (He.ga K "Fans")
  gc_Fans : mg "Fans" = some (.ref (He.ga K "Fans"))
  cl_Program : Cls K (He.ga K "Program")
  ob_Program : ObjC K (He.ga K "Program")
  gc_Program : mg "Program" = some (.ref (He.ga K "Program"))
  fr : ∀ x ∈ (["ValueError", "LookupError", "super"] : List Str), mg x = none
  er : ∀ kk, kk < 27 → ErrC K mg flds (errs.getD kk "")
  kit : kitB errs K = true
  ii : ∀ (i : Nat) {d : IniD}, ini[i]? = some d → iniW K d.nm = d.val ∧ iniB P.main.file K d = true
theorem Gs.of {K : PySem.W.Frag} {h : Heap} {mg : Str → Option Value} (X : K.In h) (G : h.Ns mainGlobals mg) (c : chk K = true) (ci : ini.map (fun d => iniW K d.nm) = ini.map IniD.val) : Gs K mg := by
  obtain ⟨c0, c⟩ := He.ba c
  obtain ⟨c1, c⟩ := He.ba c
  obtain ⟨c2, c⟩ := He.ba c
  obtain ⟨c3, c⟩ := He.ba c
  obtain ⟨c4, c⟩ := He.ba c
  obtain ⟨c5, c⟩ := He.ba c
  obtain ⟨c6, c⟩ := He.ba c
  obtain ⟨c7, c⟩ := He.ba c
  have c8 := c
  have F : ∀ (i : Nat) {f : He.Fa} (h : fa[i]? = some f := by rfl), f.ok K = true := fun i f h => List.all_eq_true.mp c2 f (List.mem_of_getElem? h)
  exact ⟨noSysB_ok c0, fun x hx => frees_ok X G c1 x hx, He.glo_ok X G (F 0), He.glo_ok X G (F 1), He.glo_ok X G (F 2), He.glo_ok X G (F 3), He.glo_ok X G (F 4), He.glo_ok X G (F 5), He.glo_ok X G (F 6), He.glo_ok X G (F 7), He.glo_ok X G (F 8), He.glo_ok X G (F 9), He.mkr_ok (F 10), He.glo_ok X G (F 11), He.glo_ok X G (F 12), He.glo_ok X G (F 13), He.glo_ok X G (F 14), He.glo_ok X G (F 15), He.glo_ok X G (F 16), He.meth_ok (F 17), He.meth_ok (F 18), He.meth_ok (F 19), He.meth_ok (F 20), He.glo_ok X G (F 21), He.mkr_ok (F 22), He.meth_ok (F 23), He.glo_ok X G (F 24), He.meth_ok (F 25), He.meth_ok (F 26), He.glo_ok X G (F 27), He.noat_ok (F 28), He.noat_ok (F 29), He.noat_ok (F 30), He.noat_ok (F 31), He.noat_ok (F 32), He.noat_ok (F 33), He.noat_ok (F 34), He.noat_ok (F 35), He.noat_ok (F 36), He.noat_ok (F 37), He.noat_ok (F 38), He.str_ok X G (F 39), He.int_ok X G (F 40), He.int_ok X G (F 41), He.int_ok X G (F 42), He.int_ok X G (F 43), objB_cl c3, objB_ok c3, objB_gl X G c3, objB_cl c4, objB_ok c4, objB_gl X G c4, (fun x hx => frees_ok X G c5 x hx), (fun kk hkk => errB_ok X G (List.all_eq_true.mp c6 _ (by rw [List.getD_eq_getElem?_getD, List.getElem?_eq_getElem (show kk < errs.length from hkk)]; exact List.getElem_mem _))), c7, (fun i {d} h => iniAll_ok c8 ci i h)⟩
/-! ### the errors are made -/
theorem nm_address : Ex.Nm1 "address" := ⟨by decide, by decide, by decide, by decide, by decide, by decide, by intros; rfl⟩
theorem nm_at : Ex.Nm1 "at" := ⟨by decide, by decide, by decide, by decide, by decide, by decide, by intros; rfl⟩
theorem nm_bad : Ex.Nm1 "bad" := ⟨by decide, by decide, by decide, by decide, by decide, by decide, by intros; rfl⟩
theorem nm_deed : Ex.Nm1 "deed" := ⟨by decide, by decide, by decide, by decide, by decide, by decide, by intros; rfl⟩
theorem nm_gap : Ex.Nm1 "gap" := ⟨by decide, by decide, by decide, by decide, by decide, by decide, by intros; rfl⟩
theorem nm_limit : Ex.Nm1 "limit" := ⟨by decide, by decide, by decide, by decide, by decide, by decide, by intros; rfl⟩
theorem nm_many : Ex.Nm1 "many" := ⟨by decide, by decide, by decide, by decide, by decide, by decide, by intros; rfl⟩
theorem nm_most : Ex.Nm1 "most" := ⟨by decide, by decide, by decide, by decide, by decide, by decide, by intros; rfl⟩
theorem nm_name : Ex.Nm1 "name" := ⟨by decide, by decide, by decide, by decide, by decide, by decide, by intros; rfl⟩
theorem nm_pair : Ex.Nm1 "pair" := ⟨by decide, by decide, by decide, by decide, by decide, by decide, by intros; rfl⟩
theorem nm_place : Ex.Nm1 "place" := ⟨by decide, by decide, by decide, by decide, by decide, by decide, by intros; rfl⟩
theorem nm_road : Ex.Nm1 "road" := ⟨by decide, by decide, by decide, by decide, by decide, by decide, by intros; rfl⟩
theorem nm_step : Ex.Nm1 "step" := ⟨by decide, by decide, by decide, by decide, by decide, by decide, by intros; rfl⟩
theorem nm_word : Ex.Nm1 "word" := ⟨by decide, by decide, by decide, by decide, by decide, by decide, by intros; rfl⟩
theorem nm_address_name : Ex.Nm2 "address" "name" := ⟨by decide, by decide, by decide, by decide, by decide, by decide, by decide, by decide, by decide, by decide, by intros; rfl⟩
theorem nm_road_bad : Ex.Nm2 "road" "bad" := ⟨by decide, by decide, by decide, by decide, by decide, by decide, by decide, by decide, by decide, by decide, by intros; rfl⟩
theorem top_ : (P.main.scope.names.lookup ("super" : Str)).isSome = false := by decide +kernel
section
variable {w : PySem.World} {K : PySem.W.Frag} {mg : Str → Option Value}
theorem own_Wrong (G : Gs K mg) : Ex.Own P w K mg "Wrong" (CsK K 0) (He.ma K (CsK K 0) "__init__") ["place"] :=
  own1_of (G.er 0 (by decide)).T (G.er 0 (by decide)).gc (initF_of (prog := P) (d := in_Wrong) (G.ii 0 rfl).1 (G.ii 0 rfl).2) ((G.er 0 (by decide)).no "place" (by decide)) nm_place (G.fr _ (by decide)) top_ (fun _ _ _ => ⟨_, rfl⟩)
theorem own_Full (G : Gs K mg) : Ex.Own P w K mg "Full" (CsK K 1) (He.ma K (CsK K 1) "__init__") ["limit"] :=
  own1_of (G.er 1 (by decide)).T (G.er 1 (by decide)).gc (initF_of (prog := P) (d := in_Full) (G.ii 1 rfl).1 (G.ii 1 rfl).2) ((G.er 1 (by decide)).no "limit" (by decide)) nm_limit (G.fr _ (by decide)) top_ (fun _ _ _ => ⟨_, rfl⟩)
theorem own_Deep (G : Gs K mg) : Ex.Own P w K mg "Deep" (CsK K 2) (He.ma K (CsK K 2) "__init__") ["limit"] :=
  own1_of (G.er 2 (by decide)).T (G.er 2 (by decide)).gc (initF_of (prog := P) (d := in_Deep) (G.ii 2 rfl).1 (G.ii 2 rfl).2) ((G.er 2 (by decide)).no "limit" (by decide)) nm_limit (G.fr _ (by decide)) top_ (fun _ _ _ => ⟨_, rfl⟩)
theorem own_NotLast (G : Gs K mg) : Ex.Own P w K mg "NotLast" (CsK K 3) (He.ma K (CsK K 3) "__init__") ["address"] :=
  own1_of (G.er 3 (by decide)).T (G.er 3 (by decide)).gc (initF_of (prog := P) (d := in_NotLast) (G.ii 3 rfl).1 (G.ii 3 rfl).2) ((G.er 3 (by decide)).no "address" (by decide)) nm_address (G.fr _ (by decide)) top_ (fun _ _ _ => ⟨_, rfl⟩)
theorem own_Twice (G : Gs K mg) : Ex.Own P w K mg "Twice" (CsK K 4) (He.ma K (CsK K 4) "__init__") ["name"] :=
  own1_of (G.er 4 (by decide)).T (G.er 4 (by decide)).gc (initF_of (prog := P) (d := in_Twice) (G.ii 4 rfl).1 (G.ii 4 rfl).2) ((G.er 4 (by decide)).no "name" (by decide)) nm_name (G.fr _ (by decide)) top_ (fun _ _ _ => ⟨_, rfl⟩)
theorem own_Unseen (G : Gs K mg) : Ex.Own P w K mg "Unseen" (CsK K 5) (He.ma K (CsK K 5) "__init__") ["address", "name"] :=
  own2_of (G.er 5 (by decide)).T (G.er 5 (by decide)).gc (initF_of (prog := P) (d := in_Unseen) (G.ii 5 rfl).1 (G.ii 5 rfl).2) ((G.er 5 (by decide)).no "address" (by decide)) ((G.er 5 (by decide)).no "name" (by decide)) nm_address_name (G.fr _ (by decide)) top_ (fun _ _ _ => ⟨_, rfl⟩)
theorem own_Wide (G : Gs K mg) : Ex.Own P w K mg "Wide" (CsK K 6) (He.ma K (CsK K 6) "__init__") ["name"] :=
  own1_of (G.er 6 (by decide)).T (G.er 6 (by decide)).gc (initF_of (prog := P) (d := in_Wide) (G.ii 6 rfl).1 (G.ii 6 rfl).2) ((G.er 6 (by decide)).no "name" (by decide)) nm_name (G.fr _ (by decide)) top_ (fun _ _ _ => ⟨_, rfl⟩)
theorem own_NoRow (G : Gs K mg) : Ex.Own P w K mg "NoRow" (CsK K 7) (He.ma K (CsK K 7) "__init__") ["address"] :=
  own1_of (G.er 7 (by decide)).T (G.er 7 (by decide)).gc (initF_of (prog := P) (d := in_NoRow) (G.ii 7 rfl).1 (G.ii 7 rfl).2) ((G.er 7 (by decide)).no "address" (by decide)) nm_address (G.fr _ (by decide)) top_ (fun _ _ _ => ⟨_, rfl⟩)
theorem own_NoGap (G : Gs K mg) : Ex.Own P w K mg "NoGap" (CsK K 8) (He.ma K (CsK K 8) "__init__") ["gap"] :=
  own1_of (G.er 8 (by decide)).T (G.er 8 (by decide)).gc (initF_of (prog := P) (d := in_NoGap) (G.ii 8 rfl).1 (G.ii 8 rfl).2) ((G.er 8 (by decide)).no "gap" (by decide)) nm_gap (G.fr _ (by decide)) top_ (fun _ _ _ => ⟨_, rfl⟩)
theorem own_NoName (G : Gs K mg) : Ex.Own P w K mg "NoName" (CsK K 9) (He.ma K (CsK K 9) "__init__") ["name"] :=
  own1_of (G.er 9 (by decide)).T (G.er 9 (by decide)).gc (initF_of (prog := P) (d := in_NoName) (G.ii 9 rfl).1 (G.ii 9 rfl).2) ((G.er 9 (by decide)).no "name" (by decide)) nm_name (G.fr _ (by decide)) top_ (fun _ _ _ => ⟨_, rfl⟩)
theorem own_Inside (G : Gs K mg) : Ex.Own P w K mg "Inside" (CsK K 10) (He.ma K (CsK K 10) "__init__") ["gap"] :=
  own1_of (G.er 10 (by decide)).T (G.er 10 (by decide)).gc (initF_of (prog := P) (d := in_Inside) (G.ii 10 rfl).1 (G.ii 10 rfl).2) ((G.er 10 (by decide)).no "gap" (by decide)) nm_gap (G.fr _ (by decide)) top_ (fun _ _ _ => ⟨_, rfl⟩)
theorem own_NoFork (G : Gs K mg) : Ex.Own P w K mg "NoFork" (CsK K 11) (He.ma K (CsK K 11) "__init__") ["at"] :=
  own1_of (G.er 11 (by decide)).T (G.er 11 (by decide)).gc (initF_of (prog := P) (d := in_NoFork) (G.ii 11 rfl).1 (G.ii 11 rfl).2) ((G.er 11 (by decide)).no "at" (by decide)) nm_at (G.fr _ (by decide)) top_ (fun _ _ _ => ⟨_, rfl⟩)
theorem own_NoWord (G : Gs K mg) : Ex.Own P w K mg "NoWord" (CsK K 12) (He.ma K (CsK K 12) "__init__") ["word"] :=
  own1_of (G.er 12 (by decide)).T (G.er 12 (by decide)).gc (initF_of (prog := P) (d := in_NoWord) (G.ii 12 rfl).1 (G.ii 12 rfl).2) ((G.er 12 (by decide)).no "word" (by decide)) nm_word (G.fr _ (by decide)) top_ (fun _ _ _ => ⟨_, rfl⟩)
theorem own_BadChoices (G : Gs K mg) : Ex.Own P w K mg "BadChoices" (CsK K 13) (He.ma K (CsK K 13) "__init__") ["at"] :=
  own1_of (G.er 13 (by decide)).T (G.er 13 (by decide)).gc (initF_of (prog := P) (d := in_BadChoices) (G.ii 13 rfl).1 (G.ii 13 rfl).2) ((G.er 13 (by decide)).no "at" (by decide)) nm_at (G.fr _ (by decide)) top_ (fun _ _ _ => ⟨_, rfl⟩)
theorem own_Unlike (G : Gs K mg) : Ex.Own P w K mg "Unlike" (CsK K 14) (He.ma K (CsK K 14) "__init__") [] :=
  own0_of (G.er 14 (by decide)).T (G.er 14 (by decide)).gc (initF_of (prog := P) (d := in_Unlike) (G.ii 14 rfl).1 (G.ii 14 rfl).2) (G.fr _ (by decide)) top_ (fun _ _ _ => ⟨_, rfl⟩)
theorem own_NoLags (G : Gs K mg) : Ex.Own P w K mg "NoLags" (CsK K 15) (He.ma K (CsK K 15) "__init__") [] :=
  own0_of (G.er 15 (by decide)).T (G.er 15 (by decide)).gc (initF_of (prog := P) (d := in_NoLags) (G.ii 15 rfl).1 (G.ii 15 rfl).2) (G.fr _ (by decide)) top_ (fun _ _ _ => ⟨_, rfl⟩)
theorem own_TooMany (G : Gs K mg) : Ex.Own P w K mg "TooMany" (CsK K 16) (He.ma K (CsK K 16) "__init__") ["most"] :=
  own1_of (G.er 16 (by decide)).T (G.er 16 (by decide)).gc (initF_of (prog := P) (d := in_TooMany) (G.ii 16 rfl).1 (G.ii 16 rfl).2) ((G.er 16 (by decide)).no "most" (by decide)) nm_most (G.fr _ (by decide)) top_ (fun _ _ _ => ⟨_, rfl⟩)
theorem own_Parted (G : Gs K mg) : Ex.Own P w K mg "Parted" (CsK K 17) (He.ma K (CsK K 17) "__init__") ["road", "bad"] :=
  own2_of (G.er 17 (by decide)).T (G.er 17 (by decide)).gc (initF_of (prog := P) (d := in_Parted) (G.ii 17 rfl).1 (G.ii 17 rfl).2) ((G.er 17 (by decide)).no "road" (by decide)) ((G.er 17 (by decide)).no "bad" (by decide)) nm_road_bad (G.fr _ (by decide)) top_ (fun _ _ _ => ⟨_, rfl⟩)
theorem own_NoPair (G : Gs K mg) : Ex.Own P w K mg "NoPair" (CsK K 18) (He.ma K (CsK K 18) "__init__") ["pair"] :=
  own1_of (G.er 18 (by decide)).T (G.er 18 (by decide)).gc (initF_of (prog := P) (d := in_NoPair) (G.ii 18 rfl).1 (G.ii 18 rfl).2) ((G.er 18 (by decide)).no "pair" (by decide)) nm_pair (G.fr _ (by decide)) top_ (fun _ _ _ => ⟨_, rfl⟩)
theorem own_BadDeeds (G : Gs K mg) : Ex.Own P w K mg "BadDeeds" (CsK K 19) (He.ma K (CsK K 19) "__init__") [] :=
  own0_of (G.er 19 (by decide)).T (G.er 19 (by decide)).gc (initF_of (prog := P) (d := in_BadDeeds) (G.ii 19 rfl).1 (G.ii 19 rfl).2) (G.fr _ (by decide)) top_ (fun _ _ _ => ⟨_, rfl⟩)
theorem own_BadStep (G : Gs K mg) : Ex.Own P w K mg "BadStep" (CsK K 20) (He.ma K (CsK K 20) "__init__") ["step"] :=
  own1_of (G.er 20 (by decide)).T (G.er 20 (by decide)).gc (initF_of (prog := P) (d := in_BadStep) (G.ii 20 rfl).1 (G.ii 20 rfl).2) ((G.er 20 (by decide)).no "step" (by decide)) nm_step (G.fr _ (by decide)) top_ (fun _ _ _ => ⟨_, rfl⟩)
theorem own_NoDeed (G : Gs K mg) : Ex.Own P w K mg "NoDeed" (CsK K 21) (He.ma K (CsK K 21) "__init__") [] :=
  own0_of (G.er 21 (by decide)).T (G.er 21 (by decide)).gc (initF_of (prog := P) (d := in_NoDeed) (G.ii 21 rfl).1 (G.ii 21 rfl).2) (G.fr _ (by decide)) top_ (fun _ _ _ => ⟨_, rfl⟩)
theorem own_Refused (G : Gs K mg) : Ex.Own P w K mg "Refused" (CsK K 22) (He.ma K (CsK K 22) "__init__") ["deed"] :=
  own1_of (G.er 22 (by decide)).T (G.er 22 (by decide)).gc (initF_of (prog := P) (d := in_Refused) (G.ii 22 rfl).1 (G.ii 22 rfl).2) ((G.er 22 (by decide)).no "deed" (by decide)) nm_deed (G.fr _ (by decide)) top_ (fun _ _ _ => ⟨_, rfl⟩)
theorem own_Nothing (G : Gs K mg) : Ex.Own P w K mg "Nothing" (CsK K 23) (He.ma K (CsK K 23) "__init__") [] :=
  own0_of (G.er 23 (by decide)).T (G.er 23 (by decide)).gc (initF_of (prog := P) (d := in_Nothing) (G.ii 23 rfl).1 (G.ii 23 rfl).2) (G.fr _ (by decide)) top_ (fun _ _ _ => ⟨_, rfl⟩)
theorem own_NoEntry (G : Gs K mg) : Ex.Own P w K mg "NoEntry" (CsK K 24) (He.ma K (CsK K 24) "__init__") ["many"] :=
  own1_of (G.er 24 (by decide)).T (G.er 24 (by decide)).gc (initF_of (prog := P) (d := in_NoEntry) (G.ii 24 rfl).1 (G.ii 24 rfl).2) ((G.er 24 (by decide)).no "many" (by decide)) nm_many (G.fr _ (by decide)) top_ (fun _ _ _ => ⟨_, rfl⟩)
theorem own_NoText (G : Gs K mg) : Ex.Own P w K mg "NoText" (CsK K 25) (He.ma K (CsK K 25) "__init__") [] :=
  own0_of (G.er 25 (by decide)).T (G.er 25 (by decide)).gc (initF_of (prog := P) (d := in_NoText) (G.ii 25 rfl).1 (G.ii 25 rfl).2) (G.fr _ (by decide)) top_ (fun _ _ _ => ⟨_, rfl⟩)
theorem own_NoCommand (G : Gs K mg) : Ex.Own P w K mg "NoCommand" (CsK K 26) (He.ma K (CsK K 26) "__init__") [] :=
  own0_of (G.er 26 (by decide)).T (G.er 26 (by decide)).gc (initF_of (prog := P) (d := in_NoCommand) (G.ii 26 rfl).1 (G.ii 26 rfl).2) (G.fr _ (by decide)) top_ (fun _ _ _ => ⟨_, rfl⟩)
end
/-! ### the defs keep to their mirrors -/
structure Fns (w : PySem.World) (K : PySem.W.Frag) (mg : Str → Option Value) (base : Heap) (fds : Nat → FuncData) (k : Nat) (T : Nat → Fn) (TT : Int → Nat → Nat → MS → Option MS) : Prop where
  d_law : DefOk P w K mg base (2 * k) "law" (He.ga K "law") (fds 0) p_law (T i_law)
  d__law_bag : DefOk P w K mg base (2 * k) "_law_bag" (He.ga K "_law_bag") (fds 6) p__law_bag (T i__law_bag)
  d__law_take : DefOk P w K mg base (2 * k) "_law_take" (He.ga K "_law_take") (fds 7) p__law_take (T i__law_take)
  d__law_value : DefOk P w K mg base (2 * k) "_law_value" (He.ga K "_law_value") (fds 8) p__law_value (T i__law_value)
  d__law_alike : DefOk P w K mg base (2 * k) "_law_alike" (He.ga K "_law_alike") (fds 9) p__law_alike (T i__law_alike)
  k_Program : MakeOk P w K mg base (2 * k) "Program" (He.ga K "Program") (He.ma K (He.ga K "Program") "__init__") (fds 10) p_Program___init__ (T i_Program___init__)
  d__law_odd : DefOk P w K mg base (2 * k) "_law_odd" (He.ga K "_law_odd") (fds 11) p__law_odd (T i__law_odd)
  d_are_inputs : DefOk P w K mg base (2 * k) "are_inputs" (He.ga K "are_inputs") (fds 12) p_are_inputs (T i_are_inputs)
  d_are_rows : DefOk P w K mg base (2 * k) "are_rows" (He.ga K "are_rows") (fds 13) p_are_rows (T i_are_rows)
  d_count : DefOk P w K mg base (2 * k) "count" (He.ga K "count") (fds 14) p_count (T i_count)
  d_depth : DefOk P w K mg base (2 * k) "depth" (He.ga K "depth") (fds 15) p_depth (T i_depth)
  d_walked : DefOk P w K mg base (2 * k) "walked" (He.ga K "walked") (fds 16) p_walked (T i_walked)
  m_Program_need_leaves : MethOk P w K mg base (2 * k) (He.ga K "Program") "need_leaves" (He.ma K (He.ga K "Program") "need_leaves") (fds 17) p_Program_need_leaves (T i_Program_need_leaves)
  m_Program_need_names : MethOk P w K mg base (2 * k) (He.ga K "Program") "need_names" (He.ma K (He.ga K "Program") "need_names") (fds 18) p_Program_need_names (T i_Program_need_names)
  m_Program_need_sight : MethOk P w K mg base (2 * k) (He.ga K "Program") "need_sight" (He.ma K (He.ga K "Program") "need_sight") (fds 19) p_Program_need_sight (T i_Program_need_sight)
  m_Program_need_trees : MethOk P w K mg base (2 * k) (He.ga K "Program") "need_trees" (He.ma K (He.ga K "Program") "need_trees") (fds 20) p_Program_need_trees (T i_Program_need_trees)
  d_are_names : DefOk P w K mg base (2 * k) "are_names" (He.ga K "are_names") (fds 21) p_are_names (T i_are_names)
  k_Fans : MakeOkU P w K mg base (2 * k) "Fans" (He.ga K "Fans") (He.ma K (He.ga K "Fans") "__init__") (fds 22) p_Fans___init__ (T i_Fans___init__)
  m_Program_names : MethOk P w K mg base (2 * k) (He.ga K "Program") "names" (He.ma K (He.ga K "Program") "names") (fds 23) p_Program_names (T i_Program_names)
  d_is_name : DefOk P w K mg base (2 * k) "is_name" (He.ga K "is_name") (fds 24) p_is_name (T i_is_name)
  m_Fans_number : MethOk P w K mg base (2 * k) (He.ga K "Fans") "number" (He.ma K (He.ga K "Fans") "number") (fds 25) p_Fans_number (T i_Fans_number)
  m_Fans_add : MethOk P w K mg base (2 * k) (He.ga K "Fans") "add" (He.ma K (He.ga K "Fans") "add") (fds 26) p_Fans_add (T i_Fans_add)
  t_taken : DefT P w K mg base (2 * k) "_law_taken" (He.ga K "_law_taken") (fds 1) p__law_taken TT
section
variable {w : PySem.World} {K : PySem.W.Frag} {mg : Str → Option Value} {base : Heap} {fds : Nat → FuncData} {k : Nat}
abbrev AllD (K : PySem.W.Frag) (fds : Nat → FuncData) : Prop := ∀ (i : Nat) (d : He.DefD), fn[i]? = some d → FunD K d.name d.qual d.params d.body d.scope (d.dvs K) (d.kws K) (He.fAd K d.at_) (fds i)
theorem b_law (FD : AllD K fds) : Binds K (fds 0) p_law [] := (FD 0 d_law rfl).bindsN fun _ _ _ _ _ _ us hl => match us, hl with | [_], _ => rfl
theorem a_law (G : Gs K mg) (FD : AllD K fds) : DefA K mg "law" (He.ga K "law") (fds 0) p_law := ⟨G.gl_law, (FD 0 d_law rfl).kp, b_law FD⟩
theorem b__law_taken (FD : AllD K fds) : Binds K (fds 1) p__law_taken [] := (FD 1 d__law_taken rfl).bindsN fun _ _ _ _ _ _ us hl => match us, hl with | [_, _, _], _ => rfl
theorem a__law_taken (G : Gs K mg) (FD : AllD K fds) : DefA K mg "_law_taken" (He.ga K "_law_taken") (fds 1) p__law_taken := ⟨G.gl__law_taken, (FD 1 d__law_taken rfl).kp, b__law_taken FD⟩
theorem b__law_raise_first (FD : AllD K fds) : Binds K (fds 2) p__law_raise_first [] := (FD 2 d__law_raise_first rfl).bindsN fun _ _ _ _ _ _ us hl => match us, hl with | [_, _, _], _ => rfl
theorem a__law_raise_first (G : Gs K mg) (FD : AllD K fds) : DefA K mg "_law_raise_first" (He.ga K "_law_raise_first") (fds 2) p__law_raise_first := ⟨G.gl__law_raise_first, (FD 2 d__law_raise_first rfl).kp, b__law_raise_first FD⟩
theorem b__law_raise (FD : AllD K fds) : Binds K (fds 3) p__law_raise [] := (FD 3 d__law_raise rfl).bindsN fun _ _ _ _ _ _ us hl => match us, hl with | [_, _, _], _ => rfl
theorem a__law_raise (G : Gs K mg) (FD : AllD K fds) : DefA K mg "_law_raise" (He.ga K "_law_raise") (fds 3) p__law_raise := ⟨G.gl__law_raise, (FD 3 d__law_raise rfl).kp, b__law_raise FD⟩
theorem b__law_classes (FD : AllD K fds) : Binds K (fds 4) p__law_classes [] := (FD 4 d__law_classes rfl).bindsN fun _ _ _ _ _ _ us hl => match us, hl with | [_], _ => rfl
theorem a__law_classes (G : Gs K mg) (FD : AllD K fds) : DefA K mg "_law_classes" (He.ga K "_law_classes") (fds 4) p__law_classes := ⟨G.gl__law_classes, (FD 4 d__law_classes rfl).kp, b__law_classes FD⟩
theorem b__law_fields (FD : AllD K fds) : Binds K (fds 5) p__law_fields [] := (FD 5 d__law_fields rfl).bindsN fun _ _ _ _ _ _ us hl => match us, hl with | [_, _], _ => rfl
theorem a__law_fields (G : Gs K mg) (FD : AllD K fds) : DefA K mg "_law_fields" (He.ga K "_law_fields") (fds 5) p__law_fields := ⟨G.gl__law_fields, (FD 5 d__law_fields rfl).kp, b__law_fields FD⟩
theorem b__law_bag (FD : AllD K fds) : Binds K (fds 6) p__law_bag [] := (FD 6 d__law_bag rfl).bindsN fun _ _ _ _ _ _ us hl => match us, hl with | [_], _ => rfl
theorem a__law_bag (G : Gs K mg) (FD : AllD K fds) : DefA K mg "_law_bag" (He.ga K "_law_bag") (fds 6) p__law_bag := ⟨G.gl__law_bag, (FD 6 d__law_bag rfl).kp, b__law_bag FD⟩
theorem b__law_take (FD : AllD K fds) : Binds K (fds 7) p__law_take [] := (FD 7 d__law_take rfl).bindsN fun _ _ _ _ _ _ us hl => match us, hl with | [_, _], _ => rfl
theorem a__law_take (G : Gs K mg) (FD : AllD K fds) : DefA K mg "_law_take" (He.ga K "_law_take") (fds 7) p__law_take := ⟨G.gl__law_take, (FD 7 d__law_take rfl).kp, b__law_take FD⟩
theorem b__law_value (FD : AllD K fds) : Binds K (fds 8) p__law_value [] := (FD 8 d__law_value rfl).bindsN fun _ _ _ _ _ _ us hl => match us, hl with | [_], _ => rfl
theorem a__law_value (G : Gs K mg) (FD : AllD K fds) : DefA K mg "_law_value" (He.ga K "_law_value") (fds 8) p__law_value := ⟨G.gl__law_value, (FD 8 d__law_value rfl).kp, b__law_value FD⟩
theorem b__law_alike (FD : AllD K fds) : Binds K (fds 9) p__law_alike [] := (FD 9 d__law_alike rfl).bindsN fun _ _ _ _ _ _ us hl => match us, hl with | [_, _], _ => rfl
theorem a__law_alike (G : Gs K mg) (FD : AllD K fds) : DefA K mg "_law_alike" (He.ga K "_law_alike") (fds 9) p__law_alike := ⟨G.gl__law_alike, (FD 9 d__law_alike rfl).kp, b__law_alike FD⟩
theorem b_Program___init__ (FD : AllD K fds) : Binds K (fds 10) p_Program___init__ [] := (FD 10 d_Program___init__ rfl).bindsN fun _ _ _ _ _ _ us hl => match us, hl with | [_, _, _], _ => rfl
theorem b__law_odd (FD : AllD K fds) : Binds K (fds 11) p__law_odd [] := (FD 11 d__law_odd rfl).bindsN fun _ _ _ _ _ _ us hl => match us, hl with | [_, _], _ => rfl
theorem a__law_odd (G : Gs K mg) (FD : AllD K fds) : DefA K mg "_law_odd" (He.ga K "_law_odd") (fds 11) p__law_odd := ⟨G.gl__law_odd, (FD 11 d__law_odd rfl).kp, b__law_odd FD⟩
theorem b_are_inputs (FD : AllD K fds) : Binds K (fds 12) p_are_inputs [] := (FD 12 d_are_inputs rfl).bindsN fun _ _ _ _ _ _ us hl => match us, hl with | [_], _ => rfl
theorem a_are_inputs (G : Gs K mg) (FD : AllD K fds) : DefA K mg "are_inputs" (He.ga K "are_inputs") (fds 12) p_are_inputs := ⟨G.gl_are_inputs, (FD 12 d_are_inputs rfl).kp, b_are_inputs FD⟩
theorem b_are_rows (FD : AllD K fds) : Binds K (fds 13) p_are_rows [] := (FD 13 d_are_rows rfl).bindsN fun _ _ _ _ _ _ us hl => match us, hl with | [_], _ => rfl
theorem a_are_rows (G : Gs K mg) (FD : AllD K fds) : DefA K mg "are_rows" (He.ga K "are_rows") (fds 13) p_are_rows := ⟨G.gl_are_rows, (FD 13 d_are_rows rfl).kp, b_are_rows FD⟩
theorem b_count (FD : AllD K fds) : Binds K (fds 14) p_count [] := (FD 14 d_count rfl).bindsN fun _ _ _ _ _ _ us hl => match us, hl with | [_], _ => rfl
theorem a_count (G : Gs K mg) (FD : AllD K fds) : DefA K mg "count" (He.ga K "count") (fds 14) p_count := ⟨G.gl_count, (FD 14 d_count rfl).kp, b_count FD⟩
theorem b_depth (FD : AllD K fds) : Binds K (fds 15) p_depth [] := (FD 15 d_depth rfl).bindsN fun _ _ _ _ _ _ us hl => match us, hl with | [_], _ => rfl
theorem a_depth (G : Gs K mg) (FD : AllD K fds) : DefA K mg "depth" (He.ga K "depth") (fds 15) p_depth := ⟨G.gl_depth, (FD 15 d_depth rfl).kp, b_depth FD⟩
theorem b_walked (FD : AllD K fds) : Binds K (fds 16) p_walked [] := (FD 16 d_walked rfl).bindsN fun _ _ _ _ _ _ us hl => match us, hl with | [_, _], _ => rfl
theorem a_walked (G : Gs K mg) (FD : AllD K fds) : DefA K mg "walked" (He.ga K "walked") (fds 16) p_walked := ⟨G.gl_walked, (FD 16 d_walked rfl).kp, b_walked FD⟩
theorem b_Program_need_leaves (FD : AllD K fds) : Binds K (fds 17) p_Program_need_leaves [] := (FD 17 d_Program_need_leaves rfl).bindsN fun _ _ _ _ _ _ us hl => match us, hl with | [_], _ => rfl
theorem b_Program_need_names (FD : AllD K fds) : Binds K (fds 18) p_Program_need_names [] := (FD 18 d_Program_need_names rfl).bindsN fun _ _ _ _ _ _ us hl => match us, hl with | [_], _ => rfl
theorem b_Program_need_sight (FD : AllD K fds) : Binds K (fds 19) p_Program_need_sight [] := (FD 19 d_Program_need_sight rfl).bindsN fun _ _ _ _ _ _ us hl => match us, hl with | [_], _ => rfl
theorem b_Program_need_trees (FD : AllD K fds) : Binds K (fds 20) p_Program_need_trees [] := (FD 20 d_Program_need_trees rfl).bindsN fun _ _ _ _ _ _ us hl => match us, hl with | [_], _ => rfl
theorem b_are_names (FD : AllD K fds) : Binds K (fds 21) p_are_names [] := (FD 21 d_are_names rfl).bindsN fun _ _ _ _ _ _ us hl => match us, hl with | [_, _], _ => rfl
theorem a_are_names (G : Gs K mg) (FD : AllD K fds) : DefA K mg "are_names" (He.ga K "are_names") (fds 21) p_are_names := ⟨G.gl_are_names, (FD 21 d_are_names rfl).kp, b_are_names FD⟩
theorem b_Fans___init__ (FD : AllD K fds) : Binds K (fds 22) p_Fans___init__ [] := (FD 22 d_Fans___init__ rfl).bindsN fun _ _ _ _ _ _ us hl => match us, hl with | [_, _, _], _ => rfl
theorem b_Program_names (FD : AllD K fds) : Binds K (fds 23) p_Program_names [] := (FD 23 d_Program_names rfl).bindsN fun _ _ _ _ _ _ us hl => match us, hl with | [_], _ => rfl
theorem b_is_name (FD : AllD K fds) : Binds K (fds 24) p_is_name [] := (FD 24 d_is_name rfl).bindsN fun _ _ _ _ _ _ us hl => match us, hl with | [_], _ => rfl
theorem a_is_name (G : Gs K mg) (FD : AllD K fds) : DefA K mg "is_name" (He.ga K "is_name") (fds 24) p_is_name := ⟨G.gl_is_name, (FD 24 d_is_name rfl).kp, b_is_name FD⟩
theorem b_Fans_number (FD : AllD K fds) : Binds K (fds 25) p_Fans_number [] := (FD 25 d_Fans_number rfl).bindsN fun _ _ _ _ _ _ us hl => match us, hl with | [_, _], _ => rfl
theorem b_Fans_add (FD : AllD K fds) : Binds K (fds 26) p_Fans_add [] := (FD 26 d_Fans_add rfl).bindsN fun _ _ _ _ _ _ us hl => match us, hl with | [_, _], _ => rfl
theorem ok_law (G : Gs K mg) (FD : AllD K fds) {T : Nat → Fn} {TT : Int → Nat → Nat → MS → Option MS} (Fs : Fns w K mg base fds k T TT) : FnG P w K mg base CX0 (2 * k + 1 + 1) (He.ga K "law") (fds 0) p_law (spM K p_law.length (runBody (m_law T TT (He.ga K "Fans") (He.ga K "Program")) N_law.length)) := by
  refine FunDG.ok (FD 0 d_law rfl) sc_law rfl fun cdv A outer s H E hgd hr1 => ?_
  have hr : Room (2 * k) (A.deeper (envOfC "law" (defScope s_law) s.heap.objs.size (He.ga K "law") cdv)) := hr1.mono (by omega)
  have hu5 : (A.deeper (envOfC "law" (defScope s_law) s.heap.objs.size (He.ga K "law") cdv)).units + 65 < cLine := by have := hr.un; omega
  have hu : (A.deeper (envOfC "law" (defScope s_law) s.heap.objs.size (He.ga K "law") cdv)).units + 64 < cLine := by have := hr.un; omega
  have hu1 : (A.deeper (envOfC "law" (defScope s_law) s.heap.objs.size (He.ga K "law") cdv)).units + 1 < cLine := by have := hr.un; omega
  have B := G.bl
  have NS := G.ns
  exact (psm_cons (psm_new (ps_set (i := 1) sc_law.nd rfl (Or.inl rfl) (pm_def Fs.d__law_bag hgd hr (pam_cons (pm_var (pv 0)) pam_nil) (len_cons len_nil))))
      (psm_cons (psm_for PassesOwn.never rfl (pim_rng1 B (pam_cons pm_int pam_nil)) (pgm_name (pg_name (i := 2) sc_law.nd rfl (Or.inl rfl))) (psm_cons (psm_set (ps_set (i := 3) sc_law.nd rfl (Or.inr rfl) (pm_def Fs.d__law_take hgd hr (pam_cons (pm_var (pv 1)) (pam_cons pm_int pam_nil)) (len_cons (len_cons len_nil)))))
      (psm_cons (psm_par2N (ps_par (i := 4) (j := 5) rfl sc_law.nd rfl rfl (by decide) rfl rfl (par_consN (pm_lst (pam_cons (pm_def Fs.d__law_value hgd hr (pam_cons (pm_var (pv 1)) pam_nil) (len_cons len_nil)) pam_nil)) (par_consN (pm_lst (pam_cons (pm_def Fs.d__law_value hgd hr (pam_cons (pm_var (pv 1)) pam_nil) (len_cons len_nil)) pam_nil)) par_nil)) (by rfl)))
      (psm_cons (psm_taken (E := fun _ _ _ _ => False) (ps_par (i := 6) (j := 7) rfl sc_law.nd rfl rfl (by decide) rfl rfl (pa_cons (pe_callX (CX := CX0) Fs.t_taken.ok hgd hr rfl Fs.t_taken.at_.gl Fs.t_taken.at_.kp Fs.t_taken.at_.bd (fun _ _ _ _ _ _ _ z => z.elim) (pa_cons (pv 3) (pa_cons (pv 4) (pa_cons (pv 5) pa_nil rfl) rfl) rfl)) (pa_cons (PM.v (pm_add (pm_comp (own := [("_law_j", 10)]) rfl sc_law.nd (pim_rng1 B (pam_cons pm_int pam_nil)) (blkOk_by (N := N_law) (sc := defScope s_law) (own := [("_law_j", 10)]) (by decide +kernel)) (by decide) (fun _ _ _ _ _ => (pgm_name (pg_name (i := 10) sc_law.nd rfl (Or.inl rfl)))) (fun _ _ _ _ _ => ptsm_nil) (fun _ _ _ _ _ => (pm_eq hu (pm_var (pv 10)) (pm_var (pv 3))))) (pm_lst (pam_cons pm_bl (pam_cons pm_bl (pam_cons pm_bl pam_nil)))))) pa_nil rfl) rfl) (by rfl)))
      (psm_cons (psm_set (ps_set (i := 8) sc_law.nd rfl (Or.inl rfl) (pm_if (ptm_in (pm_var (pv 3)) (pm_tup (pam_cons pm_int (pam_cons pm_int (pam_cons pm_int (pam_cons pm_int (pam_cons pm_int (pam_cons pm_int (pam_cons pm_int pam_nil))))))))) pm_int (pm_if (ptm_in (pm_var (pv 3)) (pm_tup (pam_cons pm_int (pam_cons pm_int pam_nil)))) pm_int pm_int))))
      (psm_cons (psm_if (PWm.t (pwm_or (ptm_ne hu (pm_len B (pam_cons (pm_var (pv 6)) pam_nil)) pm_int) (pwm_or (ptm_not (ptm_val (pm_def Fs.d__law_alike hgd hr (pam_cons (pm_sub_ix (pm_var (pv 6)) pm_int) (pam_cons (pm_var (pv 7)) pam_nil)) (len_cons (len_cons len_nil))))) (pwm_or1 (ptm_sameH hu (pv 6) (pv 4) (pv 5) (pv 8)))))) (psm_one (psm_ret pm_bl)) psm_nil)
      (psm_cons (psm_expr (pm_append (pm_var (pv 4)) (pam_cons pm_str pam_nil)))
      (psm_cons (psm_expr (pm_append (pm_var (pv 5)) (pam_cons pm_str pam_nil)))
      (psm_cons (psm_if (ptm_sameH hu (pv 6) (pv 4) (pv 5) (pv 8)) (psm_one (psm_ret pm_bl)) psm_nil)
      (psm_one (psm_for PassesOwn.never rfl (pim_rng1 B (pam_cons (pm_var (pv 8)) pam_nil)) (pgm_name (pg_name (i := 9) sc_law.nd rfl (Or.inl rfl))) (psm_one (psm_if (ptm_ne hu (pm_sub_ix (pm_sub_ix (pm_sub_ix (pm_var (pv 6)) pm_int) (pm_var (pv 9))) (pm_neg pm_int)) (pm_sub_ix (pm_lst (pam_cons pm_str (pam_cons pm_str pam_nil))) (pm_var (pv 9)))) (psm_one (psm_ret pm_bl)) psm_nil)))))))))))))
      (psm_one (psm_ret pm_bl))))
theorem ok__law_raise_first (G : Gs K mg) (FD : AllD K fds) : FnG P w K mg base (L2N.CX P w) (k + 1) (He.ga K "_law_raise_first") (fds 2) p__law_raise_first (spX K 3 (runX (m__law_raise_first (fun _ _ => none) (CsK K)) N__law_raise_first.length)) := by
  refine FunDG.okX (FD 2 d__law_raise_first rfl) sc__law_raise_first rfl fun cdv A outer s H E hgd hr0 tk => ?_
  have hr : Room (k) (A.deeper (envOfC "_law_raise_first" (defScope s__law_raise_first) s.heap.objs.size (He.ga K "_law_raise_first") cdv)) := hr0
  have hu5 : (A.deeper (envOfC "_law_raise_first" (defScope s__law_raise_first) s.heap.objs.size (He.ga K "_law_raise_first") cdv)).units + 65 < cLine := by have := hr.un; omega
  have hu : (A.deeper (envOfC "_law_raise_first" (defScope s__law_raise_first) s.heap.objs.size (He.ga K "_law_raise_first") cdv)).units + 64 < cLine := by have := hr.un; omega
  have hu1 : (A.deeper (envOfC "_law_raise_first" (defScope s__law_raise_first) s.heap.objs.size (He.ga K "_law_raise_first") cdv)).units + 1 < cLine := by have := hr.un; omega
  have B := G.bl
  have NS := G.ns
  exact (psx_cons (psx_if (ptm_eq hu (pm_var (pv 0)) pm_int) (psx_one (psx_raise rfl tk (own_Wrong G) rfl hr (pam_cons (pm_var (pv 1)) pam_nil))) (pssx_lift psm_nil))
      (psx_cons (psx_if (ptm_eq hu (pm_var (pv 0)) pm_int) (psx_one (psx_raise rfl tk (own_Full G) rfl hr (pam_cons (pm_var (pv 1)) pam_nil))) (pssx_lift psm_nil))
      (psx_cons (psx_if (ptm_eq hu (pm_var (pv 0)) pm_int) (psx_one (psx_raise rfl tk (own_Deep G) rfl hr (pam_cons (pm_var (pv 1)) pam_nil))) (pssx_lift psm_nil))
      (psx_cons (psx_if (ptm_eq hu (pm_var (pv 0)) pm_int) (psx_one (psx_raise rfl tk (own_NotLast G) rfl hr (pam_cons (pm_var (pv 1)) pam_nil))) (pssx_lift psm_nil))
      (psx_cons (psx_if (ptm_eq hu (pm_var (pv 0)) pm_int) (psx_one (psx_raise rfl tk (own_Twice G) rfl hr (pam_cons (pm_var (pv 1)) pam_nil))) (pssx_lift psm_nil))
      (psx_cons (psx_if (ptm_eq hu (pm_var (pv 0)) pm_int) (psx_one (psx_raise rfl tk (own_Unseen G) rfl hr (pam_cons (pm_var (pv 1)) (pam_cons (pm_var (pv 2)) pam_nil)))) (pssx_lift psm_nil))
      (psx_cons (psx_if (ptm_eq hu (pm_var (pv 0)) pm_int) (psx_one (psx_raise rfl tk (own_Wide G) rfl hr (pam_cons (pm_var (pv 1)) pam_nil))) (pssx_lift psm_nil))
      (psx_cons (psx_if (ptm_eq hu (pm_var (pv 0)) pm_int) (psx_one (psx_raise rfl tk (own_NoRow G) rfl hr (pam_cons (pm_var (pv 1)) pam_nil))) (pssx_lift psm_nil))
      (psx_cons (psx_if (ptm_eq hu (pm_var (pv 0)) pm_int) (psx_one (psx_raise rfl tk (own_NoGap G) rfl hr (pam_cons (pm_var (pv 1)) pam_nil))) (pssx_lift psm_nil))
      (psx_cons (psx_if (ptm_eq hu (pm_var (pv 0)) pm_int) (psx_one (psx_raise rfl tk (own_NoName G) rfl hr (pam_cons (pm_var (pv 1)) pam_nil))) (pssx_lift psm_nil))
      (psx_cons (psx_if (ptm_eq hu (pm_var (pv 0)) pm_int) (psx_one (psx_raise rfl tk (own_Inside G) rfl hr (pam_cons (pm_var (pv 1)) pam_nil))) (pssx_lift psm_nil))
      (psx_cons (psx_if (ptm_eq hu (pm_var (pv 0)) pm_int) (psx_one (psx_raise rfl tk (own_NoFork G) rfl hr (pam_cons (pm_var (pv 1)) pam_nil))) (pssx_lift psm_nil))
      (psx_cons (psx_if (ptm_eq hu (pm_var (pv 0)) pm_int) (psx_one (psx_raise rfl tk (own_NoWord G) rfl hr (pam_cons (pm_var (pv 1)) pam_nil))) (pssx_lift psm_nil))
      (psx_one (psx_if (ptm_eq hu (pm_var (pv 0)) pm_int) (psx_one (psx_raise rfl tk (own_BadChoices G) rfl hr (pam_cons (pm_var (pv 1)) pam_nil))) (pssx_lift psm_nil))))))))))))))))
theorem ok__law_raise (G : Gs K mg) (FD : AllD K fds) : FnG P w K mg base (L2N.CX P w) (k + 1 + 1) (He.ga K "_law_raise") (fds 3) p__law_raise (spX K 3 (runX (m__law_raise (gR0 (CsK K)) (CsK K)) N__law_raise.length)) := by
  refine FunDG.okX (FD 3 d__law_raise rfl) sc__law_raise rfl fun cdv A outer s H E hgd hr0 tk => ?_
  have hr : Room (k + 1) (A.deeper (envOfC "_law_raise" (defScope s__law_raise) s.heap.objs.size (He.ga K "_law_raise") cdv)) := hr0
  have F0 : DefA K mg "_law_raise_first" _ _ p__law_raise_first ∧ FnG P w K mg base (L2N.CX P w) (k + 1) _ _ p__law_raise_first (spX K 3 (gR0 (CsK K))) := ⟨a__law_raise_first G FD, ok__law_raise_first (k := k) G FD⟩
  have hu5 : (A.deeper (envOfC "_law_raise" (defScope s__law_raise) s.heap.objs.size (He.ga K "_law_raise") cdv)).units + 65 < cLine := by have := hr.un; omega
  have hu : (A.deeper (envOfC "_law_raise" (defScope s__law_raise) s.heap.objs.size (He.ga K "_law_raise") cdv)).units + 64 < cLine := by have := hr.un; omega
  have hu1 : (A.deeper (envOfC "_law_raise" (defScope s__law_raise) s.heap.objs.size (He.ga K "_law_raise") cdv)).units + 1 < cLine := by have := hr.un; omega
  have B := G.bl
  have NS := G.ns
  exact (psx_cons (psx_expr (pmx_call tk F0.2 hgd hr rfl F0.1.gl F0.1.kp F0.1.bd (pam_cons (pm_var (pv 0)) (pam_cons (pm_var (pv 1)) (pam_cons (pm_var (pv 2)) pam_nil))) (len_cons (len_cons (len_cons len_nil)))))
      (psx_cons (psx_if (ptm_eq hu (pm_var (pv 0)) pm_int) (psx_one (psx_raise0 rfl tk (own_Unlike G) hr)) (pssx_lift psm_nil))
      (psx_cons (psx_if (ptm_eq hu (pm_var (pv 0)) pm_int) (psx_one (psx_raise0 rfl tk (own_NoLags G) hr)) (pssx_lift psm_nil))
      (psx_cons (psx_if (ptm_eq hu (pm_var (pv 0)) pm_int) (psx_one (psx_raise rfl tk (own_TooMany G) rfl hr (pam_cons (pm_var (pv 1)) pam_nil))) (pssx_lift psm_nil))
      (psx_cons (psx_if (ptm_eq hu (pm_var (pv 0)) pm_int) (psx_one (psx_raise rfl tk (own_Parted G) rfl hr (pam_cons (pm_var (pv 1)) (pam_cons (pm_var (pv 2)) pam_nil)))) (pssx_lift psm_nil))
      (psx_cons (psx_if (ptm_eq hu (pm_var (pv 0)) pm_int) (psx_one (psx_raise rfl tk (own_NoPair G) rfl hr (pam_cons (pm_var (pv 1)) pam_nil))) (pssx_lift psm_nil))
      (psx_cons (psx_if (ptm_eq hu (pm_var (pv 0)) pm_int) (psx_one (psx_raise0 rfl tk (own_BadDeeds G) hr)) (pssx_lift psm_nil))
      (psx_cons (psx_if (ptm_eq hu (pm_var (pv 0)) pm_int) (psx_one (psx_raise rfl tk (own_BadStep G) rfl hr (pam_cons (pm_var (pv 1)) pam_nil))) (pssx_lift psm_nil))
      (psx_cons (psx_if (ptm_eq hu (pm_var (pv 0)) pm_int) (psx_one (psx_raise0 rfl tk (own_NoDeed G) hr)) (pssx_lift psm_nil))
      (psx_cons (psx_if (ptm_eq hu (pm_var (pv 0)) pm_int) (psx_one (psx_raise rfl tk (own_Refused G) rfl hr (pam_cons (pm_var (pv 1)) pam_nil))) (pssx_lift psm_nil))
      (psx_cons (psx_if (ptm_eq hu (pm_var (pv 0)) pm_int) (psx_one (psx_raise0 rfl tk (own_Nothing G) hr)) (pssx_lift psm_nil))
      (psx_cons (psx_if (ptm_eq hu (pm_var (pv 0)) pm_int) (psx_one (psx_raise rfl tk (own_NoEntry G) rfl hr (pam_cons (pm_var (pv 1)) pam_nil))) (pssx_lift psm_nil))
      (psx_cons (psx_if (ptm_eq hu (pm_var (pv 0)) pm_int) (psx_one (psx_raise0 rfl tk (own_NoText G) hr)) (pssx_lift psm_nil))
      (psx_one (psx_if (ptm_eq hu (pm_var (pv 0)) pm_int) (psx_one (psx_raise0 rfl tk (own_NoCommand G) hr)) (pssx_lift psm_nil))))))))))))))))
theorem ok__law_classes (G : Gs K mg) (FD : AllD K fds) {kk : Nat} (hkk : kk < 27) : FnP P w K mg base CX0 (k + 1) (He.ga K "_law_classes") (fds 4) p__law_classes (spP K p__law_classes.length (CsK K kk) fun a d => runBody (m__law_classes kk a d) N__law_classes.length) := by
  refine FunDG.okP (FD 4 d__law_classes rfl) sc__law_classes rfl fun cdv p A outer s H E d hr0 Z => ?_
  have hr : L2H.RoomH k (A.deeper (envOfC "_law_classes" (defScope s__law_classes) s.heap.objs.size (He.ga K "_law_classes") cdv)) := hr0
  have hu5 : (A.deeper (envOfC "_law_classes" (defScope s__law_classes) s.heap.objs.size (He.ga K "_law_classes") cdv)).units + 65 < cLine := by have := hr.un; omega
  have hu : (A.deeper (envOfC "_law_classes" (defScope s__law_classes) s.heap.objs.size (He.ga K "_law_classes") cdv)).units + 64 < cLine := by have := hr.un; omega
  have hu1 : (A.deeper (envOfC "_law_classes" (defScope s__law_classes) s.heap.objs.size (He.ga K "_law_classes") cdv)).units + 1 < cLine := by have := hr.un; omega
  have B := G.bl
  have NS := G.ns
  exact (psm_cons (psm_set (ps_set (i := 1) sc__law_classes.nd rfl (Or.inl rfl) (pm_lst (pam_cons (pm_isPC (C := CsK K 0) B (G.er kk hkk).ec Z (kitB_ok G.kit kk 0 hkk (by decide)) (G.er 0 (by decide)).gc (pm_var (pv 0))) (pam_cons (pm_isPC (C := CsK K 1) B (G.er kk hkk).ec Z (kitB_ok G.kit kk 1 hkk (by decide)) (G.er 1 (by decide)).gc (pm_var (pv 0))) (pam_cons (pm_isPC (C := CsK K 2) B (G.er kk hkk).ec Z (kitB_ok G.kit kk 2 hkk (by decide)) (G.er 2 (by decide)).gc (pm_var (pv 0))) (pam_cons (pm_isPC (C := CsK K 3) B (G.er kk hkk).ec Z (kitB_ok G.kit kk 3 hkk (by decide)) (G.er 3 (by decide)).gc (pm_var (pv 0))) pam_nil)))))))
      (psm_cons (psm_set (ps_set (i := 1) sc__law_classes.nd rfl (Or.inl rfl) (pm_add (pm_var (pv 1)) (pm_lst (pam_cons (pm_isPC (C := CsK K 4) B (G.er kk hkk).ec Z (kitB_ok G.kit kk 4 hkk (by decide)) (G.er 4 (by decide)).gc (pm_var (pv 0))) (pam_cons (pm_isPC (C := CsK K 5) B (G.er kk hkk).ec Z (kitB_ok G.kit kk 5 hkk (by decide)) (G.er 5 (by decide)).gc (pm_var (pv 0))) (pam_cons (pm_isPC (C := CsK K 6) B (G.er kk hkk).ec Z (kitB_ok G.kit kk 6 hkk (by decide)) (G.er 6 (by decide)).gc (pm_var (pv 0))) (pam_cons (pm_isPC (C := CsK K 7) B (G.er kk hkk).ec Z (kitB_ok G.kit kk 7 hkk (by decide)) (G.er 7 (by decide)).gc (pm_var (pv 0))) pam_nil))))))))
      (psm_cons (psm_set (ps_set (i := 1) sc__law_classes.nd rfl (Or.inl rfl) (pm_add (pm_var (pv 1)) (pm_lst (pam_cons (pm_isPC (C := CsK K 8) B (G.er kk hkk).ec Z (kitB_ok G.kit kk 8 hkk (by decide)) (G.er 8 (by decide)).gc (pm_var (pv 0))) (pam_cons (pm_isPC (C := CsK K 9) B (G.er kk hkk).ec Z (kitB_ok G.kit kk 9 hkk (by decide)) (G.er 9 (by decide)).gc (pm_var (pv 0))) (pam_cons (pm_isPC (C := CsK K 10) B (G.er kk hkk).ec Z (kitB_ok G.kit kk 10 hkk (by decide)) (G.er 10 (by decide)).gc (pm_var (pv 0))) (pam_cons (pm_isPC (C := CsK K 11) B (G.er kk hkk).ec Z (kitB_ok G.kit kk 11 hkk (by decide)) (G.er 11 (by decide)).gc (pm_var (pv 0))) pam_nil))))))))
      (psm_cons (psm_set (ps_set (i := 1) sc__law_classes.nd rfl (Or.inl rfl) (pm_add (pm_var (pv 1)) (pm_lst (pam_cons (pm_isPC (C := CsK K 12) B (G.er kk hkk).ec Z (kitB_ok G.kit kk 12 hkk (by decide)) (G.er 12 (by decide)).gc (pm_var (pv 0))) (pam_cons (pm_isPC (C := CsK K 13) B (G.er kk hkk).ec Z (kitB_ok G.kit kk 13 hkk (by decide)) (G.er 13 (by decide)).gc (pm_var (pv 0))) (pam_cons (pm_isPC (C := CsK K 14) B (G.er kk hkk).ec Z (kitB_ok G.kit kk 14 hkk (by decide)) (G.er 14 (by decide)).gc (pm_var (pv 0))) (pam_cons (pm_isPC (C := CsK K 15) B (G.er kk hkk).ec Z (kitB_ok G.kit kk 15 hkk (by decide)) (G.er 15 (by decide)).gc (pm_var (pv 0))) pam_nil))))))))
      (psm_cons (psm_set (ps_set (i := 1) sc__law_classes.nd rfl (Or.inl rfl) (pm_add (pm_var (pv 1)) (pm_lst (pam_cons (pm_isPC (C := CsK K 16) B (G.er kk hkk).ec Z (kitB_ok G.kit kk 16 hkk (by decide)) (G.er 16 (by decide)).gc (pm_var (pv 0))) (pam_cons (pm_isPC (C := CsK K 17) B (G.er kk hkk).ec Z (kitB_ok G.kit kk 17 hkk (by decide)) (G.er 17 (by decide)).gc (pm_var (pv 0))) (pam_cons (pm_isPC (C := CsK K 18) B (G.er kk hkk).ec Z (kitB_ok G.kit kk 18 hkk (by decide)) (G.er 18 (by decide)).gc (pm_var (pv 0))) (pam_cons (pm_isPC (C := CsK K 19) B (G.er kk hkk).ec Z (kitB_ok G.kit kk 19 hkk (by decide)) (G.er 19 (by decide)).gc (pm_var (pv 0))) pam_nil))))))))
      (psm_cons (psm_set (ps_set (i := 1) sc__law_classes.nd rfl (Or.inl rfl) (pm_add (pm_var (pv 1)) (pm_lst (pam_cons (pm_isPC (C := CsK K 20) B (G.er kk hkk).ec Z (kitB_ok G.kit kk 20 hkk (by decide)) (G.er 20 (by decide)).gc (pm_var (pv 0))) (pam_cons (pm_isPC (C := CsK K 21) B (G.er kk hkk).ec Z (kitB_ok G.kit kk 21 hkk (by decide)) (G.er 21 (by decide)).gc (pm_var (pv 0))) (pam_cons (pm_isPC (C := CsK K 22) B (G.er kk hkk).ec Z (kitB_ok G.kit kk 22 hkk (by decide)) (G.er 22 (by decide)).gc (pm_var (pv 0))) (pam_cons (pm_isPC (C := CsK K 23) B (G.er kk hkk).ec Z (kitB_ok G.kit kk 23 hkk (by decide)) (G.er 23 (by decide)).gc (pm_var (pv 0))) pam_nil))))))))
      (psm_cons (psm_set (ps_set (i := 1) sc__law_classes.nd rfl (Or.inl rfl) (pm_add (pm_var (pv 1)) (pm_lst (pam_cons (pm_isPC (C := CsK K 24) B (G.er kk hkk).ec Z (kitB_ok G.kit kk 24 hkk (by decide)) (G.er 24 (by decide)).gc (pm_var (pv 0))) (pam_cons (pm_isPC (C := CsK K 25) B (G.er kk hkk).ec Z (kitB_ok G.kit kk 25 hkk (by decide)) (G.er 25 (by decide)).gc (pm_var (pv 0))) (pam_cons (pm_isPC (C := CsK K 26) B (G.er kk hkk).ec Z (kitB_ok G.kit kk 26 hkk (by decide)) (G.er 26 (by decide)).gc (pm_var (pv 0))) pam_nil)))))))
      (psm_one (psm_ret (pm_add (pm_var (pv 1)) (pm_lst (pam_cons (pm_isPC (C := He.ga K "MoveError") B (G.er kk hkk).ec Z (G.er kk hkk).mv G.gme (pm_var (pv 0))) (pam_cons (pm_isPT (T := "ValueError") B (G.er kk hkk).ec Z (G.er kk hkk).ve (G.fr _ (by decide)) (by decide +kernel) (pm_var (pv 0))) (pam_cons (pm_isPT (T := "LookupError") B (G.er kk hkk).ec Z (G.er kk hkk).le (G.fr _ (by decide)) (by decide +kernel) (pm_var (pv 0))) pam_nil))))))))))))))
theorem ok__law_fields (G : Gs K mg) (FD : AllD K fds) {kk : Nat} (hkk : kk < 27) : FnP P w K mg base CX0 (k + 1) (He.ga K "_law_fields") (fds 5) p__law_fields (spP K p__law_fields.length (CsK K kk) fun a d => runBody (m__law_fields kk a d) N__law_fields.length) := by
  refine FunDG.okP (FD 5 d__law_fields rfl) sc__law_fields rfl fun cdv p A outer s H E d hr0 Z => ?_
  have hr : L2H.RoomH k (A.deeper (envOfC "_law_fields" (defScope s__law_fields) s.heap.objs.size (He.ga K "_law_fields") cdv)) := hr0
  have hu5 : (A.deeper (envOfC "_law_fields" (defScope s__law_fields) s.heap.objs.size (He.ga K "_law_fields") cdv)).units + 65 < cLine := by have := hr.un; omega
  have hu : (A.deeper (envOfC "_law_fields" (defScope s__law_fields) s.heap.objs.size (He.ga K "_law_fields") cdv)).units + 64 < cLine := by have := hr.un; omega
  have hu1 : (A.deeper (envOfC "_law_fields" (defScope s__law_fields) s.heap.objs.size (He.ga K "_law_fields") cdv)).units + 1 < cLine := by have := hr.un; omega
  have B := G.bl
  have NS := G.ns
  exact (psm_cons (psm_if (ptm_in (pm_var (pv 0)) (pm_tup (pam_cons pm_int pam_nil))) (psm_one (psm_ret (pm_lst (pam_cons (pm_xf (xfC_of (G.er kk hkk).T) Z ((G.er kk hkk).no _ (by decide)) (pm_var (pv 1))) pam_nil)))) psm_nil)
      (psm_cons (psm_if (ptm_in (pm_var (pv 0)) (pm_tup (pam_cons pm_int (pam_cons pm_int pam_nil)))) (psm_one (psm_ret (pm_lst (pam_cons (pm_xf (xfC_of (G.er kk hkk).T) Z ((G.er kk hkk).no _ (by decide)) (pm_var (pv 1))) pam_nil)))) psm_nil)
      (psm_cons (psm_if (ptm_in (pm_var (pv 0)) (pm_tup (pam_cons pm_int (pam_cons pm_int pam_nil)))) (psm_one (psm_ret (pm_lst (pam_cons (pm_xf (xfC_of (G.er kk hkk).T) Z ((G.er kk hkk).no _ (by decide)) (pm_var (pv 1))) pam_nil)))) psm_nil)
      (psm_cons (psm_if (ptm_in (pm_var (pv 0)) (pm_tup (pam_cons pm_int (pam_cons pm_int (pam_cons pm_int pam_nil))))) (psm_one (psm_ret (pm_lst (pam_cons (pm_xf (xfC_of (G.er kk hkk).T) Z ((G.er kk hkk).no _ (by decide)) (pm_var (pv 1))) pam_nil)))) psm_nil)
      (psm_cons (psm_if (ptm_in (pm_var (pv 0)) (pm_tup (pam_cons pm_int pam_nil))) (psm_one (psm_ret (pm_lst (pam_cons (pm_xf (xfC_of (G.er kk hkk).T) Z ((G.er kk hkk).no _ (by decide)) (pm_var (pv 1))) (pam_cons (pm_xf (xfC_of (G.er kk hkk).T) Z ((G.er kk hkk).no _ (by decide)) (pm_var (pv 1))) pam_nil))))) psm_nil)
      (psm_cons (psm_if (ptm_in (pm_var (pv 0)) (pm_tup (pam_cons pm_int (pam_cons pm_int pam_nil)))) (psm_one (psm_ret (pm_lst (pam_cons (pm_xf (xfC_of (G.er kk hkk).T) Z ((G.er kk hkk).no _ (by decide)) (pm_var (pv 1))) pam_nil)))) psm_nil)
      (psm_cons (psm_if (ptm_in (pm_var (pv 0)) (pm_tup (pam_cons pm_int (pam_cons pm_int pam_nil)))) (psm_one (psm_ret (pm_lst (pam_cons (pm_xf (xfC_of (G.er kk hkk).T) Z ((G.er kk hkk).no _ (by decide)) (pm_var (pv 1))) pam_nil)))) psm_nil)
      (psm_cons (psm_if (ptm_in (pm_var (pv 0)) (pm_tup (pam_cons pm_int pam_nil))) (psm_one (psm_ret (pm_lst (pam_cons (pm_xf (xfC_of (G.er kk hkk).T) Z ((G.er kk hkk).no _ (by decide)) (pm_var (pv 1))) pam_nil)))) psm_nil)
      (psm_cons (psm_if (ptm_in (pm_var (pv 0)) (pm_tup (pam_cons pm_int pam_nil))) (psm_one (psm_ret (pm_lst (pam_cons (pm_xf (xfC_of (G.er kk hkk).T) Z ((G.er kk hkk).no _ (by decide)) (pm_var (pv 1))) pam_nil)))) psm_nil)
      (psm_cons (psm_if (ptm_in (pm_var (pv 0)) (pm_tup (pam_cons pm_int pam_nil))) (psm_one (psm_ret (pm_lst (pam_cons (pm_xf (xfC_of (G.er kk hkk).T) Z ((G.er kk hkk).no _ (by decide)) (pm_var (pv 1))) (pam_cons (pm_xf (xfC_of (G.er kk hkk).T) Z ((G.er kk hkk).no _ (by decide)) (pm_var (pv 1))) pam_nil))))) psm_nil)
      (psm_cons (psm_if (ptm_in (pm_var (pv 0)) (pm_tup (pam_cons pm_int pam_nil))) (psm_one (psm_ret (pm_lst (pam_cons (pm_xf (xfC_of (G.er kk hkk).T) Z ((G.er kk hkk).no _ (by decide)) (pm_var (pv 1))) pam_nil)))) psm_nil)
      (psm_cons (psm_if (ptm_in (pm_var (pv 0)) (pm_tup (pam_cons pm_int pam_nil))) (psm_one (psm_ret (pm_lst (pam_cons (pm_xf (xfC_of (G.er kk hkk).T) Z ((G.er kk hkk).no _ (by decide)) (pm_var (pv 1))) pam_nil)))) psm_nil)
      (psm_cons (psm_if (ptm_in (pm_var (pv 0)) (pm_tup (pam_cons pm_int pam_nil))) (psm_one (psm_ret (pm_lst (pam_cons (pm_xf (xfC_of (G.er kk hkk).T) Z ((G.er kk hkk).no _ (by decide)) (pm_var (pv 1))) pam_nil)))) psm_nil)
      (psm_cons (psm_if (ptm_in (pm_var (pv 0)) (pm_tup (pam_cons pm_int pam_nil))) (psm_one (psm_ret (pm_lst (pam_cons (pm_xf (xfC_of (G.er kk hkk).T) Z ((G.er kk hkk).no _ (by decide)) (pm_var (pv 1))) pam_nil)))) psm_nil)
      (psm_one (psm_ret (pm_lst pam_nil)))))))))))))))))
theorem ok__law_bag (G : Gs K mg) (FD : AllD K fds) {T : Nat → Fn} {TT : Int → Nat → Nat → MS → Option MS} (Fs : Fns w K mg base fds k T TT) : FnG P w K mg base CX0 (2 * k + 1 + 1) (He.ga K "_law_bag") (fds 6) p__law_bag (spM K p__law_bag.length (runBody (m__law_bag T TT (He.ga K "Fans") (He.ga K "Program")) N__law_bag.length)) := by
  refine FunDG.ok (FD 6 d__law_bag rfl) sc__law_bag rfl fun cdv A outer s H E hgd hr1 => ?_
  have hr : Room (2 * k) (A.deeper (envOfC "_law_bag" (defScope s__law_bag) s.heap.objs.size (He.ga K "_law_bag") cdv)) := hr1.mono (by omega)
  have hu5 : (A.deeper (envOfC "_law_bag" (defScope s__law_bag) s.heap.objs.size (He.ga K "_law_bag") cdv)).units + 65 < cLine := by have := hr.un; omega
  have hu : (A.deeper (envOfC "_law_bag" (defScope s__law_bag) s.heap.objs.size (He.ga K "_law_bag") cdv)).units + 64 < cLine := by have := hr.un; omega
  have hu1 : (A.deeper (envOfC "_law_bag" (defScope s__law_bag) s.heap.objs.size (He.ga K "_law_bag") cdv)).units + 1 < cLine := by have := hr.un; omega
  have B := G.bl
  have NS := G.ns
  exact (psm_one (psm_ret (pm_lst (pam_cons pm_int (pam_cons pm_int (pam_cons pm_int (pam_cons (pm_comp (own := [("_law_cell", 1)]) rfl sc__law_bag.nd (pim_seq (pm_slice (pm_var (pv 0)) pom_none (pom_some pm_int))) (blkOk_by (N := N__law_bag) (sc := defScope s__law_bag) (own := [("_law_cell", 1)]) (by decide +kernel)) (by decide) (fun _ _ _ _ _ => (pgm_name (pg_name (i := 1) sc__law_bag.nd rfl (Or.inl rfl)))) (fun _ _ _ _ _ => ptsm_nil) (fun _ _ _ _ _ => (pm_abs B (pam_cons (pm_var (pv 1)) pam_nil)))) pam_nil)))))))
theorem ok__law_take (G : Gs K mg) (FD : AllD K fds) {T : Nat → Fn} {TT : Int → Nat → Nat → MS → Option MS} (Fs : Fns w K mg base fds k T TT) : FnG P w K mg base CX0 (2 * k + 1 + 1) (He.ga K "_law_take") (fds 7) p__law_take (spM K p__law_take.length (runBody (m__law_take T TT (He.ga K "Fans") (He.ga K "Program")) N__law_take.length)) := by
  refine FunDG.ok (FD 7 d__law_take rfl) sc__law_take rfl fun cdv A outer s H E hgd hr1 => ?_
  have hr : Room (2 * k) (A.deeper (envOfC "_law_take" (defScope s__law_take) s.heap.objs.size (He.ga K "_law_take") cdv)) := hr1.mono (by omega)
  have hu5 : (A.deeper (envOfC "_law_take" (defScope s__law_take) s.heap.objs.size (He.ga K "_law_take") cdv)).units + 65 < cLine := by have := hr.un; omega
  have hu : (A.deeper (envOfC "_law_take" (defScope s__law_take) s.heap.objs.size (He.ga K "_law_take") cdv)).units + 64 < cLine := by have := hr.un; omega
  have hu1 : (A.deeper (envOfC "_law_take" (defScope s__law_take) s.heap.objs.size (He.ga K "_law_take") cdv)).units + 1 < cLine := by have := hr.un; omega
  have B := G.bl
  have NS := G.ns
  exact (psm_cons (psm_if (ptm_eq hu (pm_sub_ix (pm_var (pv 0)) pm_int) pm_int) (psm_cons (psm_set (ps_set (i := 2) sc__law_take.nd rfl (Or.inl rfl) (pm_sub_ix (pm_add (pm_slice (pm_sub_ix (pm_var (pv 0)) pm_int) (pom_some (pm_sub_ix (pm_var (pv 0)) pm_int)) pom_none) (pm_lst (pam_cons pm_int pam_nil))) pm_int)))
      (psm_cons (psm_augPut ip_add (pm_var (pv 0)) pm_int pm_int)
      (psm_cons (psm_put (pm_mul (pm_var (pv 2)) (pm_toint B (pam_cons (pm_ge (pm_var (pv 2)) (pm_pow pm_int pm_int)) pam_nil))) (pm_var (pv 0)) pm_int)
      (psm_cons (psm_set (ps_set (i := 3) sc__law_take.nd rfl (Or.inl rfl) (pm_add (pm_add (pm_mul (pm_sub_ix (pm_var (pv 0)) pm_int) pm_int) (pm_mod (pm_toint B (pam_cons (pm_var (pv 2)) pam_nil)) pm_int)) (pm_mul pm_int (pm_sub_ix (pm_var (pv 0)) pm_int)))))
      (psm_one (psm_put (pm_mod (pm_toint B (pam_cons (pm_var (pv 3)) pam_nil)) pm_int) (pm_var (pv 0)) pm_int)))))) psm_nil)
      (psm_cons (psm_if (ptm_gt (pm_sub_ix (pm_var (pv 0)) pm_int) pm_int) (psm_cons (psm_namePut (j := 4) rfl (pm_tup (pam_cons (pm_mod (pm_toint B (pam_cons (pm_sub_ix (pm_var (pv 0)) pm_int) pam_nil)) (pm_var (pv 1))) (pam_cons (pm_fdiv (pm_toint B (pam_cons (pm_sub_ix (pm_var (pv 0)) pm_int) pam_nil)) (pm_var (pv 1))) pam_nil))) (pg_name (i := 4) sc__law_take.nd rfl (Or.inl rfl)) (pm_var (pv 0)) pm_int)
      (psm_one (psm_ret (pm_var (pv 4))))) psm_nil)
      (psm_cons (psm_set (ps_set (i := 5) sc__law_take.nd rfl (Or.inl rfl) (pm_mod (pm_toint B (pam_cons (pm_mul (pm_add (pm_sub_ix (pm_var (pv 0)) pm_int) pm_int) pm_int) pam_nil)) pm_int)))
      (psm_cons (psm_set (ps_set (i := 6) sc__law_take.nd rfl (Or.inl rfl) (pm_mod (pm_toint B (pam_cons (pm_mul (pm_mod (pm_toint B (pam_cons (pm_mul (pm_var (pv 5)) (pm_var (pv 5))) pam_nil)) pm_int) pm_int) pam_nil)) pm_int)))
      (psm_one (psm_ret (pm_mod (pm_toint B (pam_cons (pm_fdiv (pm_var (pv 6)) pm_int) pam_nil)) (pm_var (pv 1)))))))))
theorem ok__law_value (G : Gs K mg) (FD : AllD K fds) {T : Nat → Fn} {TT : Int → Nat → Nat → MS → Option MS} (Fs : Fns w K mg base fds k T TT) : FnG P w K mg base CX0 (2 * k + 1 + 1) (He.ga K "_law_value") (fds 8) p__law_value (spM K p__law_value.length (runBody (m__law_value T TT (He.ga K "Fans") (He.ga K "Program")) N__law_value.length)) := by
  refine FunDG.ok (FD 8 d__law_value rfl) sc__law_value rfl fun cdv A outer s H E hgd hr1 => ?_
  have hr : Room (2 * k) (A.deeper (envOfC "_law_value" (defScope s__law_value) s.heap.objs.size (He.ga K "_law_value") cdv)) := hr1.mono (by omega)
  have hu5 : (A.deeper (envOfC "_law_value" (defScope s__law_value) s.heap.objs.size (He.ga K "_law_value") cdv)).units + 65 < cLine := by have := hr.un; omega
  have hu : (A.deeper (envOfC "_law_value" (defScope s__law_value) s.heap.objs.size (He.ga K "_law_value") cdv)).units + 64 < cLine := by have := hr.un; omega
  have hu1 : (A.deeper (envOfC "_law_value" (defScope s__law_value) s.heap.objs.size (He.ga K "_law_value") cdv)).units + 1 < cLine := by have := hr.un; omega
  have B := G.bl
  have NS := G.ns
  exact (psm_cons (psm_set (ps_set (i := 1) sc__law_value.nd rfl (Or.inl rfl) (pm_def Fs.d__law_take hgd hr (pam_cons (pm_var (pv 0)) (pam_cons pm_int pam_nil)) (len_cons (len_cons len_nil)))))
      (psm_cons (psm_if (ptm_eq hu (pm_var (pv 1)) pm_int) (psm_one (psm_ret (pm_make Fs.k_Program hgd hr1 (pam_cons (pm_lst (pam_cons pm_str pam_nil)) (pam_cons (pm_lst pam_nil) pam_nil)) (fun ρ M ss M' h => congrArg (· + 1) ((len_cons (len_cons len_nil)) ρ M ss M' h))))) psm_nil)
      (psm_one (psm_ret (pm_if (ptm_eq hu (pm_var (pv 1)) pm_int) (pm_excV (nm := "NoGap") (C := CsK K 8) (names := ["gap"]) (own_NoGap (w := w) G) hr (pam_cons (pm_tup (pam_cons pm_int pam_nil)) pam_nil)) (pm_def Fs.d__law_odd hgd hr (pam_cons (pm_var (pv 0)) (pam_cons pm_str pam_nil)) (len_cons (len_cons len_nil))))))))
theorem ok__law_alike (G : Gs K mg) (FD : AllD K fds) {T : Nat → Fn} {TT : Int → Nat → Nat → MS → Option MS} (Fs : Fns w K mg base fds k T TT) : FnG P w K mg base CX0 (2 * k + 1 + 1) (He.ga K "_law_alike") (fds 9) p__law_alike (spM K p__law_alike.length (runBody (m__law_alike T TT (He.ga K "Fans") (He.ga K "Program")) N__law_alike.length)) := by
  refine FunDG.ok (FD 9 d__law_alike rfl) sc__law_alike rfl fun cdv A outer s H E hgd hr1 => ?_
  have hr : Room (2 * k) (A.deeper (envOfC "_law_alike" (defScope s__law_alike) s.heap.objs.size (He.ga K "_law_alike") cdv)) := hr1.mono (by omega)
  have hu5 : (A.deeper (envOfC "_law_alike" (defScope s__law_alike) s.heap.objs.size (He.ga K "_law_alike") cdv)).units + 65 < cLine := by have := hr.un; omega
  have hu : (A.deeper (envOfC "_law_alike" (defScope s__law_alike) s.heap.objs.size (He.ga K "_law_alike") cdv)).units + 64 < cLine := by have := hr.un; omega
  have hu1 : (A.deeper (envOfC "_law_alike" (defScope s__law_alike) s.heap.objs.size (He.ga K "_law_alike") cdv)).units + 1 < cLine := by have := hr.un; omega
  have B := G.bl
  have NS := G.ns
  exact (psm_one (psm_ret (pm_and (pm_eq hu (pm_var (pv 0)) (pm_var (pv 1))) (pm_one (pm_eq hu (pm_repr B NS hgd hu (pam_cons (pm_var (pv 0)) pam_nil)) (pm_repr B NS hgd hu (pam_cons (pm_var (pv 1)) pam_nil)))))))
theorem ok_Program___init__ (G : Gs K mg) (FD : AllD K fds) {T : Nat → Fn} {TT : Int → Nat → Nat → MS → Option MS} (Fs : Fns w K mg base fds k T TT) : FnG P w K mg base CX0 (2 * k + 1 + 1) (He.ma K (He.ga K "Program") "__init__") (fds 10) p_Program___init__ (spM K p_Program___init__.length (runBody (m_Program___init__ T TT (He.ga K "Fans") (He.ga K "Program")) N_Program___init__.length)) := by
  refine FunDG.ok (FD 10 d_Program___init__ rfl) sc_Program___init__ rfl fun cdv A outer s H E hgd hr1 => ?_
  have hr : Room (2 * k) (A.deeper (envOfC "Program.__init__" (defScope s_Program___init__) s.heap.objs.size (He.ma K (He.ga K "Program") "__init__") cdv)) := hr1.mono (by omega)
  have hu5 : (A.deeper (envOfC "Program.__init__" (defScope s_Program___init__) s.heap.objs.size (He.ma K (He.ga K "Program") "__init__") cdv)).units + 65 < cLine := by have := hr.un; omega
  have hu : (A.deeper (envOfC "Program.__init__" (defScope s_Program___init__) s.heap.objs.size (He.ma K (He.ga K "Program") "__init__") cdv)).units + 64 < cLine := by have := hr.un; omega
  have hu1 : (A.deeper (envOfC "Program.__init__" (defScope s_Program___init__) s.heap.objs.size (He.ma K (He.ga K "Program") "__init__") cdv)).units + 1 < cLine := by have := hr.un; omega
  have B := G.bl
  have NS := G.ns
  exact (psm_cons (psm_if (ptm_not (ptm_val (pm_def Fs.d_are_inputs hgd hr (pam_cons (pm_var (pv 1)) pam_nil) (len_cons len_nil)))) (psm_one psm_no) psm_nil)
      (psm_cons (psm_if (ptm_not (ptm_val (pm_def Fs.d_are_rows hgd hr (pam_cons (pm_var (pv 2)) pam_nil) (len_cons len_nil)))) (psm_one psm_no) psm_nil)
      (psm_cons (psm_if (ptm_gt (pm_def Fs.d_count hgd hr (pam_cons (pm_var (pv 2)) pam_nil) (len_cons len_nil)) (pm_gint G.c_MOST_ROWS)) (psm_one psm_no) psm_nil)
      (psm_cons (psm_if (ptm_gt (pm_def Fs.d_depth hgd hr (pam_cons (pm_var (pv 2)) pam_nil) (len_cons len_nil)) (pm_gint G.c_MOST_DEEP)) (psm_one psm_no) psm_nil)
      (psm_cons (psm_fldPut G.cl_Program G.na_Program_kept_inputs (pm_var (pv 0)) (pm_totuple B (pam_cons (pm_sortedD B hu (pam_cons (pm_var (pv 1)) pam_nil)) pam_nil)))
      (psm_cons (psm_fldPut G.cl_Program G.na_Program_kept_rows (pm_var (pv 0)) (pm_totuple B (pam_cons (pm_comp (own := [("row", 3)]) rfl sc_Program___init__.nd (pim_seq (pm_var (pv 2))) (blkOk_by (N := N_Program___init__) (sc := defScope s_Program___init__) (own := [("row", 3)]) (by decide +kernel)) (by decide) (fun _ _ _ _ _ => (pgm_name (pg_name (i := 3) sc_Program___init__.nd rfl (Or.inl rfl)))) (fun _ _ _ _ _ => ptsm_nil) (fun _ _ _ _ _ => pm_no)) pam_nil)))
      (psm_cons (psm_fldPut G.cl_Program G.na_Program_kept_at (pm_var (pv 0)) (pm_dictP B rfl (pam_cons (pm_def Fs.d_walked hgd hr (pam_cons (pm_fld G.cl_Program G.na_Program_kept_rows (pm_var (pv 0))) (pam_cons (pm_tup pam_nil) pam_nil)) (len_cons (len_cons len_nil))) pam_nil)))
      (psm_cons (psm_flds rfl (pm_tup (pam_cons pm_dict0 (pam_cons pm_dict0 (pam_cons (pm_lst pam_nil) pam_nil)))) (pfs_cons G.cl_Program G.na_Program_kept_makers (pm_var (pv 0)) (pfs_cons G.cl_Program G.na_Program_kept_ways (pm_var (pv 0)) (pfs_cons G.cl_Program G.na_Program_kept_forks (pm_var (pv 0)) pfs_nil))))
      (psm_cons (psm_expr (pm_meth0 Fs.m_Program_need_leaves rfl hgd hr (pm_var (pv 0))))
      (psm_cons (psm_expr (pm_meth0 Fs.m_Program_need_names rfl hgd hr (pm_var (pv 0))))
      (psm_cons (psm_expr (pm_meth0 Fs.m_Program_need_sight rfl hgd hr (pm_var (pv 0))))
      (psm_one (psm_expr (pm_meth0 Fs.m_Program_need_trees rfl hgd hr (pm_var (pv 0))))))))))))))))
theorem ok__law_odd (G : Gs K mg) (FD : AllD K fds) {T : Nat → Fn} {TT : Int → Nat → Nat → MS → Option MS} (Fs : Fns w K mg base fds k T TT) : FnG P w K mg base CX0 (2 * k + 1 + 1) (He.ga K "_law_odd") (fds 11) p__law_odd (spM K p__law_odd.length (runBody (m__law_odd T TT (He.ga K "Fans") (He.ga K "Program")) N__law_odd.length)) := by
  refine FunDG.ok (FD 11 d__law_odd rfl) sc__law_odd rfl fun cdv A outer s H E hgd hr1 => ?_
  have hr : Room (2 * k) (A.deeper (envOfC "_law_odd" (defScope s__law_odd) s.heap.objs.size (He.ga K "_law_odd") cdv)) := hr1.mono (by omega)
  have hu5 : (A.deeper (envOfC "_law_odd" (defScope s__law_odd) s.heap.objs.size (He.ga K "_law_odd") cdv)).units + 65 < cLine := by have := hr.un; omega
  have hu : (A.deeper (envOfC "_law_odd" (defScope s__law_odd) s.heap.objs.size (He.ga K "_law_odd") cdv)).units + 64 < cLine := by have := hr.un; omega
  have hu1 : (A.deeper (envOfC "_law_odd" (defScope s__law_odd) s.heap.objs.size (He.ga K "_law_odd") cdv)).units + 1 < cLine := by have := hr.un; omega
  have B := G.bl
  have NS := G.ns
  exact (psm_cons (psm_set (ps_set (i := 2) sc__law_odd.nd rfl (Or.inl rfl) (pm_lst (pam_cons pm_non (pam_cons pm_bl (pam_cons pm_bl (pam_cons pm_int (pam_cons pm_int (pam_cons (pm_neg pm_int) (pam_cons (pm_pow pm_int pm_int) (pam_cons pm_str (pam_cons (pm_var (pv 1)) (pam_cons (pm_upper (pm_var (pv 1))) (pam_cons (pm_add (pm_var (pv 1)) pm_str) (pam_cons pm_str (pam_cons pm_str (pam_cons pm_str pam_nil)))))))))))))))))
      (psm_cons (psm_set (ps_set (i := 2) sc__law_odd.nd rfl (Or.inl rfl) (pm_add (pm_var (pv 2)) (pm_lst (pam_cons (pm_tup pam_nil) (pam_cons (pm_lst pam_nil) (pam_cons pm_dict0 (pam_cons (pm_tup (pam_cons (pm_var (pv 1)) pam_nil)) (pam_cons (pm_lst (pam_cons (pm_var (pv 1)) pam_nil)) (pam_cons (pm_dict1 (pm_var (pv 1)) pm_int) (pam_cons (pm_tup (pam_cons pm_int pam_nil)) (pam_cons (pm_lst (pam_cons pm_int pam_nil)) (pam_cons (pm_tup (pam_cons pm_bl pam_nil)) (pam_cons (pm_tup (pam_cons (pm_neg pm_int) pam_nil)) (pam_cons (pm_tup (pam_cons pm_int (pam_cons pm_int pam_nil))) (pam_cons pm_str (pam_cons (pm_tup (pam_cons pm_str pam_nil)) pam_nil)))))))))))))))))
      (psm_one (psm_ret (pm_sub_ix (pm_var (pv 2)) (pm_def Fs.d__law_take hgd hr (pam_cons (pm_var (pv 0)) (pam_cons (pm_len B (pam_cons (pm_var (pv 2)) pam_nil)) pam_nil)) (len_cons (len_cons len_nil))))))))
theorem ok_are_inputs (G : Gs K mg) (FD : AllD K fds) {T : Nat → Fn} {TT : Int → Nat → Nat → MS → Option MS} (Fs : Fns w K mg base fds k T TT) : FnG P w K mg base CX0 (2 * k + 1 + 1) (He.ga K "are_inputs") (fds 12) p_are_inputs (spM K p_are_inputs.length (runBody (m_are_inputs T TT (He.ga K "Fans") (He.ga K "Program")) N_are_inputs.length)) := by
  refine FunDG.ok (FD 12 d_are_inputs rfl) sc_are_inputs rfl fun cdv A outer s H E hgd hr1 => ?_
  have hr : Room (2 * k) (A.deeper (envOfC "are_inputs" (defScope s_are_inputs) s.heap.objs.size (He.ga K "are_inputs") cdv)) := hr1.mono (by omega)
  have hu5 : (A.deeper (envOfC "are_inputs" (defScope s_are_inputs) s.heap.objs.size (He.ga K "are_inputs") cdv)).units + 65 < cLine := by have := hr.un; omega
  have hu : (A.deeper (envOfC "are_inputs" (defScope s_are_inputs) s.heap.objs.size (He.ga K "are_inputs") cdv)).units + 64 < cLine := by have := hr.un; omega
  have hu1 : (A.deeper (envOfC "are_inputs" (defScope s_are_inputs) s.heap.objs.size (He.ga K "are_inputs") cdv)).units + 1 < cLine := by have := hr.un; omega
  have B := G.bl
  have NS := G.ns
  exact (psm_one (psm_ret (pm_and (pm_def Fs.d_are_names hgd hr (pam_cons (pm_var (pv 0)) (pam_cons (pm_gint G.c_MOST_INPUTS) pam_nil)) (len_cons (len_cons len_nil))) (pm_one (pm_eq hu (pm_lenSet B rfl (pm_var (pv 0))) (pm_len B (pam_cons (pm_var (pv 0)) pam_nil)))))))
theorem ok_are_rows (G : Gs K mg) (FD : AllD K fds) {T : Nat → Fn} {TT : Int → Nat → Nat → MS → Option MS} (Fs : Fns w K mg base fds k T TT) : FnG P w K mg base CX0 (2 * k + 1 + 1) (He.ga K "are_rows") (fds 13) p_are_rows (spM K p_are_rows.length (runBody (m_are_rows T TT (He.ga K "Fans") (He.ga K "Program")) N_are_rows.length)) := by
  refine FunDG.ok (FD 13 d_are_rows rfl) sc_are_rows rfl fun cdv A outer s H E hgd hr1 => ?_
  have hr : Room (2 * k) (A.deeper (envOfC "are_rows" (defScope s_are_rows) s.heap.objs.size (He.ga K "are_rows") cdv)) := hr1.mono (by omega)
  have hu5 : (A.deeper (envOfC "are_rows" (defScope s_are_rows) s.heap.objs.size (He.ga K "are_rows") cdv)).units + 65 < cLine := by have := hr.un; omega
  have hu : (A.deeper (envOfC "are_rows" (defScope s_are_rows) s.heap.objs.size (He.ga K "are_rows") cdv)).units + 64 < cLine := by have := hr.un; omega
  have hu1 : (A.deeper (envOfC "are_rows" (defScope s_are_rows) s.heap.objs.size (He.ga K "are_rows") cdv)).units + 1 < cLine := by have := hr.un; omega
  have B := G.bl
  have NS := G.ns
  exact (psm_one (psm_ret (pm_and (pm_isT2 B "list" "tuple" (by decide) (by decide +kernel) PyProof.Rows.boot_list (by decide) (by decide +kernel) PyProof.Rows.boot_tuple (pm_var (pv 0))) (pm_one (pm_all B rfl (pam_cons (pm_comp (own := [("row", 1)]) rfl sc_are_rows.nd (pim_seq (pm_var (pv 0))) (blkOk_by (N := N_are_rows) (sc := defScope s_are_rows) (own := [("row", 1)]) (by decide +kernel)) (by decide) (fun _ _ _ _ _ => (pgm_name (pg_name (i := 1) sc_are_rows.nd rfl (Or.inl rfl)))) (fun _ _ _ _ _ => ptsm_nil) (fun _ _ _ _ _ => pm_no)) pam_nil))))))
theorem ok_count (G : Gs K mg) (FD : AllD K fds) {T : Nat → Fn} {TT : Int → Nat → Nat → MS → Option MS} (Fs : Fns w K mg base fds k T TT) : FnG P w K mg base CX0 (2 * k + 1 + 1) (He.ga K "count") (fds 14) p_count (spM K p_count.length (runBody (m_count T TT (He.ga K "Fans") (He.ga K "Program")) N_count.length)) := by
  refine FunDG.ok (FD 14 d_count rfl) sc_count rfl fun cdv A outer s H E hgd hr1 => ?_
  have hr : Room (2 * k) (A.deeper (envOfC "count" (defScope s_count) s.heap.objs.size (He.ga K "count") cdv)) := hr1.mono (by omega)
  have hu5 : (A.deeper (envOfC "count" (defScope s_count) s.heap.objs.size (He.ga K "count") cdv)).units + 65 < cLine := by have := hr.un; omega
  have hu : (A.deeper (envOfC "count" (defScope s_count) s.heap.objs.size (He.ga K "count") cdv)).units + 64 < cLine := by have := hr.un; omega
  have hu1 : (A.deeper (envOfC "count" (defScope s_count) s.heap.objs.size (He.ga K "count") cdv)).units + 1 < cLine := by have := hr.un; omega
  have B := G.bl
  have NS := G.ns
  exact (psm_one (psm_ret (pm_add (pm_len B (pam_cons (pm_var (pv 0)) pam_nil)) (pm_sum B rfl (pam_cons (pm_comp20 (own := [("row", 1), ("some", 2)]) rfl sc_count.nd (pim_seq (pm_var (pv 0))) (blkOk_by (N := N_count) (sc := defScope s_count) (own := [("row", 1), ("some", 2)]) (by decide +kernel))) pam_nil)))))
theorem ok_depth (G : Gs K mg) (FD : AllD K fds) {T : Nat → Fn} {TT : Int → Nat → Nat → MS → Option MS} (Fs : Fns w K mg base fds k T TT) : FnG P w K mg base CX0 (2 * k + 1 + 1) (He.ga K "depth") (fds 15) p_depth (spM K p_depth.length (runBody (m_depth T TT (He.ga K "Fans") (He.ga K "Program")) N_depth.length)) := by
  refine FunDG.ok (FD 15 d_depth rfl) sc_depth rfl fun cdv A outer s H E hgd hr1 => ?_
  have hr : Room (2 * k) (A.deeper (envOfC "depth" (defScope s_depth) s.heap.objs.size (He.ga K "depth") cdv)) := hr1.mono (by omega)
  have hu5 : (A.deeper (envOfC "depth" (defScope s_depth) s.heap.objs.size (He.ga K "depth") cdv)).units + 65 < cLine := by have := hr.un; omega
  have hu : (A.deeper (envOfC "depth" (defScope s_depth) s.heap.objs.size (He.ga K "depth") cdv)).units + 64 < cLine := by have := hr.un; omega
  have hu1 : (A.deeper (envOfC "depth" (defScope s_depth) s.heap.objs.size (He.ga K "depth") cdv)).units + 1 < cLine := by have := hr.un; omega
  have B := G.bl
  have NS := G.ns
  exact (psm_one (psm_ret (pm_add pm_int (pm_max0 B rfl (pm_comp20 (own := [("row", 1), ("some", 2)]) rfl sc_depth.nd (pim_seq (pm_var (pv 0))) (blkOk_by (N := N_depth) (sc := defScope s_depth) (own := [("row", 1), ("some", 2)]) (by decide +kernel))) pm_int))))
theorem ok_walked (G : Gs K mg) (FD : AllD K fds) {T : Nat → Fn} {TT : Int → Nat → Nat → MS → Option MS} (Fs : Fns w K mg base fds k T TT) : FnG P w K mg base CX0 (2 * k + 1 + 1) (He.ga K "walked") (fds 16) p_walked (spM K p_walked.length (runBody (m_walked T TT (He.ga K "Fans") (He.ga K "Program")) N_walked.length)) := by
  refine FunDG.ok (FD 16 d_walked rfl) sc_walked rfl fun cdv A outer s H E hgd hr1 => ?_
  have hr : Room (2 * k) (A.deeper (envOfC "walked" (defScope s_walked) s.heap.objs.size (He.ga K "walked") cdv)) := hr1.mono (by omega)
  have hu5 : (A.deeper (envOfC "walked" (defScope s_walked) s.heap.objs.size (He.ga K "walked") cdv)).units + 65 < cLine := by have := hr.un; omega
  have hu : (A.deeper (envOfC "walked" (defScope s_walked) s.heap.objs.size (He.ga K "walked") cdv)).units + 64 < cLine := by have := hr.un; omega
  have hu1 : (A.deeper (envOfC "walked" (defScope s_walked) s.heap.objs.size (He.ga K "walked") cdv)).units + 1 < cLine := by have := hr.un; omega
  have B := G.bl
  have NS := G.ns
  exact (psm_cons (psm_new (ps_set (i := 2) sc_walked.nd rfl (Or.inl rfl) (pm_lst pam_nil)))
      (psm_cons (psm_for PassesOwn.never rfl (pim_enm B (pam_cons (pm_var (pv 0)) pam_nil)) (pgm_tup rfl (pgm_cons (pgm_name (pg_name (i := 3) sc_walked.nd rfl (Or.inl rfl))) (pgm_cons (pgm_name (pg_name (i := 4) sc_walked.nd rfl (Or.inl rfl))) pgm_nil))) pssm_no)
      (psm_one (psm_ret (pm_var (pv 2))))))
theorem ok_Program_need_leaves (G : Gs K mg) (FD : AllD K fds) {T : Nat → Fn} {TT : Int → Nat → Nat → MS → Option MS} (Fs : Fns w K mg base fds k T TT) : FnG P w K mg base CX0 (2 * k + 1 + 1) (He.ma K (He.ga K "Program") "need_leaves") (fds 17) p_Program_need_leaves (spM K p_Program_need_leaves.length (runBody (m_Program_need_leaves T TT (He.ga K "Fans") (He.ga K "Program")) N_Program_need_leaves.length)) := by
  refine FunDG.ok (FD 17 d_Program_need_leaves rfl) sc_Program_need_leaves rfl fun cdv A outer s H E hgd hr1 => ?_
  have hr : Room (2 * k) (A.deeper (envOfC "Program.need_leaves" (defScope s_Program_need_leaves) s.heap.objs.size (He.ma K (He.ga K "Program") "need_leaves") cdv)) := hr1.mono (by omega)
  have hu5 : (A.deeper (envOfC "Program.need_leaves" (defScope s_Program_need_leaves) s.heap.objs.size (He.ma K (He.ga K "Program") "need_leaves") cdv)).units + 65 < cLine := by have := hr.un; omega
  have hu : (A.deeper (envOfC "Program.need_leaves" (defScope s_Program_need_leaves) s.heap.objs.size (He.ma K (He.ga K "Program") "need_leaves") cdv)).units + 64 < cLine := by have := hr.un; omega
  have hu1 : (A.deeper (envOfC "Program.need_leaves" (defScope s_Program_need_leaves) s.heap.objs.size (He.ma K (He.ga K "Program") "need_leaves") cdv)).units + 1 < cLine := by have := hr.un; omega
  have B := G.bl
  have NS := G.ns
  exact (psm_one (psm_forFld0 PassesOwn.never rfl G.cl_Program G.na_Program_kept_at (pv 0)))
theorem ok_Program_need_names (G : Gs K mg) (FD : AllD K fds) {T : Nat → Fn} {TT : Int → Nat → Nat → MS → Option MS} (Fs : Fns w K mg base fds k T TT) : FnG P w K mg base CX0 (2 * k + 1 + 1) (He.ma K (He.ga K "Program") "need_names") (fds 18) p_Program_need_names (spM K p_Program_need_names.length (runBody (m_Program_need_names T TT (He.ga K "Fans") (He.ga K "Program")) N_Program_need_names.length)) := by
  refine FunDG.ok (FD 18 d_Program_need_names rfl) sc_Program_need_names rfl fun cdv A outer s H E hgd hr1 => ?_
  have hr : Room (2 * k) (A.deeper (envOfC "Program.need_names" (defScope s_Program_need_names) s.heap.objs.size (He.ma K (He.ga K "Program") "need_names") cdv)) := hr1.mono (by omega)
  have hu5 : (A.deeper (envOfC "Program.need_names" (defScope s_Program_need_names) s.heap.objs.size (He.ma K (He.ga K "Program") "need_names") cdv)).units + 65 < cLine := by have := hr.un; omega
  have hu : (A.deeper (envOfC "Program.need_names" (defScope s_Program_need_names) s.heap.objs.size (He.ma K (He.ga K "Program") "need_names") cdv)).units + 64 < cLine := by have := hr.un; omega
  have hu1 : (A.deeper (envOfC "Program.need_names" (defScope s_Program_need_names) s.heap.objs.size (He.ma K (He.ga K "Program") "need_names") cdv)).units + 1 < cLine := by have := hr.un; omega
  have B := G.bl
  have NS := G.ns
  exact (psm_cons (psm_new (ps_set (i := 1) sc_Program_need_names.nd rfl (Or.inl rfl) (pm_lst pam_nil)))
      (psm_cons (psm_forFld0 PassesOwn.never rfl G.cl_Program G.na_Program_kept_at (pv 0))
      (psm_one (psm_if (ptm_ne hu (pm_var (pv 1)) (pm_lst pam_nil)) (psm_one psm_no) psm_nil))))
theorem ok_Program_need_sight (G : Gs K mg) (FD : AllD K fds) {T : Nat → Fn} {TT : Int → Nat → Nat → MS → Option MS} (Fs : Fns w K mg base fds k T TT) : FnG P w K mg base CX0 (2 * k + 1 + 1) (He.ma K (He.ga K "Program") "need_sight") (fds 19) p_Program_need_sight (spM K p_Program_need_sight.length (runBody (m_Program_need_sight T TT (He.ga K "Fans") (He.ga K "Program")) N_Program_need_sight.length)) := by
  refine FunDG.ok (FD 19 d_Program_need_sight rfl) sc_Program_need_sight rfl fun cdv A outer s H E hgd hr1 => ?_
  have hr : Room (2 * k) (A.deeper (envOfC "Program.need_sight" (defScope s_Program_need_sight) s.heap.objs.size (He.ma K (He.ga K "Program") "need_sight") cdv)) := hr1.mono (by omega)
  have hu5 : (A.deeper (envOfC "Program.need_sight" (defScope s_Program_need_sight) s.heap.objs.size (He.ma K (He.ga K "Program") "need_sight") cdv)).units + 65 < cLine := by have := hr.un; omega
  have hu : (A.deeper (envOfC "Program.need_sight" (defScope s_Program_need_sight) s.heap.objs.size (He.ma K (He.ga K "Program") "need_sight") cdv)).units + 64 < cLine := by have := hr.un; omega
  have hu1 : (A.deeper (envOfC "Program.need_sight" (defScope s_Program_need_sight) s.heap.objs.size (He.ma K (He.ga K "Program") "need_sight") cdv)).units + 1 < cLine := by have := hr.un; omega
  have B := G.bl
  have NS := G.ns
  exact (psm_one (psm_forFld0 PassesOwn.never rfl G.cl_Program G.na_Program_kept_at (pv 0)))
theorem ok_Program_need_trees (G : Gs K mg) (FD : AllD K fds) {T : Nat → Fn} {TT : Int → Nat → Nat → MS → Option MS} (Fs : Fns w K mg base fds k T TT) : FnG P w K mg base CX0 (2 * k + 1 + 1) (He.ma K (He.ga K "Program") "need_trees") (fds 20) p_Program_need_trees (spM K p_Program_need_trees.length (runBody (m_Program_need_trees T TT (He.ga K "Fans") (He.ga K "Program")) N_Program_need_trees.length)) := by
  refine FunDG.ok (FD 20 d_Program_need_trees rfl) sc_Program_need_trees rfl fun cdv A outer s H E hgd hr1 => ?_
  have hr : Room (2 * k) (A.deeper (envOfC "Program.need_trees" (defScope s_Program_need_trees) s.heap.objs.size (He.ma K (He.ga K "Program") "need_trees") cdv)) := hr1.mono (by omega)
  have hu5 : (A.deeper (envOfC "Program.need_trees" (defScope s_Program_need_trees) s.heap.objs.size (He.ma K (He.ga K "Program") "need_trees") cdv)).units + 65 < cLine := by have := hr.un; omega
  have hu : (A.deeper (envOfC "Program.need_trees" (defScope s_Program_need_trees) s.heap.objs.size (He.ma K (He.ga K "Program") "need_trees") cdv)).units + 64 < cLine := by have := hr.un; omega
  have hu1 : (A.deeper (envOfC "Program.need_trees" (defScope s_Program_need_trees) s.heap.objs.size (He.ma K (He.ga K "Program") "need_trees") cdv)).units + 1 < cLine := by have := hr.un; omega
  have B := G.bl
  have NS := G.ns
  exact (psm_cons (psm_set (ps_set (i := 1) sc_Program_need_trees.nd rfl (Or.inl rfl) (pm_makeO Fs.k_Fans hgd hr1 (pam_cons (pm_fld G.cl_Program G.na_Program_kept_inputs (pm_var (pv 0))) (pam_cons (pm_fld G.cl_Program G.na_Program_kept_rows (pm_var (pv 0))) pam_nil)) (fun ρ M ss M' h => congrArg (· + 1) ((len_cons (len_cons len_nil)) ρ M ss M' h)))))
      (psm_one (psm_for PassesOwn.never rfl (pim_seq (pm_meth0 Fs.m_Program_names rfl hgd hr (pm_var (pv 0)))) (pgm_name (pg_name (i := 2) sc_Program_need_trees.nd rfl (Or.inl rfl))) pssm_no)))
theorem ok_are_names (G : Gs K mg) (FD : AllD K fds) {T : Nat → Fn} {TT : Int → Nat → Nat → MS → Option MS} (Fs : Fns w K mg base fds k T TT) : FnG P w K mg base CX0 (2 * k + 1 + 1) (He.ga K "are_names") (fds 21) p_are_names (spM K p_are_names.length (runBody (m_are_names T TT (He.ga K "Fans") (He.ga K "Program")) N_are_names.length)) := by
  refine FunDG.ok (FD 21 d_are_names rfl) sc_are_names rfl fun cdv A outer s H E hgd hr1 => ?_
  have hr : Room (2 * k) (A.deeper (envOfC "are_names" (defScope s_are_names) s.heap.objs.size (He.ga K "are_names") cdv)) := hr1.mono (by omega)
  have hu5 : (A.deeper (envOfC "are_names" (defScope s_are_names) s.heap.objs.size (He.ga K "are_names") cdv)).units + 65 < cLine := by have := hr.un; omega
  have hu : (A.deeper (envOfC "are_names" (defScope s_are_names) s.heap.objs.size (He.ga K "are_names") cdv)).units + 64 < cLine := by have := hr.un; omega
  have hu1 : (A.deeper (envOfC "are_names" (defScope s_are_names) s.heap.objs.size (He.ga K "are_names") cdv)).units + 1 < cLine := by have := hr.un; omega
  have B := G.bl
  have NS := G.ns
  exact (psm_cons (psm_if (PWm.t (pwm_or (ptm_not (ptm_val (pm_isT2 B "list" "tuple" (by decide) (by decide +kernel) PyProof.Rows.boot_list (by decide) (by decide +kernel) PyProof.Rows.boot_tuple (pm_var (pv 0))))) (pwm_or1 (ptm_gt (pm_len B (pam_cons (pm_var (pv 0)) pam_nil)) (pm_var (pv 1)))))) (psm_one (psm_ret pm_bl)) psm_nil)
      (psm_one (psm_ret (pm_all B rfl (pam_cons (pm_comp (own := [("name", 2)]) rfl sc_are_names.nd (pim_seq (pm_var (pv 0))) (blkOk_by (N := N_are_names) (sc := defScope s_are_names) (own := [("name", 2)]) (by decide +kernel)) (by decide) (fun _ _ _ _ _ => (pgm_name (pg_name (i := 2) sc_are_names.nd rfl (Or.inl rfl)))) (fun _ _ _ _ _ => ptsm_nil) (fun _ _ _ _ _ => (pm_def Fs.d_is_name hgd hr (pam_cons (pm_var (pv 2)) pam_nil) (len_cons len_nil)))) pam_nil)))))
theorem ok_Fans___init__ (G : Gs K mg) (FD : AllD K fds) {T : Nat → Fn} {TT : Int → Nat → Nat → MS → Option MS} (Fs : Fns w K mg base fds k T TT) : FnG P w K mg base CX0 (2 * k + 1 + 1) (He.ma K (He.ga K "Fans") "__init__") (fds 22) p_Fans___init__ (spU K p_Fans___init__.length (runU (m_Fans___init__ T TT (He.ga K "Fans") (He.ga K "Program")) N_Fans___init__.length)) := by
  refine FunDG.okU (FD 22 d_Fans___init__ rfl) sc_Fans___init__ rfl fun cdv A outer s H E hgd hr1 => ?_
  have hr : Room (2 * k) (A.deeper (envOfC "Fans.__init__" (defScope s_Fans___init__) s.heap.objs.size (He.ma K (He.ga K "Fans") "__init__") cdv)) := hr1.mono (by omega)
  have hu5 : (A.deeper (envOfC "Fans.__init__" (defScope s_Fans___init__) s.heap.objs.size (He.ma K (He.ga K "Fans") "__init__") cdv)).units + 65 < cLine := by have := hr.un; omega
  have hu : (A.deeper (envOfC "Fans.__init__" (defScope s_Fans___init__) s.heap.objs.size (He.ma K (He.ga K "Fans") "__init__") cdv)).units + 64 < cLine := by have := hr.un; omega
  have hu1 : (A.deeper (envOfC "Fans.__init__" (defScope s_Fans___init__) s.heap.objs.size (He.ma K (He.ga K "Fans") "__init__") cdv)).units + 1 < cLine := by have := hr.un; omega
  have B := G.bl
  have NS := G.ns
  exact (psm_cons (psm_fldsO rfl (par_consN (pm_lst pam_nil) (par_consN pm_dict0 (par_consN pm_dict0 (par_consN pm_int par_nil)))) (pfo_cons G.cl_Fans G.na_Fans_nodes (pv 0) (pfo_cons G.cl_Fans G.na_Fans_numbers (pv 0) (pfo_cons G.cl_Fans G.na_Fans_makings (pv 0) (pfo_cons G.cl_Fans G.na_Fans_rank (pv 0) pfo_nil)))))
      (psm_cons (psm_fldO G.cl_Fans G.na_Fans_node_of (pv 0) (pm_dc (own := [("name", 3)]) rfl sc_Fans___init__.nd (pim_seq (pm_var (pv 1))) (blkOk_by (N := N_Fans___init__) (sc := defScope s_Fans___init__) (own := [("name", 3)]) (by decide +kernel)) (by decide) (fun _ _ _ _ _ => (pgm_name (pg_name (i := 3) sc_Fans___init__.nd rfl (Or.inl rfl)))) (fun _ _ _ _ _ => ptsm_nil) (fun _ _ _ _ _ => (pm_var (pv 3))) (fun _ _ _ _ _ => (pm_meth Fs.m_Fans_number hgd hr (pm_var (pv 0)) (pam_cons (pm_tup (pam_cons pm_str (pam_cons (pm_tup (pam_cons pm_str (pam_cons (pm_var (pv 3)) pam_nil))) pam_nil))) pam_nil) (fun ρ M ss M' h => congrArg (· + 1) ((len_cons len_nil) ρ M ss M' h))))))
      (psm_one (psm_expr (pm_meth Fs.m_Fans_add hgd hr (pm_var (pv 0)) (pam_cons (pm_var (pv 2)) pam_nil) (fun ρ M ss M' h => congrArg (· + 1) ((len_cons len_nil) ρ M ss M' h)))))))
theorem ok_Program_names (G : Gs K mg) (FD : AllD K fds) {T : Nat → Fn} {TT : Int → Nat → Nat → MS → Option MS} (Fs : Fns w K mg base fds k T TT) : FnG P w K mg base CX0 (2 * k + 1 + 1) (He.ma K (He.ga K "Program") "names") (fds 23) p_Program_names (spM K p_Program_names.length (runBody (m_Program_names T TT (He.ga K "Fans") (He.ga K "Program")) N_Program_names.length)) := by
  refine FunDG.ok (FD 23 d_Program_names rfl) sc_Program_names rfl fun cdv A outer s H E hgd hr1 => ?_
  have hr : Room (2 * k) (A.deeper (envOfC "Program.names" (defScope s_Program_names) s.heap.objs.size (He.ma K (He.ga K "Program") "names") cdv)) := hr1.mono (by omega)
  have hu5 : (A.deeper (envOfC "Program.names" (defScope s_Program_names) s.heap.objs.size (He.ma K (He.ga K "Program") "names") cdv)).units + 65 < cLine := by have := hr.un; omega
  have hu : (A.deeper (envOfC "Program.names" (defScope s_Program_names) s.heap.objs.size (He.ma K (He.ga K "Program") "names") cdv)).units + 64 < cLine := by have := hr.un; omega
  have hu1 : (A.deeper (envOfC "Program.names" (defScope s_Program_names) s.heap.objs.size (He.ma K (He.ga K "Program") "names") cdv)).units + 1 < cLine := by have := hr.un; omega
  have B := G.bl
  have NS := G.ns
  exact (psm_one (psm_ret (pm_sorted0 B rfl (pam_cons (pm_fld G.cl_Program G.na_Program_kept_makers (pm_var (pv 0))) pam_nil))))
theorem ok_is_name (G : Gs K mg) (FD : AllD K fds) {T : Nat → Fn} {TT : Int → Nat → Nat → MS → Option MS} (Fs : Fns w K mg base fds k T TT) : FnG P w K mg base CX0 (2 * k + 1 + 1) (He.ga K "is_name") (fds 24) p_is_name (spM K p_is_name.length (runBody (m_is_name T TT (He.ga K "Fans") (He.ga K "Program")) N_is_name.length)) := by
  refine FunDG.ok (FD 24 d_is_name rfl) sc_is_name rfl fun cdv A outer s H E hgd hr1 => ?_
  have hr : Room (2 * k) (A.deeper (envOfC "is_name" (defScope s_is_name) s.heap.objs.size (He.ga K "is_name") cdv)) := hr1.mono (by omega)
  have hu5 : (A.deeper (envOfC "is_name" (defScope s_is_name) s.heap.objs.size (He.ga K "is_name") cdv)).units + 65 < cLine := by have := hr.un; omega
  have hu : (A.deeper (envOfC "is_name" (defScope s_is_name) s.heap.objs.size (He.ga K "is_name") cdv)).units + 64 < cLine := by have := hr.un; omega
  have hu1 : (A.deeper (envOfC "is_name" (defScope s_is_name) s.heap.objs.size (He.ga K "is_name") cdv)).units + 1 < cLine := by have := hr.un; omega
  have B := G.bl
  have NS := G.ns
  exact (psm_cons (psm_if (PWm.t (pwm_or (ptm_not (ptm_val (pm_isT B "str" (by decide) (by decide +kernel) PyProof.Rows.boot_str (pm_var (pv 0))))) (pwm_or1 (ptm_not (ptm_chain op_le opd_le op_le opd_le pm_int (pm_len B (pam_cons (pm_var (pv 0)) pam_nil)) (pm_gint G.c_MOST_LETTERS)))))) (psm_one (psm_ret pm_bl)) psm_nil)
      (psm_one (psm_ret (pm_all B rfl (pam_cons (pm_comp (own := [("letter", 1)]) rfl sc_is_name.nd (pim_seq (pm_var (pv 0))) (blkOk_by (N := N_is_name) (sc := defScope s_is_name) (own := [("letter", 1)]) (by decide +kernel)) (by decide) (fun _ _ _ _ _ => (pgm_name (pg_name (i := 1) sc_is_name.nd rfl (Or.inl rfl)))) (fun _ _ _ _ _ => ptsm_nil) (fun _ _ _ _ _ => (pm_in (pm_var (pv 1)) (pm_gstr G.c_LETTERS)))) pam_nil)))))
theorem ok_Fans_number (G : Gs K mg) (FD : AllD K fds) {T : Nat → Fn} {TT : Int → Nat → Nat → MS → Option MS} (Fs : Fns w K mg base fds k T TT) : FnG P w K mg base CX0 (2 * k + 1 + 1) (He.ma K (He.ga K "Fans") "number") (fds 25) p_Fans_number (spM K p_Fans_number.length (runBody (m_Fans_number T TT (He.ga K "Fans") (He.ga K "Program")) N_Fans_number.length)) := by
  refine FunDG.ok (FD 25 d_Fans_number rfl) sc_Fans_number rfl fun cdv A outer s H E hgd hr1 => ?_
  have hr : Room (2 * k) (A.deeper (envOfC "Fans.number" (defScope s_Fans_number) s.heap.objs.size (He.ma K (He.ga K "Fans") "number") cdv)) := hr1.mono (by omega)
  have hu5 : (A.deeper (envOfC "Fans.number" (defScope s_Fans_number) s.heap.objs.size (He.ma K (He.ga K "Fans") "number") cdv)).units + 65 < cLine := by have := hr.un; omega
  have hu : (A.deeper (envOfC "Fans.number" (defScope s_Fans_number) s.heap.objs.size (He.ma K (He.ga K "Fans") "number") cdv)).units + 64 < cLine := by have := hr.un; omega
  have hu1 : (A.deeper (envOfC "Fans.number" (defScope s_Fans_number) s.heap.objs.size (He.ma K (He.ga K "Fans") "number") cdv)).units + 1 < cLine := by have := hr.un; omega
  have B := G.bl
  have NS := G.ns
  exact (psm_cons (psm_if (ptm_notInK hu (pm_repr B NS hgd hu (pam_cons (pm_var (pv 1)) pam_nil)) (pm_fldO G.cl_Fans G.na_Fans_numbers (pm_var (pv 0)))) (psm_cons (psm_putD hu (pm_len B (pam_cons (pm_fldO G.cl_Fans G.na_Fans_nodes (pm_var (pv 0))) pam_nil)) (pm_fldO G.cl_Fans G.na_Fans_numbers (pm_var (pv 0))) (pm_repr B NS hgd hu (pam_cons (pm_var (pv 1)) pam_nil)))
      (psm_one (psm_expr (pm_append (pm_fldO G.cl_Fans G.na_Fans_nodes (pm_var (pv 0))) (pam_cons (pm_var (pv 1)) pam_nil))))) psm_nil)
      (psm_one (psm_ret (pm_dgetI hu (pm_fldO G.cl_Fans G.na_Fans_numbers (pm_var (pv 0))) (pm_repr B NS hgd hu (pam_cons (pm_var (pv 1)) pam_nil))))))
theorem ok_Fans_add (G : Gs K mg) (FD : AllD K fds) {T : Nat → Fn} {TT : Int → Nat → Nat → MS → Option MS} (Fs : Fns w K mg base fds k T TT) : FnG P w K mg base CX0 (2 * k + 1 + 1) (He.ma K (He.ga K "Fans") "add") (fds 26) p_Fans_add (spM K p_Fans_add.length (runBody (m_Fans_add T TT (He.ga K "Fans") (He.ga K "Program")) N_Fans_add.length)) := by
  refine FunDG.ok (FD 26 d_Fans_add rfl) sc_Fans_add rfl fun cdv A outer s H E hgd hr1 => ?_
  have hr : Room (2 * k) (A.deeper (envOfC "Fans.add" (defScope s_Fans_add) s.heap.objs.size (He.ma K (He.ga K "Fans") "add") cdv)) := hr1.mono (by omega)
  have hu5 : (A.deeper (envOfC "Fans.add" (defScope s_Fans_add) s.heap.objs.size (He.ma K (He.ga K "Fans") "add") cdv)).units + 65 < cLine := by have := hr.un; omega
  have hu : (A.deeper (envOfC "Fans.add" (defScope s_Fans_add) s.heap.objs.size (He.ma K (He.ga K "Fans") "add") cdv)).units + 64 < cLine := by have := hr.un; omega
  have hu1 : (A.deeper (envOfC "Fans.add" (defScope s_Fans_add) s.heap.objs.size (He.ma K (He.ga K "Fans") "add") cdv)).units + 1 < cLine := by have := hr.un; omega
  have B := G.bl
  have NS := G.ns
  exact (psm_one (psm_for PassesOwn.never rfl (pim_seq (pm_var (pv 1))) (pgm_name (pg_name (i := 2) sc_Fans_add.nd rfl (Or.inl rfl))) pssm_no))
theorem ok__law_taken (G : Gs K mg) (FD : AllD K fds) : FnG P w K mg base CX0 (k + 1 + 1 + 1) (He.ga K "_law_taken") (fds 1) p__law_taken (spT K (takenS nsOf bits)) := by
  refine FunDG.okT (FD 1 d__law_taken rfl) sc__law_taken rfl fun cdv A outer s H vs Q E hgd hr0 h => ?_
  have hr : Room (k + 1 + 1) (A.deeper (envOfC "_law_taken" (defScope s__law_taken) s.heap.objs.size (He.ga K "_law_taken") cdv)) := hr0
  have hexm : ∀ kk, kk < 27 → PySem.W.exmOne K (.ref (CsK K kk)) (.ref (He.ga K "MoveError")) = some true := fun kk hkk => (G.er kk hkk).ex
  refine ⟨_, pss_cons (L2N.ps_try_as (i := 3) (c := .ref (He.ga K "MoveError")) (tb := fun W => tSX K W (xExpr (eFnX (gR (CsK K)) (eCons (eVar 0) (eCons (eVar 1) (eCons (eVar 2) eNil)))))) (ts := tsT K (CsK K) gC gF) (Wout := fun _ _ _ _ => False) rfl rfl sc__law_taken.nd rfl rfl ⟨rfl, by decide, .inl G.gme⟩ (fun u s' ⟨_, _, _, _, _, _, _, _, _, _, _, _, _, _, _, _, z⟩ => z.elim) (fun W pn xe tk _ => ?_) (fun a oe cls d pn zn hf => ?_)) pss_none, taken_go (N := N__law_taken) rfl hexm hR hC hF (by decide) rfl h⟩
  · exact psx_one (psx_expr (pmx_call tk (ok__law_raise (k := k) G FD) hgd hr rfl G.gl__law_raise (a__law_raise G FD).kp (b__law_raise FD) (pam_cons (pm_var (pv 0)) (pam_cons (pm_var (pv 1)) (pam_cons (pm_var (pv 2)) pam_nil))) (len_cons (len_cons (len_cons len_nil)))))
  · refine ⟨fun pins s1 σ H1 D I ⟨kk, hkk, hcls, ht⟩ => ?_⟩
    subst hcls
    obtain ⟨fv, hfv⟩ := hf
    have hot : L2H.Hot1 ((A.deeper (envOfC "_law_taken" (defScope s__law_taken) s.heap.objs.size (He.ga K "_law_taken") cdv)).mark (some (.ref a))) (a, oe) := ⟨rfl, fv, hfv, zn.2.2 fv hfv⟩
    have hrH : L2H.RoomH (k + 1) ((A.deeper (envOfC "_law_taken" (defScope s__law_taken) s.heap.objs.size (He.ga K "_law_taken") cdv)).mark (some (.ref a))) := ⟨(hr.mono (show k + 1 ≤ k + 1 + 1 by omega)).dp, (hr.mono (show k + 1 ≤ k + 1 + 1 by omega)).un⟩
    have Z : PinX (Cx.suite (cxOf CX0 P w K mg base N__law_taken "_law_taken" (defScope s__law_taken) (He.ga K "_law_taken") cdv A outer s H E) a ((a, oe) :: pn)) (a, oe) (CsK K kk) d := ⟨List.mem_cons_self, zn.zc, fv, hfv⟩
    refine (pss_one (ps_retL (par_consN (pm_callP (p := (a, oe)) (d := d) (g := gC kk) (ok__law_classes (k := k) G FD hkk) hrH hot Z G.gl__law_classes (a__law_classes G FD).kp (b__law_classes FD) (pam_cons (pm_var (pv 3)) pam_nil) (len_cons len_nil)) (par_consN (pm_callP (p := (a, oe)) (d := d) (g := gF kk) (ok__law_fields (k := k) G FD hkk) hrH hot Z G.gl__law_fields (a__law_fields G FD).kp (b__law_fields FD) (pam_cons (pm_var (pv 0)) (pam_cons (pm_var (pv 3)) pam_nil)) (len_cons (len_cons len_nil))) par_nil)))).run pins s1 σ H1 D I ht
theorem t_ok (G : Gs K mg) (FD : AllD K fds) (k : Nat) : DefT P w K mg base (2 * k) "_law_taken" (He.ga K "_law_taken") (fds 1) p__law_taken (tT k) := by
  refine ⟨a__law_taken G FD, ?_⟩
  unfold tT
  split
  · exact (ok__law_taken (k := 0) G FD).up (by omega)
  · exact FnG.zeroT
theorem fns0 (G : Gs K mg) (FD : AllD K fds) : Fns w K mg base fds 0 (fun _ _ _ => none) (tT 0) := ⟨⟨G.gl_law, (FD 0 d_law rfl).kp, b_law FD, FnG.zero⟩, ⟨G.gl__law_bag, (FD 6 d__law_bag rfl).kp, b__law_bag FD, FnG.zero⟩, ⟨G.gl__law_take, (FD 7 d__law_take rfl).kp, b__law_take FD, FnG.zero⟩, ⟨G.gl__law_value, (FD 8 d__law_value rfl).kp, b__law_value FD, FnG.zero⟩, ⟨G.gl__law_alike, (FD 9 d__law_alike rfl).kp, b__law_alike FD, FnG.zero⟩, ⟨G.gc_Program, G.ob_Program, G.mk_Program, b_Program___init__ FD, FnG.zero⟩, ⟨G.gl__law_odd, (FD 11 d__law_odd rfl).kp, b__law_odd FD, FnG.zero⟩, ⟨G.gl_are_inputs, (FD 12 d_are_inputs rfl).kp, b_are_inputs FD, FnG.zero⟩, ⟨G.gl_are_rows, (FD 13 d_are_rows rfl).kp, b_are_rows FD, FnG.zero⟩, ⟨G.gl_count, (FD 14 d_count rfl).kp, b_count FD, FnG.zero⟩, ⟨G.gl_depth, (FD 15 d_depth rfl).kp, b_depth FD, FnG.zero⟩, ⟨G.gl_walked, (FD 16 d_walked rfl).kp, b_walked FD, FnG.zero⟩, ⟨G.cl_Program, G.mt_Program_need_leaves, b_Program_need_leaves FD, FnG.zero⟩, ⟨G.cl_Program, G.mt_Program_need_names, b_Program_need_names FD, FnG.zero⟩, ⟨G.cl_Program, G.mt_Program_need_sight, b_Program_need_sight FD, FnG.zero⟩, ⟨G.cl_Program, G.mt_Program_need_trees, b_Program_need_trees FD, FnG.zero⟩, ⟨G.gl_are_names, (FD 21 d_are_names rfl).kp, b_are_names FD, FnG.zero⟩, ⟨G.gc_Fans, G.ob_Fans, G.mk_Fans, b_Fans___init__ FD, FnG.zeroU⟩, ⟨G.cl_Program, G.mt_Program_names, b_Program_names FD, FnG.zero⟩, ⟨G.gl_is_name, (FD 24 d_is_name rfl).kp, b_is_name FD, FnG.zero⟩, ⟨G.cl_Fans, G.mt_Fans_number, b_Fans_number FD, FnG.zero⟩, ⟨G.cl_Fans, G.mt_Fans_add, b_Fans_add FD, FnG.zero⟩, t_ok G FD 0⟩
theorem fnsS (G : Gs K mg) (FD : AllD K fds) {T : Nat → Fn} {TT : Int → Nat → Nat → MS → Option MS} (Fs : Fns w K mg base fds k T TT) : Fns w K mg base fds (k + 1) (step T TT (He.ga K "Fans") (He.ga K "Program")) (tT (k + 1)) := ⟨⟨G.gl_law, (FD 0 d_law rfl).kp, b_law FD, ok_law G FD Fs⟩, ⟨G.gl__law_bag, (FD 6 d__law_bag rfl).kp, b__law_bag FD, ok__law_bag G FD Fs⟩, ⟨G.gl__law_take, (FD 7 d__law_take rfl).kp, b__law_take FD, ok__law_take G FD Fs⟩, ⟨G.gl__law_value, (FD 8 d__law_value rfl).kp, b__law_value FD, ok__law_value G FD Fs⟩, ⟨G.gl__law_alike, (FD 9 d__law_alike rfl).kp, b__law_alike FD, ok__law_alike G FD Fs⟩, ⟨G.gc_Program, G.ob_Program, G.mk_Program, b_Program___init__ FD, ok_Program___init__ G FD Fs⟩, ⟨G.gl__law_odd, (FD 11 d__law_odd rfl).kp, b__law_odd FD, ok__law_odd G FD Fs⟩, ⟨G.gl_are_inputs, (FD 12 d_are_inputs rfl).kp, b_are_inputs FD, ok_are_inputs G FD Fs⟩, ⟨G.gl_are_rows, (FD 13 d_are_rows rfl).kp, b_are_rows FD, ok_are_rows G FD Fs⟩, ⟨G.gl_count, (FD 14 d_count rfl).kp, b_count FD, ok_count G FD Fs⟩, ⟨G.gl_depth, (FD 15 d_depth rfl).kp, b_depth FD, ok_depth G FD Fs⟩, ⟨G.gl_walked, (FD 16 d_walked rfl).kp, b_walked FD, ok_walked G FD Fs⟩, ⟨G.cl_Program, G.mt_Program_need_leaves, b_Program_need_leaves FD, ok_Program_need_leaves G FD Fs⟩, ⟨G.cl_Program, G.mt_Program_need_names, b_Program_need_names FD, ok_Program_need_names G FD Fs⟩, ⟨G.cl_Program, G.mt_Program_need_sight, b_Program_need_sight FD, ok_Program_need_sight G FD Fs⟩, ⟨G.cl_Program, G.mt_Program_need_trees, b_Program_need_trees FD, ok_Program_need_trees G FD Fs⟩, ⟨G.gl_are_names, (FD 21 d_are_names rfl).kp, b_are_names FD, ok_are_names G FD Fs⟩, ⟨G.gc_Fans, G.ob_Fans, G.mk_Fans, b_Fans___init__ FD, ok_Fans___init__ G FD Fs⟩, ⟨G.cl_Program, G.mt_Program_names, b_Program_names FD, ok_Program_names G FD Fs⟩, ⟨G.gl_is_name, (FD 24 d_is_name rfl).kp, b_is_name FD, ok_is_name G FD Fs⟩, ⟨G.cl_Fans, G.mt_Fans_number, b_Fans_number FD, ok_Fans_number G FD Fs⟩, ⟨G.cl_Fans, G.mt_Fans_add, b_Fans_add FD, ok_Fans_add G FD Fs⟩, t_ok G FD (k + 1)⟩
theorem fns (G : Gs K mg) (FD : AllD K fds) : ∀ k, Fns w K mg base fds k (tab (He.ga K "Fans") (He.ga K "Program") k) (tT k)
  | 0 => fns0 G FD
  | k + 1 => fnsS G FD (fns G FD k)
end
end K10

set_option Elab.async false
set_option linter.all false
set_option maxRecDepth 100000
set_option maxHeartbeats 0
namespace K10
open PySem PySem.Spec PyProof.Rows L2 Dy
def ads : List Addr := [1, 2, 3, 6, 4, 21, 31, 53, 74, 95, 116, 137, 158, 179, 200, 221, 242, 263, 284, 305, 326, 347, 368, 389, 410, 431, 452, 473, 494, 515, 536, 557, 578, 599, 608, 613, 618, 623, 630, 637, 642, 649, 656, 661, 666, 671, 678, 683, 688, 693, 698, 705, 712, 717, 722, 729, 789, 800, 959, 968, 975, 982, 989, 996, 1003, 1010, 1017, 1024, 1031, 1036, 0, 20, 30, 52, 73, 94, 115, 136, 157, 178, 199, 220, 241, 262, 283, 304, 325, 346, 367, 388, 409, 430, 451, 472, 493, 514, 535, 556, 577, 598, 607, 612, 617, 622, 629, 636, 641, 648, 655, 660, 665, 670, 677, 682, 687, 692, 697, 704, 711, 716, 721, 728, 788, 799, 958, 967, 974, 981, 988, 995, 1002, 1009, 1016, 1023, 1030, 1035, 15, 16, 17, 18, 19, 29, 32, 50, 51, 71, 72, 92, 93, 113, 114, 134, 135, 155, 156, 176, 177, 197, 198, 218, 219, 239, 240, 260, 261, 281, 282, 302, 303, 323, 324, 344, 345, 365, 366, 386, 387, 407, 408, 428, 429, 449, 450, 470, 471, 491, 492, 512, 513, 533, 534, 554, 555, 575, 576, 596, 597, 602, 603, 604, 605, 606, 609, 610, 611, 614, 615, 616, 619, 620, 621, 624, 625, 626, 627, 628, 631, 632, 633, 634, 635, 638, 639, 640, 643, 644, 645, 646, 647, 650, 651, 652, 653, 654, 657, 658, 659, 662, 663, 664, 667, 668, 669, 672, 673, 674, 675, 676, 679, 680, 681, 684, 685, 686, 689, 690, 691, 694, 695, 696, 699, 700, 701, 702, 703, 706, 707, 708, 709, 710, 713, 714, 715, 718, 719, 720, 723, 724, 725, 726, 727, 741, 748, 755, 762, 767, 772, 779, 786, 787, 790, 791, 794, 795, 796, 797, 798, 812, 819, 826, 831, 838, 846, 853, 860, 867, 874, 881, 888, 893, 900, 907, 914, 921, 928, 935, 942, 949, 956, 957, 960, 961, 964, 965, 966, 969, 970, 971, 972, 973, 976, 977, 978, 979, 980, 983, 984, 985, 986, 987, 990, 991, 992, 993, 994, 997, 998, 999, 1000, 1001, 1004, 1005, 1006, 1007, 1008, 1011, 1012, 1013, 1014, 1015, 1018, 1019, 1020, 1021, 1022, 1025, 1026, 1027, 1028, 1029, 1032, 1033, 1034, 49, 38, 70, 59, 91, 80, 112, 101, 133, 122, 154, 143, 175, 164, 196, 185, 217, 206, 238, 227, 259, 248, 280, 269, 301, 290, 322, 311, 343, 332, 364, 353, 385, 374, 406, 395, 427, 416, 448, 437, 469, 458, 490, 479, 511, 500, 532, 521, 553, 542, 574, 563, 595, 584, 740, 747, 754, 761, 766, 771, 778, 785, 811, 818, 825, 830, 837, 845, 852, 859, 866, 873, 880, 887, 892, 899, 906, 913, 920, 927, 934, 941, 948, 955, 44, 45, 46, 47, 48, 65, 66, 67, 68, 69, 86, 87, 88, 89, 90, 107, 108, 109, 110, 111, 128, 129, 130, 131, 132, 149, 150, 151, 152, 153, 170, 171, 172, 173, 174, 191, 192, 193, 194, 195, 212, 213, 214, 215, 216, 233, 234, 235, 236, 237, 254, 255, 256, 257, 258, 275, 276, 277, 278, 279, 296, 297, 298, 299, 300, 317, 318, 319, 320, 321, 338, 339, 340, 341, 342, 359, 360, 361, 362, 363, 380, 381, 382, 383, 384, 401, 402, 403, 404, 405, 422, 423, 424, 425, 426, 443, 444, 445, 446, 447, 464, 465, 466, 467, 468, 485, 486, 487, 488, 489, 506, 507, 508, 509, 510, 527, 528, 529, 530, 531, 548, 549, 550, 551, 552, 569, 570, 571, 572, 573, 590, 591, 592, 593, 594, 737, 738, 739, 742, 743, 744, 745, 746, 749, 750, 751, 752, 753, 756, 757, 758, 759, 760, 763, 764, 765, 768, 769, 770, 773, 774, 775, 776, 777, 780, 781, 782, 783, 784, 808, 809, 810, 813, 814, 815, 816, 817, 820, 821, 822, 823, 824, 827, 828, 829, 832, 833, 834, 835, 836, 844, 847, 848, 849, 850, 851, 854, 855, 856, 857, 858, 861, 862, 863, 864, 865, 868, 869, 870, 871, 872, 875, 876, 877, 878, 879, 882, 883, 884, 885, 886, 889, 890, 891, 894, 895, 896, 897, 898, 901, 902, 903, 904, 905, 908, 909, 910, 911, 912, 915, 916, 917, 918, 919, 922, 923, 924, 925, 926, 929, 930, 931, 932, 933, 936, 937, 938, 939, 940, 943, 944, 945, 946, 947, 950, 951, 952, 953, 954]
abbrev hk : PySem.W.Hook := hookZ ads chk fn ini
def ob (s : PySem.W.SharedT) : He.AlD × List IniW := obsZ ads chk fn ini (HandSHeadRun.getT s)
theorem ob_eq (s : PySem.W.SharedT) : ob s = hk.obs s.abs := obsZ_eq (HandSHeadRun.getT_eq s)
theorem run0 (w : PySem.World) (os : PySem.OsState) : EndA RH 16000 w os (fun s => HandSHeadRun.looksF RH.prog (PySem.W.boot_heap w.params) s.abs) = some true := by
  kernel_rfl
theorem run1 (w : PySem.World) (os : PySem.OsState) : EndA RH 16000 w os (fun s => HandSHeadRun.seenQ (PySem.W.view RH.prog [79]) loose (PySem.importedModules RH.prog.main.body) (fun s => PySem.W.xlAt (PySem.W.view RH.prog [79]) [] s && PySem.W.recOk RH.toRowW.records s) s.abs) = some (PySem.W.openGood (PySem.W.view RH.prog [79]) loose) := by
  kernel_rfl
theorem run2 (w : PySem.World) (os : PySem.OsState) : EndA RH 16000 w os (fun s => chk (fragT ads s)) = some true := by
  kernel_rfl
theorem run3 (w : PySem.World) (os : PySem.OsState) : EndA RH 16000 w os (fun s => (fn.all fun d => d.ok (fragT ads s), fn.map fun d => He.fnW (fragT ads s) d.at_)) = some (true, fn.map He.DefD.val) := by
  kernel_rfl
theorem run4 (w : PySem.World) (os : PySem.OsState) : EndA RH 16000 w os (fun s => ini.map fun d => iniW (fragT ads s) d.nm) = some (ini.map IniD.val) := by
  kernel_rfl
theorem run (w : PySem.World) : HandSHeadRun.RunEq RH (PySem.W.view RH.prog [79]) hk ob 16000 loose w := run_partsZ (r := RH) (q := (PySem.W.view RH.prog [79])) (M := 16000) (as := ads) (loose := loose) (chk := chk) (fn := fn) (ini := ini) (w := w) (run0 w) (run1 w) (run2 w) (run3 w) (run4 w)
end K10

set_option Elab.async false
set_option linter.all false
set_option maxRecDepth 100000
set_option maxHeartbeats 4000000
namespace K10
open PySem L2 Dy
/-! ### stores without objects that hold handles -/
def plM (M : MS) : Prop := ∀ n, M.all (moLt n) = true
theorem plM.cut {M : MS} (h : plM M) (n : Nat) : cutOk M n = true := by
  unfold cutOk
  rw [List.all_eq_true]
  exact fun o ho => List.all_eq_true.mp (h n) o (List.mem_of_mem_take ho)
theorem plM.app {M L : MS} (h : plM M) (h2 : plM L) : plM (M ++ L) := fun n => by rw [List.all_append, h n, h2 n]; rfl
theorem plM.cutA {M L : MS} (h : plM M) {n : Nat} (h2 : L.all (moLt n) = true) : cutOk (M ++ L) n = true := by
  unfold cutOk
  rw [List.all_eq_true]
  intro o ho
  rcases List.mem_append.mp (List.mem_of_mem_take ho) with z | z
  · exact List.all_eq_true.mp (h n) o z
  · exact List.all_eq_true.mp h2 o z
theorem run_sv {m : SM} {n : Nat} {ss : List SV} {M M1 : MS} {d : D} (hM : cutOk M1 M.length = true) (hl : M1.length = M.length) (e : m (ss.map some ++ List.replicate (n - ss.length) none) M = some (.rt (.sv (.dt d)) M1)) : runBody m n ss M = some (.sv (.dt d), M1) := by
  rw [runBody_eq, e, fin_rt _ _ hM]
  show some (R.sv (.dt d), M1.take M.length) = _
  rw [← hl, List.take_length]
theorem run_fr {m : SM} {n : Nat} {ss : List SV} {M : MS} {ds : List D} (hM : cutOk M M.length = true) (e : m (ss.map some ++ List.replicate (n - ss.length) none) M = some (.rt (.fr ds) M)) : runBody m n ss M = some (.fr ds, M) := by
  rw [runBody_eq, e, fin_rt _ _ hM]
  show some (R.fr ds, M.take M.length) = _
  rw [List.take_length]
theorem run_nx {m : SM} {n : Nat} {ss : List SV} {M M1 : MS} {ρ : Dy.Env} (hM : cutOk (M ++ M1) M.length = true) (e : m (ss.map some ++ List.replicate (n - ss.length) none) M = some (.nx ρ (M ++ M1))) : runBody m n ss M = some (.sv (.dt .non), M) := by
  rw [runBody_eq, e, fin_nx _ hM]
  simp
section
variable (aF aP : Addr) (k : Nat) {M : MS}
abbrev sA : Str := Str.ofString "a"
theorem is_name_a (hM : cutOk M M.length = true) : tab aF aP (k + 1) i_is_name [.dt (.str sA)] M = some (.sv (.dt (.bl true)), M) := by
  show runBody (m_is_name (tab aF aP k) (tT k) aF aP) 2 [.dt (.str sA)] M = _
  exact run_sv hM rfl rfl
theorem are_rows_nil (hM : cutOk M M.length = true) : tab aF aP (k + 1) i_are_rows [.dt (.lst [])] M = some (.sv (.dt (.bl true)), M) := by
  show runBody (m_are_rows (tab aF aP k) (tT k) aF aP) 2 [.dt (.lst [])] M = _
  exact run_sv hM rfl rfl
theorem count_nil (hM : cutOk M M.length = true) : tab aF aP (k + 1) i_count [.dt (.lst [])] M = some (.sv (.dt (.int 0)), M) := by
  show runBody (m_count (tab aF aP k) (tT k) aF aP) 3 [.dt (.lst [])] M = _
  exact run_sv hM rfl rfl
theorem depth_nil (hM : cutOk M M.length = true) : tab aF aP (k + 1) i_depth [.dt (.lst [])] M = some (.sv (.dt (.int 1)), M) := by
  show runBody (m_depth (tab aF aP k) (tT k) aF aP) 3 [.dt (.lst [])] M = _
  exact run_sv hM rfl rfl
theorem are_names_a (hM : cutOk M M.length = true) : tab aF aP (k + 2) i_are_names [.dt (.lst [.str sA]), .dt (.int 4)] M = some (.sv (.dt (.bl true)), M) := by
  show runBody (m_are_names (tab aF aP (k + 1)) (tT (k + 1)) aF aP) 3 [.dt (.lst [.str sA]), .dt (.int 4)] M = _
  have h := is_name_a aF aP k hM
  generalize tab aF aP (k + 1) = T at h
  refine run_sv hM rfl ?_
  have e1 : sIf (tOrB (tNotB (eTru (eIsi2 "list" "tuple" (eVar 0)))) (eBool (eBin gGt (eCall (g1 lenS) (eCons (eVar 0) eNil)) (eVar 1)))) (sRet (eC (.bl false))) sNext [some (.dt (.lst [.str sA])), some (.dt (.int 4)), none] M = some (.nx [some (.dt (.lst [.str sA])), some (.dt (.int 4)), none] M) := rfl
  unfold m_are_names
  refine (sSeq_nx e1).trans ?_
  have e2 : eComp (eSeq (eVar 0)) (bName 2) cYes (eFn (T i_is_name) (eCons (eVar 2) eNil)) [2] [some (.dt (.lst [.str sA])), some (.dt (.int 4)), none] M = some (.fr [.bl true], M) := by
    have e3 : eFn (T i_is_name) (eCons (eVar 2) eNil) [some (.dt (.lst [.str sA])), some (.dt (.int 4)), some (.dt (.str sA))] M = some (.sv (.dt (.bl true)), M) := h
    have c := comp_lst (m := eVar 0) (c := cYes) (el := eFn (T i_is_name) (eCons (eVar 2) eNil)) (j := 2) (ρ := [some (.dt (.lst [.str sA])), some (.dt (.int 4)), none]) (M := M) (r := .sv (.dt (.lst [.str sA]))) (ds := [.str sA]) (fun _ => true) (fun d => .bl true) rfl (.inl rfl) (by decide)
      (fun d hd => ⟨rfl, fun _ => by
        rw [List.mem_singleton.mp hd]
        exact ⟨_, e3, rfl⟩⟩)
    exact c
  unfold sRet
  simp only [eCall_ev, eCons_ev, e2, Option.bind_some]
  rfl
theorem are_inputs_a (hM : cutOk M M.length = true) : tab aF aP (k + 3) i_are_inputs [.dt (.lst [.str sA])] M = some (.sv (.dt (.bl true)), M) := by
  show runBody (m_are_inputs (tab aF aP (k + 2)) (tT (k + 2)) aF aP) 1 [.dt (.lst [.str sA])] M = _
  have h := are_names_a aF aP k hM
  generalize tab aF aP (k + 2) = T at h
  refine run_sv hM rfl ?_
  have e : eFn (T i_are_names) (eCons (eVar 0) (eCons (eC (.int 4)) eNil)) [some (.dt (.lst [.str sA]))] M = some (.sv (.dt (.bl true)), M) := h
  unfold m_are_inputs sRet
  show (match eAnd (eFn (T i_are_names) (eCons (eVar 0) (eCons (eC (.int 4)) eNil))) _ [some (.dt (.lst [.str sA]))] M with | some (r, M') => some (Out.rt r M') | none => none) = _
  simp only [eAnd_ev, e]
  rfl
end
end K10

set_option Elab.async false
set_option linter.all false
set_option maxRecDepth 100000
set_option maxHeartbeats 4000000
namespace K10
open PySem L2 Dy
section
variable (aF aP : Addr) (k : Nat) {M : MS}
theorem set_last {α : Type} (M : List α) (x y : α) : (M ++ [x]).set M.length y = M ++ [y] := by
  induction M with
  | nil => rfl
  | cons a M ih => simp [ih]
theorem walked_nil (hM : plM M) : tab aF aP (k + 1) i_walked [.dt (.tup []), .dt (.tup [])] M = some (.fr [], M) := by
  show runBody (m_walked (tab aF aP k) (tT k) aF aP) 7 [.dt (.tup []), .dt (.tup [])] M = _
  have e : m_walked (tab aF aP k) (tT k) aF aP [some (.dt (.tup [])), some (.dt (.tup [])), none, none, none, none, none] M = some (.rt (.sv (.mu M.length)) (M ++ [.l []])) := rfl
  rw [runBody_eq]
  show fin (m_walked (tab aF aP k) (tT k) aF aP [some (.dt (.tup [])), some (.dt (.tup [])), none, none, none, none, none] M) M.length = _
  rw [e, fin_rt _ _ (hM.cutA rfl)]
  simp [close, allD]
def fldNs : List Str := [Str.ofString "kept_inputs", Str.ofString "kept_rows", Str.ofString "kept_at", Str.ofString "kept_makers", Str.ofString "kept_ways", Str.ofString "kept_forks"]
def fldDs : List D := [.tup [.str sA], .tup [], .dct [] [], .dct [] [], .dct [] [], .lst []]
theorem look_at : lookF (Str.ofString "kept_at") fldNs fldDs = some (.dct [] []) := by rfl
theorem look_makers : lookF (Str.ofString "kept_makers") fldNs fldDs = some (.dct [] []) := by rfl
theorem look_inputs : lookF (Str.ofString "kept_inputs") fldNs fldDs = some (.tup [.str sA]) := by rfl
theorem look_rows : lookF (Str.ofString "kept_rows") fldNs fldDs = some (.tup []) := by rfl
section
variable {ρ : Dy.Env} {M : MS}
theorem muI_of {j : Nat} {C : Addr} {ns : List Str} {ds : List D} (h : M[j]? = some (.i C ns ds)) : muI M (.mu j) = some (j, C, ns, ds) := by
  unfold muI
  simp only [h]
theorem muIO_of {j : Nat} {C : Addr} {ns : List Str} {ds : List D} (h : M[j]? = some (.i C ns ds)) : muIO M (.mu j) = some (C, ns) := by
  unfold muIO
  simp only [h]
theorem muIO_o {j : Nat} {C : Addr} {ns : List Str} {ds : List SV} (h : M[j]? = some (.o C ns ds)) : muIO M (.mu j) = some (C, ns) := by
  unfold muIO
  simp only [h]
theorem muO_of {j : Nat} {C : Addr} {ns : List Str} {ds : List SV} (h : M[j]? = some (.o C ns ds)) : muO M (.mu j) = some (j, C, ns, ds) := by
  unfold muO
  simp only [h]
theorem fldS_of {j : Nat} {C : Addr} {f : Str} {ns : List Str} {ds : List D} {d : D} (h : M[j]? = some (.i C ns ds)) (hd : lookF f ns ds = some d) : fldS C f M (.mu j) = some d := by
  unfold fldS
  rw [muI_of h]
  simp [hd]
theorem fldO_of {j : Nat} {C : Addr} {f : Str} {ns : List Str} {ds : List SV} {d : SV} (h : M[j]? = some (.o C ns ds)) (hd : lookS f ns ds = some d) : fldO C f M (.mu j) = some d := by
  unfold fldO
  rw [muO_of h]
  simp [hd]
@[simp] theorem eFld_ev (C : Addr) (f : Str) (m : EM R) : eFld C f m ρ M = (m ρ M).bind fun p => (fldS C f p.2 p.1.toSV).bind fun d => some (.sv (.dt d), p.2) := by
  unfold eFld
  rw [seq_ev, fz_ev]
  cases m ρ M with
  | none => rfl
  | some p =>
    simp only [Option.bind_some]
    cases fldS C f p.2 p.1.toSV <;> rfl
@[simp] theorem eFldO_ev (C : Addr) (f : Str) (m : EM R) : eFldO C f m ρ M = (m ρ M).bind fun p => (fldO C f p.2 p.1.toSV).bind fun d => some (.sv d, p.2) := by
  unfold eFldO
  rw [seq_ev, fz_ev]
  cases m ρ M with
  | none => rfl
  | some p =>
    simp only [Option.bind_some]
    cases fldO C f p.2 p.1.toSV <;> rfl
@[simp] theorem eMeth_ev (C : Addr) (mn : Str) (g : Fn) (mo : EM R) (ms : EM (List SV)) : eMeth C mn g mo ms ρ M = (mo ρ M).bind fun p => (muIO p.2 p.1.toSV).bind fun q => if q.1 = C ∧ q.2.contains mn = false then ((ms ρ p.2).bind fun z => g (p.1.toSV :: z.1) z.2) else none := by
  unfold eMeth
  rw [seq_ev, fz_ev]
  cases mo ρ M with
  | none => rfl
  | some p =>
    simp only [Option.bind_some]
    cases muIO p.2 p.1.toSV with
    | none => rfl
    | some q =>
      obtain ⟨a, b⟩ := q
      simp only [Option.bind_some]
      split
      · rw [seq_ev]
      · rfl
@[simp] theorem sFldPut_ev (C : Addr) (f : Str) (mo me : EM R) : sFldPut C f mo me ρ M = (me ρ M).bind fun p => (dOf p.1.toSV).bind fun d => (mo ρ p.2).bind fun q => (putFld C f q.2 q.1.toSV d).bind fun M3 => some (.nx ρ M3) := by
  unfold sFldPut
  rw [fz_ev]
  cases me ρ M with
  | none => rfl
  | some p =>
    simp only [Option.bind_some]
    cases p.1.toSV with
    | mu k => rfl
    | dt d =>
      simp only [dOf, Option.bind_some, fz_ev]
      cases mo ρ p.2 with
      | none => rfl
      | some q =>
        simp only [Option.bind_some]
        cases putFld C f q.2 q.1.toSV d <;> rfl
end
theorem leaves_nil (j : Nat) (hM : cutOk M M.length = true) (h : M[j]? = some (.i aP fldNs fldDs)) : tab aF aP (k + 1) i_Program_need_leaves [.mu j] M = some (.sv (.dt .non), M) := by
  show runBody (m_Program_need_leaves (tab aF aP k) (tT k) aF aP) 3 [.mu j] M = _
  rw [runBody_eq]
  unfold m_Program_need_leaves
  simp [eVar, sForFld0, fldS_of h look_at, hM]
theorem sight_nil (j : Nat) (hM : cutOk M M.length = true) (h : M[j]? = some (.i aP fldNs fldDs)) : tab aF aP (k + 1) i_Program_need_sight [.mu j] M = some (.sv (.dt .non), M) := by
  show runBody (m_Program_need_sight (tab aF aP k) (tT k) aF aP) 9 [.mu j] M = _
  rw [runBody_eq]
  unfold m_Program_need_sight
  simp [eVar, sForFld0, fldS_of h look_at, hM]
theorem getM {M : MS} {j : Nat} {o : MO} (h : M[j]? = some o) (x : MO) : (M ++ [x])[j]? = some o := by
  have := (List.getElem?_eq_some_iff.mp h).1
  rw [List.getElem?_append_left this]
  exact h
theorem neednames_nil (j : Nat) (hM : plM M) (h : M[j]? = some (.i aP fldNs fldDs)) : tab aF aP (k + 1) i_Program_need_names [.mu j] M = some (.sv (.dt .non), M) := by
  show runBody (m_Program_need_names (tab aF aP k) (tT k) aF aP) 5 [.mu j] M = _
  rw [runBody_eq]
  unfold m_Program_need_names
  have e := ne_nil_mu (M := M ++ [.l []]) (k := M.length) (ds := []) (by simp) rfl (by decide)
  have hc : cutOk (M ++ [.l []]) M.length = true := hM.cutA rfl
  simp [eVar, sNew, sForFld0, fldS_of (getM h _) look_at] at e ⊢
  simp [e, hc]
theorem names_nil (j : Nat) (hM : cutOk M M.length = true) (h : M[j]? = some (.i aP fldNs fldDs)) : tab aF aP (k + 1) i_Program_names [.mu j] M = some (.fr [], M) := by
  show runBody (m_Program_names (tab aF aP k) (tT k) aF aP) 1 [.mu j] M = _
  rw [runBody_eq]
  unfold m_Program_names
  simp [eVar, fldS_of h look_makers, sorted0S, listD, Dy.listOf, hM, close]
theorem add_nil (s : SV) (hM : cutOk M M.length = true) : tab aF aP (k + 1) i_Fans_add [s, .dt (.tup [])] M = some (.sv (.dt .non), M) := by
  show runBody (m_Fans_add (tab aF aP k) (tT k) aF aP) 8 [s, .dt (.tup [])] M = _
  refine run_nx (M1 := []) (ρ := [some s, some (.dt (.tup [])), none, none, none, none, none, none]) (by rw [List.append_nil]; exact hM) ?_
  rw [List.append_nil]
  rfl
end
end K10

set_option Elab.async false
set_option linter.all false
set_option maxRecDepth 100000
set_option maxHeartbeats 4000000
namespace K10
open PySem L2 Dy
section
variable (aF aP : Addr) (k : Nat)
theorem gx {α : Type} (M L : List α) (i : Nat) : (M ++ L)[M.length + i]? = L[i]? := by
  rw [List.getElem?_append_right (by omega), show M.length + i - M.length = i by omega]
theorem gx0 {α : Type} (M L : List α) : (M ++ L)[M.length]? = L[0]? := gx M L 0
theorem sx {α : Type} (M L : List α) (i : Nat) (x : α) : (M ++ L).set (M.length + i) x = M ++ L.set i x := by
  rw [List.set_append_right _ _ (by omega), show M.length + i - M.length = i by omega]
theorem sx0 {α : Type} (M L : List α) (x : α) : (M ++ L).set M.length x = M ++ L.set 0 x := sx M L 0 x
abbrev nodeD : D := .tup [.str (Str.ofString "tree"), .tup [.str (Str.ofString "in"), .str sA]]
theorem node_repr : ∃ x : Str, ∀ M : MS, reprS M (.dt nodeD) = some (.sv (.dt (.str x))) := by
  obtain ⟨x, h⟩ := repr_ok (d := nodeD) [] (by decide +kernel) (by decide +kernel) (by decide +kernel)
  exact ⟨x, fun M => h⟩
def fan4 : List Str := [Str.ofString "nodes", Str.ofString "numbers", Str.ofString "makings", Str.ofString "rank"]
def fan4D (m : Nat) : List SV := [.mu (m + 1), .mu (m + 2), .mu (m + 3), .dt (.int 0)]
abbrev fanS (M : MS) (xs : List SV) (ks : List Key) (vs : List SV) : MS := M ++ [.o aF fan4 (fan4D M.length), .l xs, .d ks vs, .d [] []]
theorem fan_o (M : MS) (xs : List SV) (ks : List Key) (vs : List SV) : (fanS aF M xs ks vs)[M.length]? = some (.o aF fan4 (fan4D M.length)) := gx0 ..
theorem fan_cut {M : MS} (hM : plM M) (xs : List SV) (ks : List Key) (vs : List SV) : cutOk (fanS aF M xs ks vs) (fanS aF M xs ks vs).length = true := by
  refine hM.cutA ?_
  simp [fan4D, moLt, svLt]
theorem num_ok {M : MS} (hM : plM M) (x : Str) (hx : ∀ M : MS, reprS M (.dt nodeD) = some (.sv (.dt (.str x)))) :
    tab aF aP (k + 1) i_Fans_number [.mu M.length, .dt nodeD] (fanS aF M [] [] []) = some (.sv (.dt (.int 0)), fanS aF M [.dt nodeD] [.inr x] [.dt (.int 0)]) := by
  show runBody (m_Fans_number (tab aF aP k) (tT k) aF aP) 2 [.mu M.length, .dt nodeD] (fanS aF M [] [] []) = _
  refine run_sv (by have := fan_cut aF hM [.dt nodeD] [.inr x] [.dt (.int 0)]; simpa using this) (by simp) ?_
  have f1 : ∀ xs ks vs, fldO aF (Str.ofString "numbers") (fanS aF M xs ks vs) (.mu M.length) = some (.mu (M.length + 2)) := fun xs ks vs => fldO_of (fan_o aF M xs ks vs) rfl
  have f2 : ∀ xs ks vs, fldO aF (Str.ofString "nodes") (fanS aF M xs ks vs) (.mu M.length) = some (.mu (M.length + 1)) := fun xs ks vs => fldO_of (fan_o aF M xs ks vs) rfl
  have d1 : ∀ xs ks vs, dictOf (fanS aF M xs ks vs) (.mu (M.length + 2)) = some (ks, vs) := fun xs ks vs => by
    unfold dictOf
    simp only [gx]
    rfl
  have d2 : muD (fanS aF M [] [] []) (.mu (M.length + 2)) = some (M.length + 2, [], []) := by
    unfold muD
    simp only [gx]
    rfl
  have l1 : lenS (fanS aF M [] [] []) (.mu (M.length + 1)) = some (.sv (.dt (.int 0))) := by
    have e : itemsOf (fanS aF M [] [] []) (.mu (M.length + 1)) = some [] := by
      show Dy.listOf _ (.mu (M.length + 1)) = _
      unfold Dy.listOf
      simp only [gx]
      rfl
    unfold lenS
    simp only [e]
    rfl
  have p1 : Dy.putAt (fanS aF M [] [] []) (.mu (M.length + 2)) (.dt (.str x)) (.dt (.int 0)) = some (fanS aF M [] [.inr x] [.dt (.int 0)]) := by
    unfold Dy.putAt
    simp only [d2, keyD, allD]
    rw [if_pos (by rw [sizeLine_eq]; decide), sx]
    rfl
  have t1 : ∀ xs ks vs, isTyS "list" (fanS aF M xs ks vs) (.mu (M.length + 1)) = true := fun xs ks vs => by
    unfold isTyS
    simp only [gx]
    rfl
  have a1 : gAppend (fanS aF M [] [.inr x] [.dt (.int 0)]) (.mu (M.length + 1)) [.dt nodeD] = some (.sv (.dt .non), fanS aF M [.dt nodeD] [.inr x] [.dt (.int 0)]) := by
    have e : muL (fanS aF M [] [.inr x] [.dt (.int 0)]) (.mu (M.length + 1)) = some (M.length + 1, []) := by
      unfold muL
      simp only [gx]
      rfl
    unfold gAppend
    simp only [e]
    rw [if_pos (by rw [sizeLine_eq]; decide), sx]
    rfl
  unfold m_Fans_number
  have b0 : ∀ S : MS, eVar 0 [some (.mu M.length), some (.dt nodeD)] S = some (.sv (.mu M.length), S) := fun _ => rfl
  have b1 : ∀ S : MS, eCall (g1 reprS) (eCons (eVar 1) eNil) [some (.mu M.length), some (.dt nodeD)] S = some (.sv (.dt (.str x)), S) := fun S => by
    simp only [eCall_ev, eCons_ev, eNil, EM.ret, Option.bind_some, g1, R.toSV, hx, show eVar 1 [some (.mu M.length), some (.dt nodeD)] S = some (.sv (.dt nodeD), S) from rfl]
  have b2 : ∀ xs ks vs, eFldO aF (Str.ofString "numbers") (eVar 0) [some (.mu M.length), some (.dt nodeD)] (fanS aF M xs ks vs) = some (.sv (.mu (M.length + 2)), fanS aF M xs ks vs) := fun xs ks vs => by
    rw [eFldO_ev, b0]
    simp only [Option.bind_some, R.toSV, f1]
  have b3 : ∀ xs ks vs, eFldO aF (Str.ofString "nodes") (eVar 0) [some (.mu M.length), some (.dt nodeD)] (fanS aF M xs ks vs) = some (.sv (.mu (M.length + 1)), fanS aF M xs ks vs) := fun xs ks vs => by
    rw [eFldO_ev, b0]
    simp only [Option.bind_some, R.toSV, f2]
  have c1 : gNotInK (fanS aF M [] [] []) (.dt (.str x)) (.mu (M.length + 2)) = some (.sv (.dt (.bl true))) := by
    unfold gNotInK
    rw [d1]
    rfl
  show sSeq (sIf _ _ _) (sRet _) [some (.mu M.length), some (.dt nodeD)] (fanS aF M [] [] []) = _
  refine (sSeq_nx (ρ1 := [some (.mu M.length), some (.dt nodeD)]) (M1 := fanS aF M [.dt nodeD] [.inr x] [.dt (.int 0)]) ?_).trans ?_
  · refine (if_yes ?_).trans ?_
    · simp only [eBool_ev, eBin_ev, b1, b2, Option.bind_some, R.toSV, c1]
      rfl
    · refine (sSeq_nx (ρ1 := [some (.mu M.length), some (.dt nodeD)]) (M1 := fanS aF M [] [.inr x] [.dt (.int 0)]) ?_).trans ?_
      · have v1 : ∀ S : MS, eVar 1 [some (.mu M.length), some (.dt nodeD)] S = some (.sv (.dt nodeD), S) := fun _ => rfl
        simp only [sPutD_ev, eCall_ev, eCons_ev, v1, hx, b2, b3, Option.bind_some, R.toSV, g1, eNil, EM.ret, l1, p1]
      · unfold sExpr
        simp only [eMt_ev, b3, Option.bind_some, R.toSV, t1, if_true, eCons_ev]
        show (match (gAppend (fanS aF M [] [.inr x] [.dt (.int 0)]) (.mu (M.length + 1)) [.dt nodeD]) with | some (_, M') => some (Out.nx [some (.mu M.length), some (.dt nodeD)] M') | none => none) = _
        rw [a1]
  · unfold sRet eDGet
    simp only [seq_ev, fz_ev, b1, b2, Option.bind_some, R.toSV, d1, keyD, show lookK (.inr x) [.inr x] [SV.dt (D.int 0)] = some (.dt (.int 0)) from if_pos rfl]
end
end K10

set_option Elab.async false
set_option linter.all false
set_option maxRecDepth 100000
set_option maxHeartbeats 4000000
namespace K10
open PySem L2 Dy
section
variable (aF aP : Addr) (k : Nat)
theorem put_at (C : Addr) (f : Str) (M L : MS) (ns : List Str) (ds : List SV) (d : SV) (h : ns.length < 1000) :
    putO C f (M ++ .o C ns ds :: L) (.mu M.length) d = some (M ++ .o C (putS f d ns ds).1 (putS f d ns ds).2 :: L) := by
  unfold putO
  rw [muO_of (gx0 M (.o C ns ds :: L))]
  simp only [true_and]
  rw [if_pos h, sx0]
  rfl
theorem cut_pre {M L : MS} (hM : plM M) : cutOk (M ++ L) M.length = true := by
  unfold cutOk
  rw [List.take_left]
  exact hM _
theorem dc_one {src : Src} {b : Bnd} {ek ev : EM R} {ρ0 ρ1 : Dy.Env} {M M2 M3 : MS} {s t : SV} {key : Key} {d : D} (h0 : src.get M 0 = some s) (h1 : b s ρ0 = some ρ1) (h2 : fz ek ρ1 M = some (t, M2)) (h3 : keyD t = some key) (h4 : fz ev ρ1 M2 = some (.dt d, M3)) (h5 : src.stop M3 1 = true) :
    dcGo src b cYes ek ev ρ0 1 0 [] [] M = some (([key], [d]), M3) := by
  unfold dcGo
  simp only [h0, h1, show cYes ρ1 M = some (true, M) from rfl, h2, h3, h4]
  rw [if_pos (by rw [sizeLine_eq]; decide)]
  unfold dcGo
  rw [show (0 + 1) = 1 from rfl, h5]
  rfl
def fan5 : List Str := fan4 ++ [Str.ofString "node_of"]
def fan5D (m : Nat) : List SV := fan4D m ++ [.mu (m + 4)]
abbrev fanE (M : MS) (x : Str) : MS := M ++ [.o aF fan5 (fan5D M.length), .l [.dt nodeD], .d [.inr x] [.dt (.int 0)], .d [] [], .d [.inr sA] [.dt (.int 0)]]
theorem fan_init {M : MS} (hM : plM M) : ∃ x : Str, tab aF aP (k + 2) i_Fans___init__ [.mu M.length, .dt (.tup [.str sA]), .dt (.tup [])] (M ++ [.o aF [] []]) = some (.sv (.dt .non), fanE aF M x) := by
  obtain ⟨x, hx⟩ := node_repr
  refine ⟨x, ?_⟩
  have hn := num_ok aF aP k hM x hx
  have ha := add_nil aF aP k (M := fanE aF M x) (.mu M.length) (hM.cutA (by simp [fan5D, fan4D, moLt, svLt]))
  show runU (m_Fans___init__ (tab aF aP (k + 1)) (tT (k + 1)) aF aP) 4 _ _ = _
  generalize tab aF aP (k + 1) = T at hn ha
  let ρ : Dy.Env := [some (.mu M.length), some (.dt (.tup [.str sA])), some (.dt (.tup [])), none]
  have key : m_Fans___init__ T (tT (k + 1)) aF aP ρ (M ++ [.o aF [] []]) = some (.nx ρ (fanE aF M x)) := by
    unfold m_Fans___init__
    refine (sSeq_nx (ρ1 := ρ) (M1 := fanS aF M [] [] []) ?_).trans ?_
    · unfold sFldsO
      show (if _ then (match putAll aF (.mu M.length) ["nodes", "numbers", "makings", "rank"] [.mu (M ++ [MO.o aF [] []]).length, .mu (M ++ [MO.o aF [] []] ++ [MO.l []]).length, .mu (M ++ [MO.o aF [] []] ++ [MO.l []] ++ [MO.d [] []]).length, .dt (.int 0)] (M ++ [MO.o aF [] []] ++ [MO.l []] ++ [MO.d [] []] ++ [MO.d [] []]) with | some M3 => some (Out.nx ρ M3) | none => none) else none) = _
      rw [if_pos ⟨rfl, by rw [sizeLine_eq]; exact of_decide_eq_true (Eq.refl true)⟩]
      have e : M ++ [MO.o aF [] []] ++ [MO.l []] ++ [MO.d [] []] ++ [MO.d [] []] = M ++ MO.o aF [] [] :: [.l [], .d [] [], .d [] []] := by simp
      rw [e]
      simp only [List.length_append, List.length_cons, List.length_nil]
      unfold putAll
      rw [put_at _ _ _ _ _ _ _ (by exact of_decide_eq_true (Eq.refl true))]
      simp only
      unfold putAll
      rw [put_at _ _ _ _ _ _ _ (by exact of_decide_eq_true (Eq.refl true))]
      simp only
      unfold putAll
      rw [put_at _ _ _ _ _ _ _ (by exact of_decide_eq_true (Eq.refl true))]
      simp only
      unfold putAll
      rw [put_at _ _ _ _ _ _ _ (by exact of_decide_eq_true (Eq.refl true))]
      rfl
    · refine (sSeq_nx (ρ1 := ρ) (M1 := fanE aF M x) ?_).trans ?_
      · have ed : eDc (eSeq (eVar 1)) (bName 3) cYes (eVar 3) (eMeth aF "number" (T i_Fans_number) (eVar 0) (eCons (eTup (eCons (eC (.str "tree")) (eCons (eTup (eCons (eC (.str "in")) (eCons (eVar 3) eNil))) eNil))) eNil)) [3] ρ (fanS aF M [] [] []) = some (.fd [.inr sA] [.int 0], fanS aF M [.dt nodeD] [.inr x] [.dt (.int 0)]) := by
          have em : eMeth aF "number" (T i_Fans_number) (eVar 0) (eCons (eTup (eCons (eC (.str "tree")) (eCons (eTup (eCons (eC (.str "in")) (eCons (eVar 3) eNil))) eNil))) eNil) [some (.mu M.length), some (.dt (.tup [.str sA])), some (.dt (.tup [])), some (.dt (.str sA))] (fanS aF M [] [] []) = some (.sv (.dt (.int 0)), fanS aF M [.dt nodeD] [.inr x] [.dt (.int 0)]) := by
            rw [eMeth_ev]
            show ((muIO (fanS aF M [] [] []) (.mu M.length)).bind _) = _
            rw [muIO_o (fan_o aF M [] [] [])]
            simp only [Option.bind_some]
            rw [if_pos ⟨trivial, by decide⟩]
            exact hn
          obtain ⟨src, hsrc, hget, hstop, hsn⟩ : ∃ src, seqSrc (fanS aF M [] [] []) (.dt (.tup [.str sA])) = some src ∧ (∀ M', src.get M' 0 = some (.dt (.str sA))) ∧ (∀ M', src.stop M' 1 = true) ∧ src.n = 1 := ⟨_, rfl, fun _ => rfl, fun _ => rfl, rfl⟩
          have ed1 := dc_one (src := src) (b := bName 3) (ek := eVar 3) (ev := eMeth aF "number" (T i_Fans_number) (eVar 0) (eCons (eTup (eCons (eC (.str "tree")) (eCons (eTup (eCons (eC (.str "in")) (eCons (eVar 3) eNil))) eNil))) eNil)) (ρ1 := [some (.mu M.length), some (.dt (.tup [.str sA])), some (.dt (.tup [])), some (.dt (.str sA))]) (ρ0 := ρ) (M := fanS aF M [] [] []) (s := .dt (.str sA)) (t := .dt (.str sA)) (key := .inr sA) (hget _) rfl rfl rfl (by rw [fz_ev, em]; rfl) (hstop _)
          unfold eDc
          rw [eSeq_of (r := .sv (.dt (.tup [.str sA]))) rfl hsrc]
          simp only [hsn]
          rw [show wipeE ρ [3] = ρ from rfl, ed1]
        unfold sFldO
        rw [ed]
        show (match putO aF "node_of" (fanS aF M [.dt nodeD] [.inr x] [.dt (.int 0)] ++ [.d [.inr sA] [.dt (.int 0)]]) (.mu M.length) (.mu (fanS aF M [.dt nodeD] [.inr x] [.dt (.int 0)]).length) with | some M3 => some (Out.nx ρ M3) | none => none) = _
        have e : fanS aF M [.dt nodeD] [.inr x] [.dt (.int 0)] ++ [.d [.inr sA] [.dt (.int 0)]] = M ++ MO.o aF fan4 (fan4D M.length) :: [.l [.dt nodeD], .d [.inr x] [.dt (.int 0)], .d [] [], .d [.inr sA] [.dt (.int 0)]] := by simp
        rw [e, put_at _ _ _ _ _ _ _ (by decide)]
        simp only [List.length_append, List.length_cons, List.length_nil]
        rfl
      · have g5 : (fanE aF M x)[M.length]? = some (.o aF fan5 (fan5D M.length)) := gx0 ..
        have em2 : eMeth aF "add" (T i_Fans_add) (eVar 0) (eCons (eVar 2) eNil) ρ (fanE aF M x) = some (.sv (.dt .non), fanE aF M x) := by
          rw [eMeth_ev]
          show ((muIO (fanE aF M x) (.mu M.length)).bind _) = _
          rw [muIO_o g5]
          simp only [Option.bind_some]
          rw [if_pos ⟨trivial, by decide⟩]
          exact ha
        unfold sExpr
        rw [em2]
  unfold runU
  show (match m_Fans___init__ T (tT (k + 1)) aF aP ρ (M ++ [.o aF [] []]) with | some (.nx _ M') => some (R.sv (.dt .non), M') | _ => none) = _
  rw [key]
theorem fan_make {M : MS} (hM : plM M) (ms : EM (List SV)) (ρ : Dy.Env) (h : ms ρ M = some ([.dt (.tup [.str sA]), .dt (.tup [])], M)) :
    eMakeO aF (tab aF aP (k + 2) i_Fans___init__) ms ρ M = some (.sv (.dt (.obj aF)), M) := by
  obtain ⟨x, hx⟩ := fan_init aF aP k hM
  unfold eMakeO
  rw [seq_ev, h, Option.bind_some]
  simp only [hx]
  have g5 : (fanE aF M x)[M.length]? = some (.o aF fan5 (fan5D M.length)) := gx0 ..
  rw [g5]
  simp only [true_and]
  rw [if_pos (cut_pre hM), List.take_left]
theorem trees_nil {M : MS} (j : Nat) (hM : plM M) (h : M[j]? = some (.i aP fldNs fldDs)) : tab aF aP (k + 3) i_Program_need_trees [.mu j] M = some (.sv (.dt .non), M) := by
  have hm := names_nil aF aP (k + 1) j (hM.cut _) h
  show runBody (m_Program_need_trees (tab aF aP (k + 2)) (tT (k + 2)) aF aP) 3 [.mu j] M = _
  have e1 : (eCons (eFld aP "kept_inputs" (eVar 0)) (eCons (eFld aP "kept_rows" (eVar 0)) eNil)) [some (.mu j), none, none] M = some ([.dt (.tup [.str sA]), .dt (.tup [])], M) := by
    have v : ∀ S : MS, eVar 0 [some (.mu j), none, none] S = some (.sv (.mu j), S) := fun _ => rfl
    have f1 : fldS aP "kept_inputs" M (.mu j) = some (.tup [.str sA]) := fldS_of h look_inputs
    have f2 : fldS aP "kept_rows" M (.mu j) = some (.tup []) := fldS_of h look_rows
    simp only [eCons_ev, eFld_ev, v, Option.bind_some, R.toSV, f1, f2]
    rfl
  have e2 := fan_make aF aP k hM _ _ e1
  generalize tab aF aP (k + 2) = T at hm e2
  unfold m_Program_need_trees
  refine run_nx (M1 := []) (ρ := [some (.mu j), some (.dt (.obj aF)), none]) (by rw [List.append_nil]; exact hM.cut _) ?_
  rw [List.append_nil]
  refine (sSeq_nx (ρ1 := [some (.mu j), some (.dt (.obj aF)), none]) (M1 := M) ?_).trans ?_
  · unfold sSet
    show (match eMakeO aF (T i_Fans___init__) _ [some (.mu j), none, none] M with | some (r, M') => _ | none => none) = _
    rw [e2]
    rfl
  · have e3 : eMeth aP "names" (T i_Program_names) (eVar 0) eNil [some (.mu j), some (.dt (.obj aF)), none] M = some (.fr [], M) := by
      rw [eMeth_ev]
      show ((muIO M (.mu j)).bind _) = _
      rw [muIO_of h]
      simp only [Option.bind_some]
      rw [if_pos ⟨trivial, by decide⟩]
      exact hm
    unfold sFor
    rw [eSeq_of e3 rfl]
    rfl
end
end K10

set_option Elab.async false
set_option linter.all false
set_option maxRecDepth 100000
set_option maxHeartbeats 4000000
namespace K10
open PySem L2 Dy
section
variable (aF aP : Addr) (k : Nat)
theorem put_i (C : Addr) (f : Str) (M : MS) (ns : List Str) (ds : List D) (d : D) (h : ns.length < 1000) :
    putFld C f (M ++ [MO.i C ns ds]) (.mu M.length) d = some (M ++ [MO.i C (putN f d ns ds).1 (putN f d ns ds).2]) := by
  unfold putFld
  rw [muI_of (gx0 M [.i C ns ds])]
  simp only [true_and]
  rw [if_pos h, sx0]
  rfl
theorem fput (C : Addr) (f : Str) (M : MS) (ns : List Str) (ds : List D) (d : D) (me : EM R) (r : R) (ρ : Dy.Env) (hl : ns.length < 1000) (h0 : ρ[0]? = some (some (.mu M.length))) (h : me ρ (M ++ [MO.i C ns ds]) = some (r, M ++ [MO.i C ns ds])) (hr : r.toSV = .dt d) :
    sFldPut C f (eVar 0) me ρ (M ++ [MO.i C ns ds]) = some (.nx ρ (M ++ [MO.i C (putN f d ns ds).1 (putN f d ns ds).2])) := by
  have v : eVar 0 ρ (M ++ [MO.i C ns ds]) = some (.sv (.mu M.length), M ++ [MO.i C ns ds]) := by
    unfold eVar
    simp only [h0]
  rw [sFldPut_ev, h]
  simp only [Option.bind_some, hr]
  simp only [dOf, Option.bind_some, v, R.toSV, put_i C f M ns ds d hl]
theorem plI {M : MS} (hM : plM M) (C : Addr) (ns : List Str) (ds : List D) : plM (M ++ [MO.i C ns ds]) := hM.app fun _ => rfl
theorem meth_i (C : Addr) (mn : Str) (g : Fn) (ρ : Dy.Env) (M M' : MS) (j : Nat) (ns : List Str) (ds : List D) (r : R) (h0 : ρ[0]? = some (some (.mu j))) (h : M[j]? = some (.i C ns ds)) (hn : ns.contains mn = false) (hg : g [.mu j] M = some (r, M')) :
    sExpr (eMeth C mn g (eVar 0) eNil) ρ M = some (.nx ρ M') := by
  have v : eVar 0 ρ M = some (.sv (.mu j), M) := by
    unfold eVar
    simp only [h0]
  unfold sExpr
  rw [eMeth_ev, v]
  simp only [Option.bind_some, R.toSV, muIO_of h, true_and]
  rw [if_pos hn]
  show (match g [.mu j] M with | some (_, M') => some (Out.nx ρ M') | none => none) = _
  rw [hg]
theorem sort_a (S : MS) : sortedS S (.dt (.lst [.str sA])) = some (.fr [.str sA]) := by
  unfold sortedS
  rw [show itemsD S (.dt (.lst [.str sA])) = some [.str sA] from rfl]
  simp only
  rw [if_pos (by decide +kernel)]
  simp [sortD]
theorem tsort_a (ρ : Dy.Env) (S : MS) (h : ρ[1]? = some (some (.dt (.lst [.str sA])))) : eCall (g1 tupleS) (eCons (eCall (g1 sortedS) (eCons (eVar 1) eNil)) eNil) ρ S = some (.sv (.dt (.tup [.str sA])), S) := by
  have v : eVar 1 ρ S = some (.sv (.dt (.lst [.str sA])), S) := by
    unfold eVar
    simp only [h]
  simp only [eCall_ev, eCons_ev, v, Option.bind_some, R.toSV, eNil, EM.ret, g1, sort_a]
  rfl
theorem not_tru {m : EM R} {ρ : Dy.Env} {M : MS} (h : m ρ M = some (.sv (.dt (.bl true)), M)) : tNotB (eTru m) ρ M = some (false, M) := by
  simp [h]
theorem gt_no {m : EM R} {ρ : Dy.Env} {M : MS} {a b : Int} (h : m ρ M = some (.sv (.dt (.int a)), M)) (hb : ¬ b < a) : eBool (eBin gGt m (eC (.int b))) ρ M = some (false, M) := by
  simp [h, hb]
theorem prog_init {M : MS} (hM : plM M) : tab aF aP (k + 4) i_Program___init__ [.mu M.length, .dt (.lst [.str sA]), .dt (.lst [])] (M ++ [MO.i aP [] []]) = some (.sv (.dt .non), M ++ [MO.i aP fldNs fldDs]) := by
  have P : ∀ ns ds, plM (M ++ [MO.i aP ns ds]) := plI hM aP
  have c : ∀ ns ds, cutOk (M ++ [MO.i aP ns ds]) (M ++ [MO.i aP ns ds]).length = true := fun ns ds => (P ns ds).cut _
  have a1 := are_inputs_a aF aP k (c [] [])
  have a2 := are_rows_nil aF aP (k + 2) (c [] [])
  have a3 := count_nil aF aP (k + 2) (c [] [])
  have a4 := depth_nil aF aP (k + 2) (c [] [])
  have a5 := fun ns ds => walked_nil aF aP (k + 2) (P ns ds)
  have gg : (M ++ [MO.i aP fldNs fldDs])[M.length]? = some (.i aP fldNs fldDs) := gx0 ..
  have a6 := leaves_nil aF aP (k + 2) M.length (c _ _) gg
  have a7 := neednames_nil aF aP (k + 2) M.length (P _ _) gg
  have a8 := sight_nil aF aP (k + 2) M.length (c _ _) gg
  have a9 := trees_nil aF aP k M.length (P _ _) gg
  show runBody (m_Program___init__ (tab aF aP (k + 3)) (tT (k + 3)) aF aP) 4 _ _ = _
  generalize tab aF aP (k + 3) = T at a1 a2 a3 a4 a5 a6 a7 a8 a9
  let ρ : Dy.Env := [some (.mu M.length), some (.dt (.lst [.str sA])), some (.dt (.lst [])), none]
  have key : m_Program___init__ T (tT (k + 3)) aF aP ρ (M ++ [MO.i aP [] []]) = some (.nx ρ (M ++ [MO.i aP fldNs fldDs])) := by
    unfold m_Program___init__
    have z1 : tNotB (eTru (eFn (T i_are_inputs) (eCons (eVar 1) eNil))) ρ (M ++ [MO.i aP [] []]) = some (false, M ++ [MO.i aP [] []]) := not_tru (m := eFn (T i_are_inputs) (eCons (eVar 1) eNil)) (ρ := ρ) a1
    have z2 : tNotB (eTru (eFn (T i_are_rows) (eCons (eVar 2) eNil))) ρ (M ++ [MO.i aP [] []]) = some (false, M ++ [MO.i aP [] []]) := not_tru (m := eFn (T i_are_rows) (eCons (eVar 2) eNil)) (ρ := ρ) a2
    have z3 : eBool (eBin gGt (eFn (T i_count) (eCons (eVar 2) eNil)) (eC (.int 24))) ρ (M ++ [MO.i aP [] []]) = some (false, M ++ [MO.i aP [] []]) := gt_no (m := eFn (T i_count) (eCons (eVar 2) eNil)) (ρ := ρ) (a := 0) a3 (by decide)
    have z4 : eBool (eBin gGt (eFn (T i_depth) (eCons (eVar 2) eNil)) (eC (.int 4))) ρ (M ++ [MO.i aP [] []]) = some (false, M ++ [MO.i aP [] []]) := gt_no (m := eFn (T i_depth) (eCons (eVar 2) eNil)) (ρ := ρ) (a := 1) a4 (by decide)
    refine (sSeq_nx (if_no z1)).trans ((sSeq_nx (if_no z2)).trans ((sSeq_nx (if_no z3)).trans ((sSeq_nx (if_no z4)).trans ?_)))
    refine (sSeq_nx (fput aP _ M [] [] (.tup [.str sA]) _ (.sv (.dt (.tup [.str sA]))) ρ (by decide) rfl (tsort_a ρ _ rfl) rfl)).trans ?_
    refine (sSeq_nx (fput aP _ M _ _ (.tup []) _ (.sv (.dt (.tup []))) ρ (by exact of_decide_eq_true (Eq.refl true)) rfl rfl rfl)).trans ?_
    have gk : ∀ ns ds, lookF (Str.ofString "kept_rows") ns ds = some (.tup []) → eCall (g1 dictPS) (eCons (eFn (T i_walked) (eCons (eFld aP "kept_rows" (eVar 0)) (eCons (eTup eNil) eNil))) eNil) ρ (M ++ [MO.i aP ns ds]) = some (.fd [] [], M ++ [MO.i aP ns ds]) := fun ns ds h => by
      have v : eVar 0 ρ (M ++ [MO.i aP ns ds]) = some (.sv (.mu M.length), M ++ [MO.i aP ns ds]) := rfl
      have f : fldS aP "kept_rows" (M ++ [MO.i aP ns ds]) (.mu M.length) = some (.tup []) := fldS_of (gx0 ..) h
      have w : eFn (T i_walked) (eCons (eFld aP "kept_rows" (eVar 0)) (eCons (eTup eNil) eNil)) ρ (M ++ [MO.i aP ns ds]) = some (.fr [], M ++ [MO.i aP ns ds]) := by
        have e : (eCons (eFld aP "kept_rows" (eVar 0)) (eCons (eTup eNil) eNil)) ρ (M ++ [MO.i aP ns ds]) = some ([.dt (.tup []), .dt (.tup [])], M ++ [MO.i aP ns ds]) := by
          simp only [eCons_ev, eFld_ev, v, Option.bind_some, R.toSV, f]
          rfl
        rw [eFn_ev, e, Option.bind_some]
        exact a5 ns ds
      rw [eCall_ev, eCons_ev, w]
      rfl
    refine (sSeq_nx (fput aP _ M _ _ (.dct [] []) _ (.fd [] []) ρ (by exact of_decide_eq_true (Eq.refl true)) rfl (gk _ _ rfl) rfl)).trans ?_
    refine (sSeq_nx (ρ1 := ρ) (M1 := M ++ [MO.i aP fldNs fldDs]) ?_).trans ?_
    · unfold sFlds
      rw [show fz (eTup (eCons eDict0 (eCons eDict0 (eCons (eLst eNil) eNil)))) ρ (M ++ [_]) = some (.dt (.tup [.dct [] [], .dct [] [], .lst []]), M ++ [_]) from rfl]
      have v : ∀ S : MS, fz (eVar 0) ρ S = some (.mu M.length, S) := fun _ => rfl
      simp only
      rw [if_pos (show [D.dct [] [], D.dct [] [], D.lst []].length = 3 from rfl)]
      unfold fsCons
      simp only [v]
      rw [put_i (h := by exact of_decide_eq_true (Eq.refl true))]
      simp only [v]
      rw [put_i (h := by exact of_decide_eq_true (Eq.refl true))]
      simp only [v]
      rw [put_i (h := by exact of_decide_eq_true (Eq.refl true))]
      rfl
    · refine (sSeq_nx (meth_i aP _ _ ρ _ _ M.length fldNs fldDs _ rfl gg (by decide) a6)).trans ?_
      refine (sSeq_nx (meth_i aP _ _ ρ _ _ M.length fldNs fldDs _ rfl gg (by decide) a7)).trans ?_
      refine (sSeq_nx (meth_i aP _ _ ρ _ _ M.length fldNs fldDs _ rfl gg (by decide) a8)).trans ?_
      exact meth_i aP _ _ ρ _ _ M.length fldNs fldDs _ rfl gg (by decide) a9
  rw [runBody_eq]
  show fin (m_Program___init__ T (tT (k + 3)) aF aP ρ (M ++ [MO.i aP [] []])) _ = _
  rw [key, show (M ++ [MO.i aP [] []]).length = (M ++ [MO.i aP fldNs fldDs]).length by simp, fin_nx _ (c _ _), List.take_length]
theorem prog_make {M : MS} (hM : plM M) (ms : EM (List SV)) (ρ : Dy.Env) (h : ms ρ M = some ([.dt (.lst [.str sA]), .dt (.lst [])], M)) :
    eMake aP (tab aF aP (k + 4) i_Program___init__) ms ρ M = some (.sv (.dt (.obj aP)), M) := by
  unfold eMake
  rw [seq_ev, h, Option.bind_some]
  simp only [prog_init aF aP k hM]
  rw [gx0 M [.i aP fldNs fldDs]]
  simp only [List.getElem?_cons_zero, true_and]
  rw [if_pos (cut_pre hM), List.take_left]
end
end K10

set_option Elab.async false
set_option linter.all false
set_option maxRecDepth 100000
set_option maxHeartbeats 4000000
namespace K10
open PySem L2 Dy
section
variable (aF aP : Addr) (k : Nat)
theorem bag_lt {B : MO} (h : BagO B) (n : Nat) : moLt n B = true := by
  obtain ⟨a, b, c, cells, rfl, _⟩ := h.ex
  rfl
theorem plB {B : MO} {R : MS} (h : BagO B) (hR : plM R) : plM (B :: R) := fun n => by rw [List.all_cons, bag_lt h, hR n]; rfl
theorem take_tab {B : MO} {R : MS} {n : Int} (hR : plM R) (hB : BagO B) (hn : 0 < n) (hn2 : n < 1073741824) :
    ∃ r B', tab aF aP (k + 1) i__law_take [.mu 0, .dt (.int n)] (B :: R) = some (.sv (.dt (.int r)), B' :: R) ∧ BagO B' ∧ 0 ≤ r ∧ r < n := take_ok (hR _) hB hn hn2
theorem bag_tab {ns : List Int} (hl : ns.length ≤ 63) : ∃ cells, tab aF aP (k + 1) i__law_bag [.dt (.scr ns)] [] = some (.fr [.int 0, .int 1234567891, .int 0, .lst (cells.map .int)], []) ∧ BagO (bagL 0 1234567891 0 cells) := bag_ok hl [] rfl
theorem odd_tab {B : MO} {R : MS} (hR : plM R) (hB : BagO B) : ∃ d B', tab aF aP (k + 2) i__law_odd [.mu 0, .dt (.str (Str.ofString "ab"))] (B :: R) = some (.sv (.dt d), B' :: R) ∧ BagO B' := by
  obtain ⟨r, B', ht, hB', h0, h1⟩ := take_tab aF aP k (n := 27) hR hB (by decide) (by decide)
  show ∃ d B', runBody (m__law_odd (tab aF aP (k + 1)) (tT (k + 1)) aF aP) 3 _ _ = _ ∧ _
  generalize tab aF aP (k + 1) = T at ht
  obtain ⟨L, hL, e1⟩ : ∃ L : List D, L.length = 27 ∧ ∀ s3 : SM, ∃ s1 s2 : SM, m__law_odd T (tT (k + 1)) aF aP = sSeq s1 (sSeq s2 (sRet (eBin gIx (eVar 2) (eFn (T i__law_take) (eCons (eVar 0) (eCons (eCall (g1 lenS) (eCons (eVar 2) eNil)) eNil)))))) ∧ sSeq s1 (sSeq s2 s3) [some (.mu 0), some (.dt (.str (Str.ofString "ab"))), none] (B :: R) = s3 [some (.mu 0), some (.dt (.str (Str.ofString "ab"))), some (.dt (.lst L))] (B :: R) :=
    ⟨_, rfl, fun s3 => ⟨_, _, rfl, rfl⟩⟩
  obtain ⟨s1, s2, em, es⟩ := e1 (sRet (eBin gIx (eVar 2) (eFn (T i__law_take) (eCons (eVar 0) (eCons (eCall (g1 lenS) (eCons (eVar 2) eNil)) eNil)))))
  obtain ⟨d, _, hg, _⟩ := gIx_lst (M := B' :: R) (ds := L) (i := r) h0 (by rw [hL]; exact h1)
  refine ⟨d, B', run_sv ((plB hB' hR).cut _) (by simp) ?_, hB'⟩
  rw [em]
  refine es.trans ?_
  have v2 : ∀ S : MS, eVar 2 [some (.mu 0), some (.dt (.str (Str.ofString "ab"))), some (.dt (.lst L))] S = some (.sv (.dt (.lst L)), S) := fun _ => rfl
  have v0 : ∀ S : MS, eVar 0 [some (.mu 0), some (.dt (.str (Str.ofString "ab"))), some (.dt (.lst L))] S = some (.sv (.mu 0), S) := fun _ => rfl
  have hl : ∀ S : MS, lenS S (.dt (.lst L)) = some (.sv (.dt (.int 27))) := fun S => by rw [lenS_lst, hL]; rfl
  unfold sRet
  simp only [eBin_ev, eFn_ev, eCons_ev, eCall_ev, v0, v2, Option.bind_some, Dy.R.toSV, eNil, EM.ret, g1, hl, ht, hg]
theorem value_tab {B : MO} {R : MS} (hR : plM R) (hB : BagO B) : ∃ d B', tab aF aP (k + 5) i__law_value [.mu 0] (B :: R) = some (.sv (.dt d), B' :: R) ∧ BagO B' := by
  obtain ⟨r, B1, ht, hB1, h0, h1⟩ := take_tab aF aP (k + 3) (n := 6) hR hB (by decide) (by decide)
  obtain ⟨d, B2, ho, hB2⟩ := odd_tab aF aP (k + 2) hR hB1
  have hp := prog_make aF aP k (plB hB1 hR)
  show ∃ d B', runBody (m__law_value (tab aF aP (k + 4)) (tT (k + 4)) aF aP) 2 _ _ = _ ∧ _
  generalize tab aF aP (k + 4) = T at ht ho hp
  let ρ : Dy.Env := [some (.mu 0), some (.dt (.int r))]
  have e1 : sSet 1 (eFn (T i__law_take) (eCons (eVar 0) (eCons (eC (.int 6)) eNil))) [some (.mu 0), none] (B :: R) = some (.nx ρ (B1 :: R)) := by
    have e : eFn (T i__law_take) (eCons (eVar 0) (eCons (eC (.int 6)) eNil)) [some (.mu 0), none] (B :: R) = some (.sv (.dt (.int r)), B1 :: R) := ht
    rw [sSet_ev, e]
    rfl
  have eq : ∀ (a : Int) (S : MS), eBool (eBin gEq (eVar 1) (eC (.int a))) ρ S = some (decide (r = a), S) := fun a S => by
    have v : eVar 1 ρ S = some (.sv (.dt (.int r)), S) := rfl
    simp [v]
  by_cases c0 : r = 0
  · refine ⟨.obj aP, B1, run_sv ((plB hB1 hR).cut _) (by simp) ?_, hB1⟩
    unfold m__law_value
    refine (sSeq_nx e1).trans ?_
    refine sSeq_rt ((if_yes (by rw [eq, c0]; rfl)).trans ?_)
    unfold sRet
    rw [hp _ ρ rfl]
  · by_cases c1 : r = 1
    · refine ⟨.opq, B1, run_sv ((plB hB1 hR).cut _) (by simp) ?_, hB1⟩
      unfold m__law_value
      refine (sSeq_nx e1).trans ((sSeq_nx (if_no (by rw [eq, decide_eq_false c0]))).trans ?_)
      unfold sRet
      rw [eIf_ev, eq, decide_eq_true c1]
      rfl
    · refine ⟨d, B2, run_sv ((plB hB2 hR).cut _) (by simp) ?_, hB2⟩
      unfold m__law_value
      refine (sSeq_nx e1).trans ((sSeq_nx (if_no (by rw [eq, decide_eq_false c0]))).trans ?_)
      unfold sRet
      rw [eIf_ev, eq, decide_eq_false c1]
      have e : eFn (T i__law_odd) (eCons (eVar 0) (eCons (eC (.str "ab")) eNil)) ρ (B1 :: R) = some (.sv (.dt d), B2 :: R) := ho
      simp only [Option.bind_some]
      rw [if_neg (by decide), e]
end
end K10

set_option Elab.async false
set_option linter.all false
set_option maxRecDepth 100000
set_option maxHeartbeats 4000000
namespace K10
open PySem L2 Dy
def dueE : EM R := (eBin gAdd (eComp (eRng1 (eCons (eC (.int 27)) eNil)) (bName 10) cYes (eBin gEq (eVar 10) (eVar 3)) [10]) (eLst (eCons (eC (.bl true)) (eCons (eC (.bl true)) (eCons (eC (.bl false)) eNil)))))
def manyE : EM R := (eIf (eBool (eBin gIn (eVar 3) (eTup (eCons (eC (.int 14)) (eCons (eC (.int 15)) (eCons (eC (.int 19)) (eCons (eC (.int 21)) (eCons (eC (.int 23)) (eCons (eC (.int 25)) (eCons (eC (.int 26)) eNil)))))))))) (eC (.int 0)) (eIf (eBool (eBin gIn (eVar 3) (eTup (eCons (eC (.int 5)) (eCons (eC (.int 17)) eNil))))) (eC (.int 2)) (eC (.int 1))))
def itemL : SM := (sIf (eBool (eBin gNe (eBin gIx (eBin gIx (eBin gIx (eVar 6) (eC (.int 1))) (eVar 9)) (eNeg (eC (.int 1)))) (eBin gIx (eLst (eCons (eC (.str "more")) (eCons (eC (.str "again")) eNil))) (eVar 9)))) (sRet (eC (.bl false))) sNext)
def turnL (T : Nat → Fn) (TT : Int → Nat → Nat → MS → Option MS) : SM := (sSeq (sSet 3 (eFn (T i__law_take) (eCons (eVar 1) (eCons (eC (.int 27)) eNil))))
    (sSeq (sPar2N 4 5 (rConsN (eLst (eCons (eFn (T i__law_value) (eCons (eVar 1) eNil)) eNil)) (rConsN (eLst (eCons (eFn (T i__law_value) (eCons (eVar 1) eNil)) eNil)) rNil)))
    (sSeq (sTaken TT 6 7 3 4 5 (eBin gAdd (eComp (eRng1 (eCons (eC (.int 27)) eNil)) (bName 10) cYes (eBin gEq (eVar 10) (eVar 3)) [10]) (eLst (eCons (eC (.bl true)) (eCons (eC (.bl true)) (eCons (eC (.bl false)) eNil))))))
    (sSeq (sSet 8 (eIf (eBool (eBin gIn (eVar 3) (eTup (eCons (eC (.int 14)) (eCons (eC (.int 15)) (eCons (eC (.int 19)) (eCons (eC (.int 21)) (eCons (eC (.int 23)) (eCons (eC (.int 25)) (eCons (eC (.int 26)) eNil)))))))))) (eC (.int 0)) (eIf (eBool (eBin gIn (eVar 3) (eTup (eCons (eC (.int 5)) (eCons (eC (.int 17)) eNil))))) (eC (.int 2)) (eC (.int 1)))))
    (sSeq (sIf (tOrB (eBool (eBin gNe (eCall (g1 lenS) (eCons (eVar 6) eNil)) (eC (.int 2)))) (tOrB (tNotB (eTru (eFn (T i__law_alike) (eCons (eBin gIx (eVar 6) (eC (.int 0))) (eCons (eVar 7) eNil))))) (eSameH 6 4 5 8))) (sRet (eC (.bl false))) sNext)
    (sSeq (sExpr (eMt "list" gAppend (eVar 4) (eCons (eC (.str "more")) eNil)))
    (sSeq (sExpr (eMt "list" gAppend (eVar 5) (eCons (eC (.str "again")) eNil)))
    (sSeq (sIf (eSameH 6 4 5 8) (sRet (eC (.bl false))) sNext)
    (sFor (eRng1 (eCons (eVar 8) eNil)) (bName 9) (sIf (eBool (eBin gNe (eBin gIx (eBin gIx (eBin gIx (eVar 6) (eC (.int 1))) (eVar 9)) (eNeg (eC (.int 1)))) (eBin gIx (eLst (eCons (eC (.str "more")) (eCons (eC (.str "again")) eNil))) (eVar 9)))) (sRet (eC (.bl false))) sNext))))))))))
theorem law_eq (T : Nat → Fn) (TT : Int → Nat → Nat → MS → Option MS) (aF aP : Addr) : m_law T TT aF aP = sSeq (sNew 1 (eFn (T i__law_bag) (eCons (eVar 0) eNil))) (sSeq (sFor (eRng1 (eCons (eC (.int 8)) eNil)) (bName 2) (turnL T TT)) (sRet (eC (.bl true)))) := rfl
def manyN (kk : Nat) : Nat := (nsOf kk).length
theorem many_le : ∀ (kk : Nat), kk < 27 → manyN kk ≤ 2
  | 0, _ => by decide
  | 1, _ => by decide
  | 2, _ => by decide
  | 3, _ => by decide
  | 4, _ => by decide
  | 5, _ => by decide
  | 6, _ => by decide
  | 7, _ => by decide
  | 8, _ => by decide
  | 9, _ => by decide
  | 10, _ => by decide
  | 11, _ => by decide
  | 12, _ => by decide
  | 13, _ => by decide
  | 14, _ => by decide
  | 15, _ => by decide
  | 16, _ => by decide
  | 17, _ => by decide
  | 18, _ => by decide
  | 19, _ => by decide
  | 20, _ => by decide
  | 21, _ => by decide
  | 22, _ => by decide
  | 23, _ => by decide
  | 24, _ => by decide
  | 25, _ => by decide
  | 26, _ => by decide
  | n + 27, h => absurd h (by omega)
theorem many_ev (x0 x2 x4 x5 x6 x7 x8 x9 x10 : Option SV) (S : MS) : ∀ (kk : Nat), kk < 27 → manyE [x0, some (.mu 0), x2, some (.dt (.int (kk : Int))), x4, x5, x6, x7, x8, x9, x10] S = some (.sv (.dt (.int (manyN kk : Int))), S)
  | 0, _ => rfl
  | 1, _ => rfl
  | 2, _ => rfl
  | 3, _ => rfl
  | 4, _ => rfl
  | 5, _ => rfl
  | 6, _ => rfl
  | 7, _ => rfl
  | 8, _ => rfl
  | 9, _ => rfl
  | 10, _ => rfl
  | 11, _ => rfl
  | 12, _ => rfl
  | 13, _ => rfl
  | 14, _ => rfl
  | 15, _ => rfl
  | 16, _ => rfl
  | 17, _ => rfl
  | 18, _ => rfl
  | 19, _ => rfl
  | 20, _ => rfl
  | 21, _ => rfl
  | 22, _ => rfl
  | 23, _ => rfl
  | 24, _ => rfl
  | 25, _ => rfl
  | 26, _ => rfl
  | n + 27, h => absurd h (by omega)
theorem due_ev (kk : Nat) (x0 x2 x4 x5 x6 x7 x8 x9 x10 : Option SV) (S : MS) : dueE [x0, some (.mu 0), x2, some (.dt (.int (kk : Int))), x4, x5, x6, x7, x8, x9, x10] S = some (.fr ((bits kk).map D.bl), S) := by
  have c := comp_fun (as := List.range 27) (e := fun i : Nat => .dt (.int (0 + (i : Int)))) (src := rngSrc 0 27) (ms := eRng1 (eCons (eC (.int 27)) eNil)) (b := bName 10) (c := cYes) (el := eBin gEq (eVar 10) (eVar 3)) (vs := [10]) (ρ := [x0, some (.mu 0), x2, some (.dt (.int (kk : Int))), x4, x5, x6, x7, x8, x9, x10]) (M := S) (M0 := S) (fun _ => true) (fun i => .bl (kk == i)) (by rw [eRng1_ev]; rfl) (isSrc_rng 0 27) (by simp)
    (fun i hi => ⟨[x0, some (.mu 0), x2, some (.dt (.int (kk : Int))), x4, x5, x6, x7, x8, x9, some (.dt (.int (0 + (i : Int))))], rfl, rfl, fun _ => ⟨.sv (.dt (.bl (decide ((0 + (i : Int)) = (kk : Int))))), by
      rw [eBin_ev, show eVar 10 [x0, some (.mu 0), x2, some (.dt (.int (kk : Int))), x4, x5, x6, x7, x8, x9, some (.dt (.int (0 + (i : Int))))] S = some (.sv (.dt (.int (0 + (i : Int)))), S) from rfl, Option.bind_some, show eVar 3 [x0, some (.mu 0), x2, some (.dt (.int (kk : Int))), x4, x5, x6, x7, x8, x9, some (.dt (.int (0 + (i : Int))))] S = some (.sv (.dt (.int (kk : Int))), S) from rfl, Option.bind_some]
      show ((gEq S (.dt (.int (0 + (i : Int)))) (.dt (.int (kk : Int)))).bind _) = _
      rw [gEq_int]
      rfl, by
      show SV.dt (D.bl _) = SV.dt (D.bl _)
      congr 2
      by_cases h : kk = i
      · subst h; simp
      · rw [decide_eq_false (by omega)]; simp [h]⟩⟩)
  unfold dueE
  rw [eBin_ev, c, Option.bind_some]
  have e2 : eLst (eCons (eC (.bl true)) (eCons (eC (.bl true)) (eCons (eC (.bl false)) eNil))) [x0, some (.mu 0), x2, some (.dt (.int (kk : Int))), x4, x5, x6, x7, x8, x9, x10] S = some (.fr [.bl true, .bl true, .bl false], S) := rfl
  rw [e2, Option.bind_some]
  have g : gAdd S (.dt (.lst (((List.range 27).filter fun _ => true).map fun i => .bl (kk == i)))) (.dt (.lst [.bl true, .bl true, .bl false])) = some (.fr ((((List.range 27).filter fun _ => true).map fun i => .bl (kk == i)) ++ [.bl true, .bl true, .bl false])) := gAdd_lst (by simp only [List.length_map]; decide)
  show ((gAdd S (.dt (.lst _)) (.dt (.lst _))).bind _) = _
  rw [g]
  rfl
theorem eqT_peek {M : MS} {s t : SV} {ds : List D} (h : peek M s = some (.lst ds)) : eqT M s t = eqL M s t := by
  cases s with
  | mu k => rfl
  | dt d =>
    have : d = .lst ds := by
      rw [show peek M (.dt d) = some d from peek_dt _ _ _] at h
      exact Option.some.inj h
    subst this
    rfl
theorem alike_ok (aF aP : Addr) (k : Nat) (s t : SV) (ds : List D) (M : MS) (h1 : peek M s = some (.lst ds)) (h2 : peek M t = some (.lst ds)) (hg : goodL ds = true) (hf : flatL ds = true) (hw : swtL ds ≤ 16000000) (hd : depL ds ≤ 50) (hc : cutOk M M.length = true) : tab aF aP (k + 1) i__law_alike [s, t] M = some (.sv (.dt (.bl true)), M) := by
  show runBody (m__law_alike (tab aF aP k) (tT k) aF aP) 2 [s, t] M = _
  rw [runBody_eq]
  show fin (m__law_alike (tab aF aP k) (tT k) aF aP [some s, some t] M) _ = _
  unfold m__law_alike
  have f : Dy.flatB (.lst ds) = true := by simpa [Dy.flatB] using hf
  obtain ⟨p, q1, q2, q3⟩ := flat_toP f
  have sh := flat_shaped f (by simp [dep]; omega) q1
  have e : gEq M s t = some (.sv (.dt (.bl true))) := by
    have es : eqS M s t = some true := by
      unfold eqS
      rw [h1, h2]
      simp only [q1, sh, Bool.and_self, if_true]
      rw [SeqAt.eqv_refl p (SeqAt.canLay_of_shaped sh)]
    unfold gEq
    rw [eqT_peek h1]
    unfold eqL
    rw [es]
    rfl
  have gd : goodD (.lst ds) = true := by simpa [goodD] using hg
  obtain ⟨p2, r1, r2, r3, r4⟩ := good_toQ gd
  have rs : ∀ u : SV, peek M u = some (.lst ds) → reprS M u = some (.sv (.dt (.str p2.shown))) := fun u hu => by
    unfold reprS
    rw [hu]
    simp only [r1]
    rw [if_pos ⟨r2, by
      rw [sizeLine_eq]
      simp only [swt] at r3
      omega, by
      simp only [dep] at r4
      omega⟩]
  simp [eVar, e, rs s h1, rs t h2, gEq_str, hc]
end K10

set_option Elab.async false
set_option linter.all false
set_option maxRecDepth 100000
set_option maxHeartbeats 4000000
namespace K10
open PySem L2 Dy
theorem sameH_ev {ρ : Dy.Env} {S : MS} {t o w m a i j c : Nat} {n : Int} {s0 : SV} {xs : List SV} (h1 : ρ[t]? = some (some (.mu a))) (h2 : ρ[o]? = some (some (.mu i))) (h3 : ρ[w]? = some (some (.mu j))) (h4 : ρ[m]? = some (some (.dt (.int n))))
    (g1 : S[a]? = some (.l [s0, .mu c])) (g2 : S[c]? = some (.l xs)) (hz : musL xs = some ([i, j].take n.toNat)) (h0 : 0 ≤ n) (hn : n ≤ 2) : eSameH t o w m ρ S = some (false, S) := by
  unfold eSameH
  simp only [h1, h2, h3, h4, g1, g2]
  rw [if_pos ⟨hz, h0, hn⟩]
/-- the store behind a turn's try -/
abbrev stT (M0 : MS) (xs ys : List SV) (bs : List D) (m : Nat) : MS := M0 ++ [.l xs, .l ys, .l (bs.map .dt), .l (fldH m M0.length (M0.length + 1)), .l [.mu (M0.length + 2), .mu (M0.length + 3)]]
theorem st0 (M0 : MS) (xs ys : List SV) (bs : List D) (m : Nat) : (stT M0 xs ys bs m)[M0.length]? = some (.l xs) := gx0 ..
theorem st1 (M0 : MS) (xs ys : List SV) (bs : List D) (m : Nat) : (stT M0 xs ys bs m)[M0.length + 1]? = some (.l ys) := gx ..
theorem st2 (M0 : MS) (xs ys : List SV) (bs : List D) (m : Nat) : (stT M0 xs ys bs m)[M0.length + 2]? = some (.l (bs.map .dt)) := gx ..
theorem st3 (M0 : MS) (xs ys : List SV) (bs : List D) (m : Nat) : (stT M0 xs ys bs m)[M0.length + 3]? = some (.l (fldH m M0.length (M0.length + 1))) := gx ..
theorem st4 (M0 : MS) (xs ys : List SV) (bs : List D) (m : Nat) : (stT M0 xs ys bs m)[M0.length + 4]? = some (.l [.mu (M0.length + 2), .mu (M0.length + 3)]) := gx ..
theorem pl_list {M L : MS} (hM : plM M) (h : ∀ o ∈ L, ∃ xs, o = .l xs) : plM (M ++ L) := hM.app fun n => by
  rw [List.all_eq_true]
  intro o ho
  obtain ⟨xs, rfl⟩ := h o ho
  rfl
theorem plS {M0 : MS} (h : plM M0) (xs ys : List SV) (bs : List D) (m : Nat) : plM (stT M0 xs ys bs m) := pl_list h (by simp)
theorem gIx_h {M : MS} {k : Nat} {xs : List SV} {i : Int} {y : SV} (h : M[k]? = some (.l xs)) (e : L2.atI xs i = some y) : gIx M (.mu k) (.dt (.int i)) = some (.sv y) := by
  unfold gIx
  simp only [itemsOf_mu h, e]
theorem app_st0 (M0 : MS) (xs ys : List SV) (bs : List D) (m : Nat) (d : D) (h : xs.length < 1000) : gAppend (stT M0 xs ys bs m) (.mu M0.length) [.dt d] = some (.sv (.dt .non), stT M0 (xs ++ [.dt d]) ys bs m) := by
  rw [gAppend_mu (st0 ..) (by omega), sx0]
  rfl
theorem app_st1 (M0 : MS) (xs ys : List SV) (bs : List D) (m : Nat) (d : D) (h : ys.length < 1000) : gAppend (stT M0 xs ys bs m) (.mu (M0.length + 1)) [.dt d] = some (.sv (.dt .non), stT M0 xs (ys ++ [.dt d]) bs m) := by
  rw [gAppend_mu (st1 ..) (by omega), sx]
  rfl
theorem isList {M : MS} {k : Nat} {xs : List SV} (h : M[k]? = some (.l xs)) : isTyS "list" M (.mu k) = true := by
  unfold isTyS
  simp only [h]
  rfl
theorem app_ev {ρ : Dy.Env} {S S' : MS} {v k : Nat} {xs : List SV} {d : D} (h0 : ρ[v]? = some (some (.mu k))) (h : S[k]? = some (.l xs)) (e : gAppend S (.mu k) [.dt d] = some (.sv (.dt .non), S')) :
    sExpr (eMt "list" gAppend (eVar v) (eCons (eC d) eNil)) ρ S = some (.nx ρ S') := by
  have v0 : eVar v ρ S = some (.sv (.mu k), S) := by
    unfold eVar
    simp only [h0]
  have em : eMt "list" gAppend (eVar v) (eCons (eC d) eNil) ρ S = some (.sv (.dt .non), S') := by
    rw [eMt_ev, v0, Option.bind_some]
    show (if isTyS "list" S (.mu k) = true then _ else _) = _
    rw [if_pos (isList h)]
    exact e
  unfold sExpr
  rw [em]
/-- the environment of a turn behind its try -/
abbrev eT (x0 x2 : Option SV) (kk n : Nat) (due : List D) (m : Nat) (x9 x10 : Option SV) : Dy.Env := [x0, some (.mu 0), x2, some (.dt (.int (kk : Int))), some (.mu n), some (.mu (n + 1)), some (.mu (n + 4)), some (.dt (.lst due)), some (.dt (.int (m : Int))), x9, x10]
theorem mus_fld (m a b : Nat) : musL (fldH m a b) = some ([a, b].take ((m : Int)).toNat) := by
  unfold fldH
  rw [musL_map]
  rfl
theorem same_ev (x0 x2 x9 x10 : Option SV) (kk : Nat) (due bs : List D) (m : Nat) (hm : m ≤ 2) (M0 : MS) (xs ys : List SV) :
    eSameH 6 4 5 8 (eT x0 x2 kk M0.length due m x9 x10) (stT M0 xs ys bs m) = some (false, stT M0 xs ys bs m) :=
  sameH_ev rfl rfl rfl rfl (st4 ..) (st3 ..) (mus_fld m _ _) (by omega) (by omega)
theorem item_ev (x0 x2 x10 : Option SV) (kk : Nat) (due bs : List D) (m : Nat) (M0 : MS) (d1 d2 : D) (i : Nat) (him : i < m) (hm : m ≤ 2) :
    itemL (eT x0 x2 kk M0.length due m (some (.dt (.int (0 + (i : Int))))) x10) (stT M0 [.dt d1, .dt (.str (Str.ofString "more"))] [.dt d2, .dt (.str (Str.ofString "again"))] bs m) = some (.nx (eT x0 x2 kk M0.length due m (some (.dt (.int (0 + (i : Int))))) x10) (stT M0 [.dt d1, .dt (.str (Str.ofString "more"))] [.dt d2, .dt (.str (Str.ofString "again"))] bs m)) := by
  generalize hS : stT M0 [.dt d1, .dt (.str (Str.ofString "more"))] [.dt d2, .dt (.str (Str.ofString "again"))] bs m = S
  generalize hρ : eT x0 x2 kk M0.length due m (some (.dt (.int (0 + (i : Int))))) x10 = ρ
  have v6 : eVar 6 ρ S = some (.sv (.mu (M0.length + 4)), S) := by rw [← hρ]; rfl
  have v9 : eVar 9 ρ S = some (.sv (.dt (.int (0 + (i : Int)))), S) := by rw [← hρ]; rfl
  have g1 : gIx S (.mu (M0.length + 4)) (.dt (.int 1)) = some (.sv (.mu (M0.length + 3))) := by
    rw [← hS]
    exact gIx_h (st4 ..) rfl
  have key : ∃ z : Str, ∃ q : Nat, gIx S (.mu (M0.length + 3)) (.dt (.int (0 + (i : Int)))) = some (.sv (.mu q)) ∧ gIx S (.mu q) (.dt (.int (-1))) = some (.sv (.dt (.str z))) ∧ gIx S (.dt (.lst [.str (Str.ofString "more"), .str (Str.ofString "again")])) (.dt (.int (0 + (i : Int)))) = some (.sv (.dt (.str z))) := by
    rw [← hS]
    have : i = 0 ∧ (m = 1 ∨ m = 2) ∨ i = 1 ∧ m = 2 := by omega
    rcases this with ⟨rfl, rfl | rfl⟩ | ⟨rfl, rfl⟩
    · exact ⟨_, _, gIx_h (st3 ..) rfl, gIx_h (st0 ..) rfl, rfl⟩
    · exact ⟨_, _, gIx_h (st3 ..) rfl, gIx_h (st0 ..) rfl, rfl⟩
    · exact ⟨_, _, gIx_h (st3 ..) rfl, gIx_h (st1 ..) rfl, rfl⟩
  obtain ⟨z, q, k1, k2, k3⟩ := key
  have ne : gNe S (.dt (.str z)) (.dt (.str z)) = some (.sv (.dt (.bl false))) := by
    have : gNe S (.dt (.str z)) (.dt (.str z)) = some (.sv (.dt (.bl (!decide (z = z))))) := rfl
    rw [this]
    simp
  have el : eLst (eCons (eC (.str "more")) (eCons (eC (.str "again")) eNil)) ρ S = some (.fr [.str (Str.ofString "more"), .str (Str.ofString "again")], S) := rfl
  unfold itemL
  refine if_no ?_
  have n1 : eNeg (eC (.int 1)) ρ S = some (.sv (.dt (.int (-1))), S) := rfl
  have c1 : eC (.int 1) ρ S = some (.sv (.dt (.int 1)), S) := rfl
  simp only [eBool_ev, eBin_ev, v6, v9, el, n1, c1, Option.bind_some, R.toSV, g1, k1, k2, k3, ne]
  rfl
end K10

set_option Elab.async false
set_option linter.all false
set_option maxRecDepth 100000
set_option maxHeartbeats 4000000
namespace K10
open PySem L2 Dy
section
variable (aF aP : Addr)
theorem bits_fit (kk : Nat) : goodL ((bits kk).map D.bl) = true ∧ flatL ((bits kk).map D.bl) = true ∧ swtL ((bits kk).map D.bl) ≤ 16000000 ∧ depL ((bits kk).map D.bl) ≤ 50 := by
  have hl : ((bits kk).map D.bl).length = 30 := by simp [bits]
  have hb : ∀ d ∈ (bits kk).map D.bl, ∃ b, d = .bl b := by
    intro d hd
    obtain ⟨b, _, rfl⟩ := List.mem_map.mp hd
    exact ⟨b, rfl⟩
  refine ⟨goodL_of fun d hd => ?_, flatL_of fun d hd => ?_, ?_, depL_of fun d hd => ?_⟩
  · obtain ⟨b, rfl⟩ := hb d hd
    rfl
  · obtain ⟨b, rfl⟩ := hb d hd
    rfl
  · have := swtL_of (ds := (bits kk).map D.bl) (n := 100) fun d hd => by
      obtain ⟨b, rfl⟩ := hb d hd
      cases b <;> decide
    rw [hl] at this
    omega
  · obtain ⟨b, rfl⟩ := hb d hd
    simp [dep]
theorem taken_ev {tk : Int → Nat → Nat → MS → Option MS} {it id ik i1 i2 i j : Nat} {k : Int} {m2 : EM Dy.R} {ρ : Dy.Env} {M M1 M2 : MS} {r : Dy.R} (h1 : ρ[ik]? = some (some (.dt (.int k)))) (h2 : ρ[i1]? = some (some (.mu i))) (h3 : ρ[i2]? = some (some (.mu j))) (h4 : tk k i j M = some M1) (h5 : m2 ρ M1 = some (r, M2)) :
    sTaken tk it id ik i1 i2 m2 ρ M = some (.nx ((ρ.set it (some (.mu (M.length + 2)))).set id (some r.toSV)) M2) := by
  unfold sTaken
  simp only [h1, h2, h3, h4, fz_ev, h5, Option.bind_some]
theorem one_lst {f : Fn} {v a : Nat} {ρ : Dy.Env} {M M' : MS} {d : D} (h0 : ρ[v]? = some (some (.mu a))) (h : f [.mu a] M = some (.sv (.dt d), M')) : eLst (eCons (eFn f (eCons (eVar v) eNil)) eNil) ρ M = some (.fr [d], M') := by
  have v0 : eVar v ρ M = some (.sv (.mu a), M) := by
    unfold eVar
    simp only [h0]
  have e : eFn f (eCons (eVar v) eNil) ρ M = some (.sv (.dt d), M') := by
    simp only [eFn_ev, eCons_ev, v0, Option.bind_some, Dy.R.toSV, eNil_ev, h]
  rw [eLst_ev, eCons_ev, e]
  simp only [Option.bind_some, eNil_ev, Dy.R.toSV]
  rw [show allD [SV.dt d] = some [d] from rfl, Option.bind_some, if_pos (by rw [sizeLine_eq]; simp)]
theorem tk_ok (kk : Nat) (hkk : kk < 27) (M0 : MS) (hP : plM M0) (d1 d2 : D) : tT 29 (kk : Int) M0.length (M0.length + 1) (M0 ++ [.l [.dt d1], .l [.dt d2]]) = some (stT M0 [.dt d1] [.dt d2] ((bits kk).map D.bl) (manyN kk)) := by
  have e : tT 29 = takenS nsOf bits := rfl
  rw [e]
  unfold takenS
  rw [if_pos ⟨by omega, by omega, by simp, by simp, (pl_list hP (by simp)).cut _⟩]
  simp [stT, manyN]
theorem c3_ok (kk : Nat) (hkk : kk < 27) (M0 : MS) (hP : plM M0) (d1 d2 : D) (x0 x2 x6 x7 x8 x9 x10 : Option SV) : sTaken (tT 29) 6 7 3 4 5 dueE [x0, some (.mu 0), x2, some (.dt (.int (kk : Int))), some (.mu M0.length), some (.mu (M0.length + 1)), x6, x7, x8, x9, x10] (M0 ++ [.l [.dt d1], .l [.dt d2]]) = some (.nx [x0, some (.mu 0), x2, some (.dt (.int (kk : Int))), some (.mu M0.length), some (.mu (M0.length + 1)), some (.mu (M0.length + 4)), some (.dt (.lst ((bits kk).map D.bl))), x8, x9, x10] (stT M0 [.dt d1] [.dt d2] ((bits kk).map D.bl) (manyN kk))) := by
  have hlen : (M0 ++ [MO.l [.dt d1], MO.l [.dt d2]]).length + 2 = M0.length + 4 := by simp
  rw [taken_ev (i := M0.length) (j := M0.length + 1) (k := (kk : Int)) rfl rfl rfl (tk_ok kk hkk M0 hP d1 d2) (due_ev kk ..), hlen]
  rfl
theorem turn_ok (x0 x2 x3 x4 x5 x6 x7 x8 x9 x10 : Option SV) {B : MO} {R : MS} (hB : BagO B) (hR : plM R) :
    ∃ y3 y4 y5 y6 y7 y8 y9 y10 B' R', turnL (tab aF aP 29) (tT 29) [x0, some (.mu 0), x2, x3, x4, x5, x6, x7, x8, x9, x10] (B :: R) = some (.nx [x0, some (.mu 0), x2, y3, y4, y5, y6, y7, y8, y9, y10] (B' :: R')) ∧ BagO B' ∧ plM R' := by
  obtain ⟨r, B1, t1, hB1, h0, h1⟩ := take_tab aF aP 28 (n := 27) hR hB (by decide) (by decide)
  obtain ⟨d1, B2, t2, hB2⟩ := value_tab aF aP 24 hR hB1
  obtain ⟨d2, B3, t3, hB3⟩ := value_tab aF aP 24 hR hB2
  obtain ⟨kk, rfl⟩ : ∃ kk : Nat, r = (kk : Int) := ⟨r.toNat, by omega⟩
  have hkk : kk < 27 := by omega
  have hm := many_le kk hkk
  obtain ⟨b1, b2, b3, b4⟩ := bits_fit kk
  have hP : plM (B3 :: R) := plB hB3 hR
  generalize hM0 : B3 :: R = M0 at hP t3
  have A := fun (M : MS) (hM : plM M) (s t : SV) (p1 : peek M s = some (.lst ((bits kk).map D.bl))) (p2 : peek M t = some (.lst ((bits kk).map D.bl))) => alike_ok aF aP 28 s t ((bits kk).map D.bl) M p1 p2 b1 b2 b3 b4 (hM.cut _)
  have t1' : tab aF aP 29 i__law_take [.mu 0, .dt (.int 27)] (B :: R) = some (.sv (.dt (.int (kk : Int))), B1 :: R) := t1
  have t2' : tab aF aP 29 i__law_value [.mu 0] (B1 :: R) = some (.sv (.dt d1), B2 :: R) := t2
  have t3' : tab aF aP 29 i__law_value [.mu 0] (B2 :: R) = some (.sv (.dt d2), M0) := t3
  have A' : ∀ (M : MS), plM M → ∀ (s t : SV), peek M s = some (.lst ((bits kk).map D.bl)) → peek M t = some (.lst ((bits kk).map D.bl)) → tab aF aP 29 i__law_alike [s, t] M = some (.sv (.dt (.bl true)), M) := A
  clear t1 t2 t3 A
  generalize tab aF aP 29 = T at t1' t2' t3' A'
  let m := manyN kk
  let n := M0.length
  let due := (bits kk).map D.bl
  let S := stT M0 [.dt d1] [.dt d2] due m
  let S2 := stT M0 [.dt d1, .dt (.str (Str.ofString "more"))] [.dt d2, .dt (.str (Str.ofString "again"))] due m
  have c1 : sSet 3 (eFn (T i__law_take) (eCons (eVar 1) (eCons (eC (.int 27)) eNil))) [x0, some (.mu 0), x2, x3, x4, x5, x6, x7, x8, x9, x10] (B :: R) = some (.nx [x0, some (.mu 0), x2, some (.dt (.int (kk : Int))), x4, x5, x6, x7, x8, x9, x10] (B1 :: R)) := by
    have e : eFn (T i__law_take) (eCons (eVar 1) (eCons (eC (.int 27)) eNil)) [x0, some (.mu 0), x2, x3, x4, x5, x6, x7, x8, x9, x10] (B :: R) = some (.sv (.dt (.int (kk : Int))), B1 :: R) := t1'
    rw [sSet_ev, e]
    rfl
  have c2 : sPar2N 4 5 (rConsN (eLst (eCons (eFn (T i__law_value) (eCons (eVar 1) eNil)) eNil)) (rConsN (eLst (eCons (eFn (T i__law_value) (eCons (eVar 1) eNil)) eNil)) rNil)) [x0, some (.mu 0), x2, some (.dt (.int (kk : Int))), x4, x5, x6, x7, x8, x9, x10] (B1 :: R) = some (.nx [x0, some (.mu 0), x2, some (.dt (.int (kk : Int))), some (.mu n), some (.mu (n + 1)), x6, x7, x8, x9, x10] (M0 ++ [.l [.dt d1], .l [.dt d2]])) := by
    have e : rConsN (eLst (eCons (eFn (T i__law_value) (eCons (eVar 1) eNil)) eNil)) (rConsN (eLst (eCons (eFn (T i__law_value) (eCons (eVar 1) eNil)) eNil)) rNil) [x0, some (.mu 0), x2, some (.dt (.int (kk : Int))), x4, x5, x6, x7, x8, x9, x10] (B1 :: R) = some ([.fr [d1], .fr [d2]], M0) := by
      rw [rConsN_ev, one_lst rfl t2', Option.bind_some, rConsN_ev, one_lst rfl t3', Option.bind_some, rNil_ev]
      rfl
    unfold sPar2N
    rw [e]
    show some (Out.nx [x0, some (.mu 0), x2, some (.dt (.int (kk : Int))), some (.mu M0.length), some (.mu (M0 ++ [MO.l [.dt d1]]).length), x6, x7, x8, x9, x10] (M0 ++ [MO.l [.dt d1]] ++ [MO.l [.dt d2]])) = _
    simp [n]
  have c3 : sTaken (tT 29) 6 7 3 4 5 dueE [x0, some (.mu 0), x2, some (.dt (.int (kk : Int))), some (.mu n), some (.mu (n + 1)), x6, x7, x8, x9, x10] (M0 ++ [.l [.dt d1], .l [.dt d2]]) = some (.nx [x0, some (.mu 0), x2, some (.dt (.int (kk : Int))), some (.mu n), some (.mu (n + 1)), some (.mu (n + 4)), some (.dt (.lst due)), x8, x9, x10] S) := by
    exact c3_ok kk hkk M0 hP d1 d2 ..
  have c4 : sSet 8 manyE [x0, some (.mu 0), x2, some (.dt (.int (kk : Int))), some (.mu n), some (.mu (n + 1)), some (.mu (n + 4)), some (.dt (.lst due)), x8, x9, x10] S = some (.nx (eT x0 x2 kk n due m x9 x10) S) := by
    rw [sSet_ev, many_ev _ _ _ _ _ _ _ _ _ _ kk hkk]
    rfl
  have hS : plM S := plS hP _ _ _ _
  have c5 : tOrB (eBool (eBin gNe (eCall (g1 lenS) (eCons (eVar 6) eNil)) (eC (.int 2)))) (tOrB (tNotB (eTru (eFn (T i__law_alike) (eCons (eBin gIx (eVar 6) (eC (.int 0))) (eCons (eVar 7) eNil))))) (eSameH 6 4 5 8)) (eT x0 x2 kk n due m x9 x10) S = some (false, S) := by
    have v6 : eVar 6 (eT x0 x2 kk n due m x9 x10) S = some (.sv (.mu (n + 4)), S) := rfl
    have v7 : eVar 7 (eT x0 x2 kk n due m x9 x10) S = some (.sv (.dt (.lst due)), S) := rfl
    have l2 : lenS S (.mu (n + 4)) = some (.sv (.dt (.int 2))) := by
      have il : itemsOf S (.mu (n + 4)) = some [.mu (n + 2), .mu (n + 3)] := itemsOf_mu (st4 M0 [.dt d1] [.dt d2] due m)
      unfold lenS
      simp only [il]
      rfl
    have q1 : eBool (eBin gNe (eCall (g1 lenS) (eCons (eVar 6) eNil)) (eC (.int 2))) (eT x0 x2 kk n due m x9 x10) S = some (false, S) := by
      have e : eCall (g1 lenS) (eCons (eVar 6) eNil) (eT x0 x2 kk n due m x9 x10) S = some (.sv (.dt (.int 2)), S) := by
        simp only [eCall_ev, eCons_ev, v6, Option.bind_some, Dy.R.toSV, eNil_ev, g1, l2]
      have c : eC (.int 2) (eT x0 x2 kk n due m x9 x10) S = some (.sv (.dt (.int 2)), S) := rfl
      simp only [eBool_ev, eBin_ev, e, c, Option.bind_some, Dy.R.toSV, gNe_int]
      rfl
    have ga : gIx S (.mu (n + 4)) (.dt (.int 0)) = some (.sv (.mu (n + 2))) := gIx_h (st4 M0 [.dt d1] [.dt d2] due m) rfl
    have al := A' S hS (.mu (n + 2)) (.dt (.lst due)) (peek_mu (st2 M0 [.dt d1] [.dt d2] due m)) (peek_dt _ _ _)
    have q2 : tNotB (eTru (eFn (T i__law_alike) (eCons (eBin gIx (eVar 6) (eC (.int 0))) (eCons (eVar 7) eNil)))) (eT x0 x2 kk n due m x9 x10) S = some (false, S) := by
      refine not_tru ?_
      have c : eC (.int 0) (eT x0 x2 kk n due m x9 x10) S = some (.sv (.dt (.int 0)), S) := rfl
      simp only [eFn_ev, eCons_ev, eBin_ev, v6, v7, c, Option.bind_some, Dy.R.toSV, eNil_ev, ga, al]
    have q3 : eSameH 6 4 5 8 (eT x0 x2 kk n due m x9 x10) S = some (false, S) := same_ev (hm := hm) ..
    rw [tOrB_ev, q1]
    simp only [Option.bind_some]
    rw [if_neg (by decide), tOrB_ev, q2]
    simp only [Option.bind_some]
    rw [if_neg (by decide), q3]
  have c6 : sExpr (eMt "list" gAppend (eVar 4) (eCons (eC (.str "more")) eNil)) (eT x0 x2 kk n due m x9 x10) S = some (.nx (eT x0 x2 kk n due m x9 x10) (stT M0 [.dt d1, .dt (.str (Str.ofString "more"))] [.dt d2] due m)) :=
    app_ev rfl (st0 ..) (app_st0 M0 [.dt d1] [.dt d2] due m _ (by simp))
  have c7 : sExpr (eMt "list" gAppend (eVar 5) (eCons (eC (.str "again")) eNil)) (eT x0 x2 kk n due m x9 x10) (stT M0 [.dt d1, .dt (.str (Str.ofString "more"))] [.dt d2] due m) = some (.nx (eT x0 x2 kk n due m x9 x10) S2) :=
    app_ev rfl (st1 ..) (app_st1 M0 [.dt d1, .dt (.str (Str.ofString "more"))] [.dt d2] due m _ (by simp))
  have c8 : eSameH 6 4 5 8 (eT x0 x2 kk n due m x9 x10) S2 = some (false, S2) := same_ev (hm := hm) ..
  obtain ⟨ρ', M', c9, y9, hρ', hM'⟩ := for_pre (as := List.range m) (e := fun i : Nat => .dt (.int (0 + (i : Int)))) (src := rngSrc 0 m) (ms := eRng1 (eCons (eVar 8) eNil)) (b := bName 9) (body := itemL) (ρ := eT x0 x2 kk n due m x9 x10) (M := S2) (M0 := S2)
    (fun p ρ M => ∃ y9, ρ = eT x0 x2 kk n due m y9 x10 ∧ M = S2) (by
      rw [eRng1_ev, show eVar 8 (eT x0 x2 kk n due m x9 x10) S2 = some (.sv (.dt (.int (m : Int))), S2) from rfl]
      show (if isRange (m : Int) = true then some (rngSrc 0 ((m : Int)).toNat, S2) else none) = _
      rw [if_pos (isRange_of (by omega) (by have : m ≤ 2 := hm; omega))]
      rfl) (isSrc_rng 0 m) ⟨x9, rfl, rfl⟩
    (fun p i q hq ρ M ⟨y9, h1, h2⟩ => by
      subst h1 h2
      have him : i < m := by
        have : i ∈ List.range m := by rw [hq]; simp
        exact List.mem_range.mp this
      exact ⟨_, rfl, _, _, item_ev x0 x2 x10 kk due due m M0 d1 d2 i him hm, some (.dt (.int (0 + (i : Int)))), rfl, rfl⟩)
  subst hρ' hM'
  refine ⟨some (.dt (.int (kk : Int))), some (.mu n), some (.mu (n + 1)), some (.mu (n + 4)), some (.dt (.lst due)), some (.dt (.int (m : Int))), y9, x10, B3, R ++ [.l [.dt d1, .dt (.str (Str.ofString "more"))], .l [.dt d2, .dt (.str (Str.ofString "again"))], .l (due.map .dt), .l (fldH m n (n + 1)), .l [.mu (n + 2), .mu (n + 3)]], ?_, hB3, pl_list hR (by simp)⟩
  have hfin : S2 = B3 :: (R ++ [.l [.dt d1, .dt (.str (Str.ofString "more"))], .l [.dt d2, .dt (.str (Str.ofString "again"))], .l (due.map .dt), .l (fldH m n (n + 1)), .l [.mu (n + 2), .mu (n + 3)]]) := by
    rw [← List.cons_append, hM0]
  rw [← hfin]
  unfold turnL
  refine (sSeq_nx c1).trans ((sSeq_nx c2).trans ((sSeq_nx c3).trans ((sSeq_nx c4).trans ((sSeq_nx (if_no c5)).trans ((sSeq_nx c6).trans ((sSeq_nx c7).trans ((sSeq_nx (if_no c8)).trans ?_)))))))
  exact c9
theorem main (ns : List Int) (hl : ns.length ≤ 63) : tab aF aP 30 i_law [.dt (.scr ns)] [] = some (.sv (.dt (.bl true)), []) := by
  show runBody (m_law (tab aF aP 29) (tT 29) aF aP) 11 [.dt (.scr ns)] [] = _
  rw [runBody_eq, law_eq]
  obtain ⟨cells, b1, hB⟩ := bag_tab aF aP 28 hl
  have n1 : sNew 1 (eFn (tab aF aP 29 i__law_bag) (eCons (eVar 0) eNil)) [some (.dt (.scr ns)), none, none, none, none, none, none, none, none, none, none] [] = some (.nx [some (.dt (.scr ns)), some (.mu 0), none, none, none, none, none, none, none, none, none] [bagL 0 1234567891 0 cells]) := by
    rw [sNew_fr (ds := [.int 0, .int 1234567891, .int 0, .lst (cells.map .int)]) (M' := []) b1]
    rfl
  show fin (sSeq _ _ [some (.dt (.scr ns)), none, none, none, none, none, none, none, none, none, none] []) 0 = _
  rw [sSeq_nx n1]
  obtain ⟨ρ', M', f1, x2, x3, x4, x5, x6, x7, x8, x9, x10, B, R, hρ, hM, hB', hR⟩ := for_pre (as := List.range 8) (e := fun i : Nat => .dt (.int (0 + (i : Int)))) (src := rngSrc 0 8) (ms := eRng1 (eCons (eC (.int 8)) eNil)) (b := bName 2) (body := turnL (tab aF aP 29) (tT 29)) (ρ := [some (.dt (.scr ns)), some (.mu 0), none, none, none, none, none, none, none, none, none]) (M := [bagL 0 1234567891 0 cells]) (M0 := [bagL 0 1234567891 0 cells])
    (fun p ρ M => ∃ x2 x3 x4 x5 x6 x7 x8 x9 x10 B R, ρ = [some (.dt (.scr ns)), some (.mu 0), x2, x3, x4, x5, x6, x7, x8, x9, x10] ∧ M = B :: R ∧ BagO B ∧ plM R) (by rw [eRng1_ev]; rfl) (isSrc_rng 0 8)
    ⟨none, none, none, none, none, none, none, none, none, _, [], rfl, rfl, hB, fun _ => rfl⟩
    (fun p i q hq ρ M ⟨x2, x3, x4, x5, x6, x7, x8, x9, x10, B, R, h1, h2, hB, hR⟩ => by
      subst h1 h2
      obtain ⟨y3, y4, y5, y6, y7, y8, y9, y10, B', R', ht, hB', hR'⟩ := turn_ok aF aP (some (.dt (.scr ns))) (some (.dt (.int (0 + (i : Int))))) x3 x4 x5 x6 x7 x8 x9 x10 hB hR
      exact ⟨_, rfl, _, _, ht, _, _, _, _, _, _, _, _, _, _, _, rfl, rfl, hB', hR'⟩)
  rw [sSeq_nx f1]
  subst hM
  show fin (some (Out.rt (.sv (.dt (.bl true))) (B :: R))) 0 = _
  rw [fin_rt _ _ rfl]
  rfl
end
end K10

set_option Elab.async false
set_option linter.all false
set_option maxRecDepth 100000
set_option maxHeartbeats 0
namespace K10
end K10
open PySem PySem.W PySem.Calls PyProof.Rows
theorem PySem.Challenge.cw_movedchecks_k10_errors_holds : PySem.Challenge.rw_movedchecks_k10_errors.Holds := by
  w_on; o_law
  refine HandSHeadRun.head_any (r := OpenLaw.row PySem.Challenge.rw_movedchecks_k10_errors) (q := view (OpenLaw.row PySem.Challenge.rw_movedchecks_k10_errors).prog [79]) (H := K10.hk) (ob := K10.ob) (M := 16000) (loose := K10.loose) (d := HandSHeadRun.topDef (OpenLaw.row PySem.Challenge.rw_movedchecks_k10_errors).prog 79) (kwd := []) K10.ob_eq
    (by kernel_rfl) (fun s => by kernel_rfl) K10.run (by kernel_rfl) (by kernel_rfl) (by kernel_rfl) (by rfl) (by first | assumption | decide +kernel) (by decide +kernel) ⟨rfl, rfl, rfl, rfl, rfl, by decide +kernel⟩ ?hw ?hc
  case hw => w_witness2
  case hc =>
    refine Dy.walk_end (l := PySem.Challenge.rw_movedchecks_k10_errors) (n := 63) (k := 2 * 30) (x := "_law_script") (CX := L2.CX0) rfl (by decide) (by kernel_rfl) ⟨rfl, by decide, by decide⟩ ?F (fun _ _ _ _ z => z)
    intro w mg fa h Y G hmg0
    obtain ⟨K, KX, c, ci⟩ := Y
    have hmg : mg ("law" : PySem.Str) = some (.ref fa) := by
      have e : (HandSHeadRun.topDef (OpenLaw.row PySem.Challenge.rw_movedchecks_k10_errors).prog 79).name = ("law" : PySem.Str) := by kernel_rfl
      rw [← e]
      exact hmg0
    obtain ⟨fds, FD⟩ := c.all
    have Gx := K10.Gs.of KX G c.yes ci
    have e := hmg.symm.trans Gx.gl_law
    cases e
    exact ⟨K, fds 0, _, KX, fun s u => (FD 0 K10.d_law rfl).bindsA (ps := K10.p_law) (fun _ _ _ _ _ _ us hl => match us, hl with | [_], _ => rfl) s [u] rfl, fun H a ns hl _ hS => Dy.law_sp hS (K10.main _ _ ns hl), fun base _ _ => (K10.fns Gx FD 30).d_law.ok⟩
