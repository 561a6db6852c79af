import PyProof.Rows.All
import Wide.All
import OpenK.AllK
import Wide.FinOn
import HandS.ForMost
import HandS.Deep
import HandS.IsInst
import HandS.ListItems
import HandS.Defaults
import HandS.StrMore
import HandS.Wide
import HandS.Zip
import HandS.More
import KE.KDictDisplayH
import HandS.Replace
import HandS.WideBits
import HandS.Text
import PySem.Str
import KE.KItemsList
import PyProof.TupleOfSeq
import PyProof.Rows.Range3
import HandS.EndBits
import PySem.Challenge.RW_sealhouse_k47_whole_made_as_written_out
-- text Q1
set_option Elab.async false
set_option linter.all false
set_option maxRecDepth 100000
set_option maxHeartbeats 1000000
/-! Layer Q, part 1: deep values, ghost worlds, contexts. -/
namespace Q
open PySem PySem.Spec PyProof.Rows L2

/-- a deep value -/
inductive D where
  | raw (v : V)
  | tup (xs : List D)
  | lst (xs : List D)
  | dK (ks : List Str) (xs : List D)
  | dT (ks : List (Str × Str)) (xs : List D)
  | obj (C : Addr) (ns : List Str) (xs : List D)
  | deal
  | scr (K : PySem.W.Frag) (ns : List Int)
def D.isC : D → Bool
  | .raw _ => false
  | .deal => false
  | .scr _ _ => false
  | _ => true
abbrev D.int (i : Int) : D := .raw (.int i)
abbrev D.str (s : Str) : D := .raw (.str s)
abbrev D.bl (b : Bool) : D := .raw (.bl b)
abbrev D.non : D := .raw .non

/-- the ghost world: the frozen heap, the deals -/
structure Wd where
  F : Hp
  T : Addr → Prop
structure Wd.le (W W' : Wd) : Prop where
  f : ∀ b o, W.F b = some o → W'.F b = some o
  t : ∀ b, W.T b → W'.T b
theorem Wd.le.rfl {W : Wd} : Wd.le W W := ⟨fun _ _ h => h, fun _ h => h⟩
theorem Wd.le.trans {A B C : Wd} (h : Wd.le A B) (g : Wd.le B C) : Wd.le A C := ⟨fun b o q => g.f b o (h.f b o q), fun b q => g.t b (h.t b q)⟩

def kK (t : Str) : Key := .inr t
def kT (p : Str × Str) : List Key := [.inr p.1, .inr p.2]

mutual
inductive At (W : Wd) : V → D → Prop
  | raw (v : V) : At W v (.raw v)
  | tup {a : Addr} {xs : List V} {ds : List D} : W.F a = some (.tup xs) → Ats W xs ds → At W (.ref a) (.tup ds)
  | lst {a : Addr} {xs : List V} {ds : List D} : W.F a = some (.lst xs) → Ats W xs ds → At W (.ref a) (.lst ds)
  | dK {a : Addr} {kvs : List (Key × V)} {ks : List Str} {ds : List D} : W.F a = some (.dK kvs) → kvs.map (·.1) = ks.map kK → Ats W (kvs.map (·.2)) ds → At W (.ref a) (.dK ks ds)
  | dT {a : Addr} {kvs : List (List Key × V)} {ks : List (Str × Str)} {ds : List D} : W.F a = some (.dT kvs) → kvs.map (·.1) = ks.map kT → Ats W (kvs.map (·.2)) ds → At W (.ref a) (.dT ks ds)
  | obj {a C dx : Addr} {fs : List (Str × V)} {ns : List Str} {ds : List D} : W.F a = some (.ins C dx fs) → fs.map (·.1) = ns → Ats W (fs.map (·.2)) ds → At W (.ref a) (.obj C ns ds)
  | deal {a : Addr} : W.T a → At W (.ref a) .deal
  | scr {a : Addr} {K : PySem.W.Frag} {ns : List Int} : (∀ H : Hp, (∀ o, W.F a = some o → H a = some o) → SqL K H a (ns.map V.int)) → At W (.ref a) (.scr K ns)
inductive Ats (W : Wd) : List V → List D → Prop
  | nil : Ats W [] []
  | cons {v : V} {vs : List V} {d : D} {ds : List D} : At W v d → Ats W vs ds → Ats W (v :: vs) (d :: ds)
end

mutual
theorem At.mono {W W' : Wd} (h : Wd.le W W') : ∀ (d : D) {v : V}, At W v d → At W' v d
  | .raw _, _, q => by cases q; exact .raw _
  | .tup ds, _, q => by cases q with | tup e r => exact .tup (h.f _ _ e) (Ats.mono h ds r)
  | .lst ds, _, q => by cases q with | lst e r => exact .lst (h.f _ _ e) (Ats.mono h ds r)
  | .dK _ ds, _, q => by cases q with | dK e k r => exact .dK (h.f _ _ e) k (Ats.mono h ds r)
  | .dT _ ds, _, q => by cases q with | dT e k r => exact .dT (h.f _ _ e) k (Ats.mono h ds r)
  | .obj _ _ ds, _, q => by cases q with | obj e k r => exact .obj (h.f _ _ e) k (Ats.mono h ds r)
  | .deal, _, q => by cases q with | deal e => exact .deal (h.t _ e)
  | .scr _ _, _, q => by cases q with | scr e => exact .scr fun H z => e H fun o y => z o (h.f _ _ y)
theorem Ats.mono {W W' : Wd} (h : Wd.le W W') : ∀ (ds : List D) {vs : List V}, Ats W vs ds → Ats W' vs ds
  | [], _, q => by cases q; exact .nil
  | d :: ds, _, q => by cases q with | cons a b => exact .cons (At.mono h d a) (Ats.mono h ds b)
end

/-- what stands at an address, by its shape -/
def Top (W : Wd) : HO → D → Prop
  | .tup xs, .tup ds => Ats W xs ds
  | .lst xs, .lst ds => Ats W xs ds
  | .dK kvs, .dK ks ds => kvs.map (·.1) = ks.map kK ∧ Ats W (kvs.map (·.2)) ds
  | .dT kvs, .dT ks ds => kvs.map (·.1) = ks.map kT ∧ Ats W (kvs.map (·.2)) ds
  | .ins C _ fs, .obj C' ns ds => C = C' ∧ fs.map (·.1) = ns ∧ Ats W (fs.map (·.2)) ds
  | _, _ => False
theorem Top.mono {W W' : Wd} (h : Wd.le W W') : ∀ {o : HO} {d : D}, Top W o d → Top W' o d := by
  intro o d q
  cases o <;> cases d <;> first | exact q.elim | skip
  · exact Ats.mono h _ q
  · exact Ats.mono h _ q
  · exact ⟨q.1, Ats.mono h _ q.2⟩
  · exact ⟨q.1, Ats.mono h _ q.2⟩
  · exact ⟨q.1, q.2.1, Ats.mono h _ q.2.2⟩
theorem Top.at_ {W : Wd} {a : Addr} : ∀ {o : HO} {d : D}, W.F a = some o → Top W o d → At W (.ref a) d := by
  intro o d e q
  cases o <;> cases d <;> first | exact q.elim | skip
  · exact .lst e q
  · exact .tup e q
  · exact .dK e q.1 q.2
  · exact .dT e q.1 q.2
  · obtain ⟨q1, q2, q3⟩ := q
    subst q1
    exact .obj e q2 q3
theorem Top.tup {W : Wd} {o : HO} {ds : List D} (h : Top W o (.tup ds)) : ∃ xs, o = .tup xs ∧ Ats W xs ds := by
  cases o <;> first | exact h.elim | exact ⟨_, rfl, h⟩
theorem Top.lst {W : Wd} {o : HO} {ds : List D} (h : Top W o (.lst ds)) : ∃ xs, o = .lst xs ∧ Ats W xs ds := by
  cases o <;> first | exact h.elim | exact ⟨_, rfl, h⟩
theorem Top.dK {W : Wd} {o : HO} {ks : List Str} {ds : List D} (h : Top W o (.dK ks ds)) : ∃ kvs, o = .dK kvs ∧ kvs.map (·.1) = ks.map kK ∧ Ats W (kvs.map (·.2)) ds := by
  cases o <;> first | exact h.elim | exact ⟨_, rfl, h⟩
theorem Top.dT {W : Wd} {o : HO} {ks : List (Str × Str)} {ds : List D} (h : Top W o (.dT ks ds)) : ∃ kvs, o = .dT kvs ∧ kvs.map (·.1) = ks.map kT ∧ Ats W (kvs.map (·.2)) ds := by
  cases o <;> first | exact h.elim | exact ⟨_, rfl, h⟩
theorem Top.obj {W : Wd} {o : HO} {C : Addr} {ns : List Str} {ds : List D} (h : Top W o (.obj C ns ds)) : ∃ dx fs, o = .ins C dx fs ∧ fs.map (·.1) = ns ∧ Ats W (fs.map (·.2)) ds := by
  cases o <;> first | exact h.elim | skip
  obtain ⟨q1, q2, q3⟩ := h
  subst q1
  exact ⟨_, _, rfl, q2, q3⟩
theorem Top.nofrz {W : Wd} {ob : Obj} {u : HO} {d : D} (h : Top W (.frz ob u) d) : False := by cases d <;> exact h
theorem Top.noraw {W : Wd} {o : HO} {v : V} (h : Top W o (.raw v)) : False := by cases o <;> exact h
theorem Top.nodeal {W : Wd} {o : HO} (h : Top W o .deal) : False := by cases o <;> exact h
theorem Top.isC {W : Wd} {o : HO} {d : D} (h : Top W o d) : d.isC = true := by cases d <;> first | rfl | (cases o <;> exact h.elim)
/-- a frozen container -/
theorem At.top {W : Wd} {v : V} {d : D} (h : At W v d) (hc : d.isC = true) : ∃ a o, v = .ref a ∧ W.F a = some o ∧ Top W o d := by
  cases h with
  | raw => cases hc
  | tup e r => exact ⟨_, _, rfl, e, r⟩
  | lst e r => exact ⟨_, _, rfl, e, r⟩
  | dK e k r => exact ⟨_, _, rfl, e, k, r⟩
  | dT e k r => exact ⟨_, _, rfl, e, k, r⟩
  | obj e k r => exact ⟨_, _, rfl, e, rfl, k, r⟩
  | deal e => cases hc
  | scr e => cases hc
theorem Ats.length {W : Wd} : ∀ {vs : List V} {ds : List D}, Ats W vs ds → vs.length = ds.length
  | _, _, .nil => rfl
  | _, _, .cons _ t => congrArg Nat.succ (Ats.length t)
theorem Ats.get {W : Wd} : ∀ {vs : List V} {ds : List D} {i : Nat} {v : V}, Ats W vs ds → vs[i]? = some v → ∃ d, ds[i]? = some d ∧ At W v d
  | _, _, _, _, .nil, e => by simp at e
  | _, _, 0, _, .cons r _, e => by simp at e; subst e; exact ⟨_, rfl, r⟩
  | _, _, i + 1, v, .cons _ t, e => by
    obtain ⟨d, h1, h2⟩ := Ats.get (i := i) (v := v) t (by simpa using e)
    exact ⟨d, by simpa using h1, h2⟩
theorem Ats.get' {W : Wd} : ∀ {vs : List V} {ds : List D} {i : Nat} {d : D}, Ats W vs ds → ds[i]? = some d → ∃ v, vs[i]? = some v ∧ At W v d
  | _, _, _, _, .nil, e => by simp at e
  | _, _, 0, _, .cons r _, e => by simp at e; subst e; exact ⟨_, rfl, r⟩
  | _, _, i + 1, d, .cons _ t, e => by
    obtain ⟨v, h1, h2⟩ := Ats.get' (i := i) (d := d) t (by simpa using e)
    exact ⟨v, by simpa using h1, h2⟩
theorem Ats.append {W : Wd} : ∀ {xs ys : List V} {ds es : List D}, Ats W xs ds → Ats W ys es → Ats W (xs ++ ys) (ds ++ es)
  | _, _, _, _, .nil, s => s
  | _, _, _, _, .cons r t, s => .cons r (Ats.append t s)
theorem Ats.set {W : Wd} {v : V} {d : D} (r : At W v d) : ∀ {xs : List V} {ds : List D} (i : Nat), Ats W xs ds → Ats W (xs.set i v) (ds.set i d)
  | _, _, _, .nil => .nil
  | _, _, 0, .cons _ t => .cons r t
  | _, _, i + 1, .cons q t => .cons q (Ats.set r i t)
theorem Ats.take {W : Wd} : ∀ {xs : List V} {ds : List D} (n : Nat), Ats W xs ds → Ats W (xs.take n) (ds.take n)
  | _, _, 0, _ => .nil
  | _, _, _ + 1, .nil => .nil
  | _, _, n + 1, .cons r t => .cons r (Ats.take n t)
theorem Ats.drop {W : Wd} : ∀ {xs : List V} {ds : List D} (n : Nat), Ats W xs ds → Ats W (xs.drop n) (ds.drop n)
  | _, _, 0, r => r
  | _, _, _ + 1, .nil => .nil
  | _, _, n + 1, .cons _ t => Ats.drop n t

/-- a slot: nothing known; a frozen value; a container of one's own; the caller's container to be changed; .. to be read -/
inductive SV where
  | no
  | fr (d : D)
  | own (d : D)
  | mt (a : Addr) (d : D)
  | rd (d : D)
def SV.isOwn : SV → Bool
  | .own _ => true
  | .mt _ _ => true
  | _ => false
def SV.isPl : SV → Bool
  | .own _ => true
  | .mt _ _ => true
  | .rd _ => true
  | _ => false
def SV.con : SV → Option D
  | .own d => some d
  | .mt _ d => some d
  | .rd d => some d
  | _ => none
def SV.put : SV → D → SV
  | .own _, d => .own d
  | .mt a _, d => .mt a d
  | s, _ => s

/-- the entry of a def: the world and the heap there, what it may change, what is locked -/
structure En where
  W : Wd
  H : Hp
  M : List Addr
  L : Option Addr

/-- the greatest size of a deal's number -/
def DealOk (n : Int) : Prop := n.natAbs < 2 ^ 1048700
def IsDeal (H : Hp) (a : Addr) : Prop := ∃ f n : Int, H a = some (.lst [.int f, .int n]) ∧ DealOk n
def RdL (L : Option Addr) (H : Hp) (a : Addr) (o : HO) : Prop := (L ≠ some a ∧ H a = some o) ∨ (L = some a ∧ ∃ od, H a = some (.frz od o))
theorem RdL.rd {L : Option Addr} {H : Hp} {a : Addr} {o : HO} (h : RdL L H a o) : Rd H a o := h.elim (fun q => .inl q.2) fun q => .inr q.2

/-- the global part of a context -/
structure Ex (E : En) (W : Wd) (H : Hp) : Prop where
  leW : Wd.le E.W W
  newF : ∀ b o, W.F b = some o → E.W.F b = some o ∨ E.H b = none
  newT : ∀ b, W.T b → E.W.T b ∨ E.H b = none
  apart : ∀ b, W.T b → W.F b = none
  sub : ∀ b o, W.F b = some o → RdL E.L H b o
  deal : ∀ b, W.T b → IsDeal H b
  frm : ∀ b o, E.H b = some o → b ∉ E.M → ¬ E.W.T b → H b = some o
  dom : ∀ b o, E.H b = some o → ∃ o', H b = some o'
  lk : ∀ d, E.L = some d → ∃ od u, H d = some (.frz od u) ∧ ((∃ kvs, u = .dK kvs) ∨ ∃ kvs, u = .dT kvs)

/-- a slot's content; A: addresses whose content is in doubt -/
def SlotOk (A : List Addr) (E : En) (W : Wd) (H : Hp) (s : Option V) : SV → Prop
  | .no => True
  | .fr d => ∃ v, s = some v ∧ At W v d
  | .own d => ∃ a, s = some (.ref a) ∧ (a ∉ A → ∃ o, H a = some o ∧ Top W o d) ∧ W.F a = none ∧ ¬ W.T a ∧ E.H a = none ∧ ∃ o, H a = some o
  | .mt a d => s = some (.ref a) ∧ (a ∉ A → ∃ o, H a = some o ∧ Top W o d) ∧ W.F a = none ∧ ¬ W.T a ∧ a ∈ E.M ∧ ∃ o, H a = some o
  | .rd d => ∃ a o, s = some (.ref a) ∧ RdL E.L H a o ∧ Top W o d ∧ ¬ W.T a

structure OkA (A : List Addr) (E : En) (W : Wd) (G : List SV) (σ : L2.St) (H : Hp) : Prop where
  ex : Ex E W H
  len : σ.length = G.length
  slot : ∀ (i : Nat) (g : SV), G[i]? = some g → ∃ s, σ[i]? = some s ∧ SlotOk A E W H s g
  dis : ∀ (i j : Nat) (gi gj : SV) (a : Addr), i ≠ j → G[i]? = some gi → gi.isOwn = true → G[j]? = some gj → gj.isPl = true → σ[i]? = some (some (.ref a)) → σ[j]? = some (some (.ref a)) → False
abbrev Ok := OkA []

theorem nofr {L : Option Addr} {H : Hp} {a : Addr} {o : HO} (h : RdL L H a o) (lk : ∀ d, L = some d → ∃ od u, H d = some (.frz od u) ∧ ((∃ kvs, u = .dK kvs) ∨ ∃ kvs, u = .dT kvs))
    (n1 : ∀ kvs, o ≠ .dK kvs) (n2 : ∀ kvs, o ≠ .dT kvs) : H a = some o := by
  rcases h with h | ⟨h, od, e⟩
  · exact h.2
  · obtain ⟨od', u, e', r⟩ := lk a h
    rw [e] at e'
    injection e' with e'
    injection e' with _ e2
    subst e2
    rcases r with ⟨kvs, r⟩ | ⟨kvs, r⟩
    · exact absurd r (n1 kvs)
    · exact absurd r (n2 kvs)
/-- a tracked thing that isn't frozen isn't the locked one -/
theorem Ex.nolk {E : En} {W : Wd} {H : Hp} (x : Ex E W H) {a : Addr} {o : HO} (h : H a = some o) (n : ∀ od u, o ≠ .frz od u) : E.L ≠ some a := fun e => by
  obtain ⟨od, u, e', _⟩ := x.lk a e
  rw [h] at e'
  injection e' with e'
  exact n _ _ e'
theorem Ex.rdl {E : En} {W : Wd} {H : Hp} (x : Ex E W H) {a : Addr} {o : HO} (h : H a = some o) (n : ∀ od u, o ≠ .frz od u) : RdL E.L H a o := .inl ⟨x.nolk h n, h⟩
theorem Ex.newH {E : En} {W : Wd} {H : Hp} (x : Ex E W H) {b : Addr} (h : H b = none) : E.H b = none := by
  cases q : E.H b with
  | none => rfl
  | some o =>
    obtain ⟨o', e⟩ := x.dom b o q
    rw [h] at e
    cases e

/-- the heap grows, the frozen part too -/
theorem Ex.ext {E : En} {W W' : Wd} {H H' : Hp} (x : Ex E W H) (hs : ∀ b o, H b = some o → H' b = some o) (hF : Wd.le W W') (hN : ∀ b o, W'.F b = some o → W.F b = some o ∨ (H b = none ∧ H' b = some o))
    (hT : ∀ b, W'.T b → W.T b ∨ (H b = none ∧ IsDeal H' b)) (hA : ∀ b, W'.T b → W'.F b = none) : Ex E W' H' where
  leW := x.leW.trans hF
  newF := fun b o e => (hN b o e).elim (x.newF b o) fun q => .inr (x.newH q.1)
  newT := fun b e => (hT b e).elim (x.newT b) fun q => .inr (x.newH q.1)
  apart := hA
  sub := fun b o e => (hN b o e).elim (fun q => (x.sub b o q).elim (fun z => .inl ⟨z.1, hs _ _ z.2⟩) fun z => .inr ⟨z.1, z.2.elim fun od y => ⟨od, hs _ _ y⟩⟩) fun q => .inl ⟨fun z => (by
    obtain ⟨od, u, y, _⟩ := x.lk b z
    rw [q.1] at y
    cases y), q.2⟩
  deal := fun b e => (hT b e).elim (fun q => let ⟨f, n, y, z⟩ := x.deal b q; ⟨f, n, hs _ _ y, z⟩) fun q => q.2
  frm := fun b o e h1 h2 => hs b o (x.frm b o e h1 h2)
  dom := fun b o e => let ⟨o', y⟩ := x.dom b o e; ⟨o', hs _ _ y⟩
  lk := fun d e => let ⟨od, u, y, z⟩ := x.lk d e; ⟨od, u, hs _ _ y, z⟩
theorem SlotOk.ext {A : List Addr} {E : En} {W W' : Wd} {H H' : Hp} {s : Option V} (hs : ∀ b o, H b = some o → H' b = some o) (hF : Wd.le W W') (hN : ∀ b o, W'.F b = some o → W.F b = some o ∨ (H b = none ∧ H' b = some o))
    (hT : ∀ b, W'.T b → W.T b ∨ (H b = none ∧ IsDeal H' b)) : ∀ {g : SV}, SlotOk A E W H s g → SlotOk A E W' H' s g := by
  have nF : ∀ {a : Addr}, W.F a = none → (∃ o, H a = some o) → W'.F a = none := fun {a} h1 ⟨o, h2⟩ => by
    cases q : W'.F a with
    | none => rfl
    | some u =>
      rcases hN a u q with z | z
      · rw [h1] at z; cases z
      · rw [h2] at z; cases z.1
  have nT : ∀ {a : Addr}, ¬ W.T a → (∃ o, H a = some o) → ¬ W'.T a := fun {a} h1 ⟨o, h2⟩ q => by
    rcases hT a q with z | z
    · exact h1 z
    · rw [h2] at z; cases z.1
  intro g q
  cases g with
  | no => exact True.intro
  | fr d => obtain ⟨v, e, r⟩ := q; exact ⟨v, e, At.mono hF _ r⟩
  | own d => obtain ⟨a, e, r, f, t, n, k⟩ := q; exact ⟨a, e, fun z => let ⟨o, y1, y2⟩ := r z; ⟨o, hs _ _ y1, y2.mono hF⟩, nF f k, nT t k, n, k.elim fun o y => ⟨o, hs _ _ y⟩⟩
  | mt a d => obtain ⟨e, r, f, t, n, k⟩ := q; exact ⟨e, fun z => let ⟨o, y1, y2⟩ := r z; ⟨o, hs _ _ y1, y2.mono hF⟩, nF f k, nT t k, n, k.elim fun o y => ⟨o, hs _ _ y⟩⟩
  | rd d =>
    obtain ⟨a, o, e, r, t, n⟩ := q
    have k : ∃ o, H a = some o := r.elim (fun z => ⟨_, z.2⟩) fun z => z.2.elim fun od y => ⟨_, y⟩
    exact ⟨a, o, e, r.elim (fun z => .inl ⟨z.1, hs _ _ z.2⟩) (fun z => .inr ⟨z.1, z.2.elim fun od y => ⟨od, hs _ _ y⟩⟩), t.mono hF, nT n k⟩
theorem OkA.ext {A : List Addr} {E : En} {W W' : Wd} {G : List SV} {σ : L2.St} {H H' : Hp} (h : OkA A E W G σ H) (hs : ∀ b o, H b = some o → H' b = some o) (hF : Wd.le W W') (hN : ∀ b o, W'.F b = some o → W.F b = some o ∨ (H b = none ∧ H' b = some o))
    (hT : ∀ b, W'.T b → W.T b ∨ (H b = none ∧ IsDeal H' b)) (hA : ∀ b, W'.T b → W'.F b = none) : OkA A E W' G σ H' :=
  ⟨h.ex.ext hs hF hN hT hA, h.len, fun i g e => let ⟨s, e1, e2⟩ := h.slot i g e; ⟨s, e1, e2.ext hs hF hN hT⟩, h.dis⟩

/-- a new object, not frozen -/
theorem OkA.new {A : List Addr} {E : En} {W : Wd} {G : List SV} {σ : L2.St} {H : Hp} (h : OkA A E W G σ H) {p : Addr} {o : HO} (hp : H p = none) : OkA A E W G σ (upd H p o) :=
  h.ext (fun b u e => by rw [upd_ne (ne_of_none e hp)]; exact e) .rfl (fun b u e => .inl e) (fun b e => .inl e) h.ex.apart
/-- the world with one more frozen thing -/
def Wd.frz (W : Wd) (p : Addr) (o : HO) : Wd := ⟨upd W.F p o, W.T⟩
theorem Wd.frz_le {W : Wd} {p : Addr} {o : HO} (h : W.F p = none) : W.le (W.frz p o) := ⟨fun b u e => by show upd W.F p o b = some u; rw [upd_ne (ne_of_none e h)]; exact e, fun b e => e⟩
theorem Ex.fresh {E : En} {W : Wd} {H : Hp} (x : Ex E W H) {p : Addr} (hp : H p = none) : W.F p = none ∧ ¬ W.T p := by
  refine ⟨?_, fun t => ?_⟩
  · cases q : W.F p with
    | none => rfl
    | some u =>
      have := (x.sub p u q).rd
      rcases this with z | ⟨od, z⟩ <;> (rw [hp] at z; cases z)
  · obtain ⟨f, n, e, _⟩ := x.deal p t
    rw [hp] at e; cases e
/-- a new object, frozen -/
theorem OkA.newF {A : List Addr} {E : En} {W : Wd} {G : List SV} {σ : L2.St} {H : Hp} (h : OkA A E W G σ H) {p : Addr} {o : HO} (hp : H p = none) : OkA A E (W.frz p o) G σ (upd H p o) := by
  obtain ⟨f1, t1⟩ := h.ex.fresh hp
  refine h.ext (fun b u e => by rw [upd_ne (ne_of_none e hp)]; exact e) (Wd.frz_le f1) (fun b u e => ?_) (fun b e => .inl e) fun b e => ?_
  · have e : upd W.F p o b = some u := e
    by_cases q : b = p
    · subst q
      rw [upd_same] at e
      exact .inr ⟨hp, by rw [upd_same]; exact e⟩
    · rw [upd_ne q] at e
      exact .inl e
  · show upd W.F p o b = none
    rw [upd_ne (fun z => t1 (by rw [← z]; exact e))]
    exact h.ex.apart b e
theorem At.newF {W : Wd} {p : Addr} {o : HO} {d : D} (hp : W.F p = none) (t : Top W o d) : At (W.frz p o) (.ref p) d :=
  Top.at_ (W := W.frz p o) (o := o) (by show upd W.F p o p = some o; exact upd_same) (t.mono (Wd.frz_le hp))

/-- a result: a frozen value, a new container of one's own, a slot's container -/
inductive R where
  | v (d : D)
  | o (d : D)
  | p (i : Nat)
def ROk (E : En) (W : Wd) (G : List SV) (σ : L2.St) (H : Hp) : R → V → Prop
  | .v d, x => At W x d
  | .o d, x => ∃ a ob, x = .ref a ∧ H a = some ob ∧ Top W ob d ∧ W.F a = none ∧ ¬ W.T a ∧ E.H a = none ∧ ∀ (j : Nat) (g : SV), G[j]? = some g → g.isPl = true → σ[j]? ≠ some (some (.ref a))
  | .p i, x => σ[i]? = some (some x)
def con (G : List SV) : R → Option D
  | .v d => some d
  | .o d => some d
  | .p i => (G[i]?).bind SV.con

/-- a place's address -/
theorem OkA.place {A : List Addr} {E : En} {W : Wd} {G : List SV} {σ : L2.St} {H : Hp} (h : OkA A E W G σ H) {i : Nat} {g : SV} (e : G[i]? = some g) (p : g.isPl = true) : ∃ a o, σ[i]? = some (some (.ref a)) ∧ H a = some o ∧ ¬ W.T a := by
  obtain ⟨s, e1, e2⟩ := h.slot i g e
  cases g with
  | no => cases p
  | fr => cases p
  | own d => obtain ⟨a, q, _, _, t, _, o, k⟩ := e2; exact ⟨a, o, by rw [e1, q], k, t⟩
  | mt a d => obtain ⟨q, _, _, t, _, o, k⟩ := e2; exact ⟨a, o, by rw [e1, q], k, t⟩
  | rd d =>
    obtain ⟨a, o, q, r, _, t⟩ := e2
    rcases r with r | ⟨_, od, r⟩
    · exact ⟨a, _, by rw [e1, q], r.2, t⟩
    · exact ⟨a, _, by rw [e1, q], r, t⟩
/-- a new thing stands apart from every place -/
theorem OkA.freshR {A : List Addr} {E : En} {W : Wd} {G : List SV} {σ : L2.St} {H : Hp} (h : OkA A E W G σ H) {p : Addr} {ob : HO} {d : D} (hp : H p = none) (t : Top W ob d) : ROk E W G σ (upd H p ob) (.o d) (.ref p) := by
  obtain ⟨f1, t1⟩ := h.ex.fresh hp
  refine ⟨p, ob, rfl, upd_same, t, f1, t1, h.ex.newH hp, fun j g e pl z => ?_⟩
  obtain ⟨a, o, e1, e2, _⟩ := h.place e pl
  rw [e1] at z
  injection z with z
  injection z with z
  injection z with z
  rw [z, hp] at e2
  cases e2
/-- a new container is frozen -/
theorem Ok.freeze {E : En} {W : Wd} {G : List SV} {σ : L2.St} {H : Hp} {d : D} {x : V} (h : Ok E W G σ H) (r : ROk E W G σ H (.o d) x) : ∃ W', W.le W' ∧ Ok E W' G σ H ∧ At W' x d := by
  obtain ⟨a, ob, rfl, e, t, f, nt, n, ap⟩ := r
  have nf : ∀ od u, ob ≠ .frz od u := fun od u z => by subst z; exact t.nofrz
  have le := Wd.frz_le (o := ob) f
  refine ⟨W.frz a ob, le, ⟨?_, h.len, fun i g eg => ?_, h.dis⟩, At.newF f t⟩
  · have x := h.ex
    refine ⟨x.leW.trans le, fun b o e' => ?_, x.newT, fun b tb => ?_, fun b o e' => ?_, x.deal, x.frm, x.dom, x.lk⟩
    · have e' : upd W.F a ob b = some o := e'
      by_cases q : b = a
      · subst q; exact .inr n
      · rw [upd_ne q] at e'; exact x.newF b o e'
    · show upd W.F a ob b = none
      rw [upd_ne (fun z => nt (by rw [← z]; exact tb))]
      exact x.apart b tb
    · have e' : upd W.F a ob b = some o := e'
      by_cases q : b = a
      · subst q
        rw [upd_same] at e'
        injection e' with e'
        subst e'
        exact x.rdl e nf
      · rw [upd_ne q] at e'; exact x.sub b o e'
  · obtain ⟨s, e1, e2⟩ := h.slot i g eg
    refine ⟨s, e1, ?_⟩
    have nF : ∀ {c : Addr}, g.isPl = true → s = some (.ref c) → W.F c = none → (W.frz a ob).F c = none := fun {c} pl es fc => by
      show upd W.F a ob c = none
      rw [upd_ne (fun z => ap i g eg pl (by rw [e1, es, z]))]
      exact fc
    cases g with
    | no => exact True.intro
    | fr d => obtain ⟨v, e, r⟩ := e2; exact ⟨v, e, At.mono le _ r⟩
    | own d => obtain ⟨c, e, r, f', t', n', k⟩ := e2; exact ⟨c, e, fun z => let ⟨o, y1, y2⟩ := r z; ⟨o, y1, y2.mono le⟩, nF rfl e f', t', n', k⟩
    | mt c d => obtain ⟨e, r, f', t', n', k⟩ := e2; exact ⟨e, fun z => let ⟨o, y1, y2⟩ := r z; ⟨o, y1, y2.mono le⟩, nF rfl e f', t', n', k⟩
    | rd d => obtain ⟨c, o, e, r, t', n'⟩ := e2; exact ⟨c, o, e, r, t'.mono le, n'⟩
/-- a result's container is to be read -/
theorem Ok.read {E : En} {W : Wd} {G : List SV} {σ : L2.St} {H : Hp} {r : R} {d : D} {x : V} (h : Ok E W G σ H) (q : ROk E W G σ H r x) (c : con G r = some d) (hc : d.isC = true) : ∃ a o, x = .ref a ∧ RdL E.L H a o ∧ Top W o d ∧ ¬ W.T a := by
  cases r with
  | v d' =>
    injection c with c
    subst c
    obtain ⟨a, o, e, f, t⟩ := At.top q hc
    exact ⟨a, o, e, h.ex.sub _ _ f, t, fun z => by rw [h.ex.apart a z] at f; cases f⟩
  | o d' =>
    injection c with c
    subst c
    obtain ⟨a, ob, e, f, t, _, nt, _⟩ := q
    exact ⟨a, ob, e, h.ex.rdl f (fun od u z => by subst z; exact t.nofrz), t, nt⟩
  | p i =>
    have q : σ[i]? = some (some x) := q
    have c : (G[i]?).bind SV.con = some d := c
    cases eg : G[i]? with
    | none => rw [eg] at c; cases c
    | some g =>
      rw [eg] at c
      have c : g.con = some d := c
      obtain ⟨s, e1, e2⟩ := h.slot i g eg
      rw [q] at e1
      injection e1 with e1
      subst e1
      cases g with
      | no => cases c
      | fr => cases c
      | own d' =>
        injection c with c
        subst c
        obtain ⟨a, e, r, _, t, _⟩ := e2
        injection e with e
        obtain ⟨o, y1, y2⟩ := r (by simp)
        exact ⟨a, o, e, h.ex.rdl y1 (fun od u z => by subst z; exact y2.nofrz), y2, t⟩
      | mt a d' =>
        injection c with c
        subst c
        obtain ⟨e, r, _, t, _⟩ := e2
        injection e with e
        obtain ⟨o, y1, y2⟩ := r (by simp)
        exact ⟨a, o, e, h.ex.rdl y1 (fun od u z => by subst z; exact y2.nofrz), y2, t⟩
      | rd d' =>
        injection c with c
        subst c
        obtain ⟨a, o, e, r, t, n⟩ := e2
        injection e with e
        exact ⟨a, o, e, r, t, n⟩
end Q
-- text Q2
set_option Elab.async false
set_option linter.all false
set_option maxRecDepth 100000
set_option maxHeartbeats 1000000
/-! Layer Q, part 2: steps of a context: stores, freezing, deals. -/
namespace Q
open PySem PySem.Spec PyProof.Rows L2

theorem get_set {α : Type} {l : List α} {i j : Nat} {x y : α} (h : (l.set i x)[j]? = some y) : (j = i ∧ y = x ∧ i < l.length) ∨ (j ≠ i ∧ l[j]? = some y) := by
  by_cases e : i = j
  · subst e
    by_cases hl : i < l.length
    · rw [List.getElem?_set_self hl] at h
      injection h with h
      exact .inl ⟨rfl, h.symm, hl⟩
    · rw [List.getElem?_eq_none (by simpa using hl)] at h
      cases h
  · rw [List.getElem?_set_ne e] at h
    exact .inr ⟨fun z => e z.symm, h⟩

/-- a slot gets a value; the new slot is a place only if its thing stands apart -/
theorem Ok.set {E : En} {W : Wd} {G : List SV} {σ : L2.St} {H : Hp} (h : Ok E W G σ H) {i : Nat} {g : SV} {x : V} (s : SlotOk [] E W H (some x) g)
    (ap : g.isOwn = true → ∀ (j : Nat) (g' : SV), j ≠ i → G[j]? = some g' → g'.isPl = true → σ[j]? ≠ some (some x))
    (ap2 : g.isPl = true → ∀ (j : Nat) (g' : SV), j ≠ i → G[j]? = some g' → g'.isOwn = true → σ[j]? ≠ some (some x)) : Ok E W (G.set i g) (σ.set i (some x)) H := by
  refine ⟨h.ex, by rw [List.length_set, List.length_set]; exact h.len, fun j g' e => ?_, fun j k gj gk a ne e1 o1 e2 p2 s1 s2 => ?_⟩
  · rcases get_set e with ⟨rfl, rfl, hl⟩ | ⟨ne, e⟩
    · exact ⟨some x, List.getElem?_set_self (by rw [h.len]; exact hl), s⟩
    · obtain ⟨t, q1, q2⟩ := h.slot j g' e
      exact ⟨t, by rw [List.getElem?_set_ne (fun z => ne z.symm)]; exact q1, q2⟩
  · rcases get_set e1 with ⟨rfl, rfl, hl⟩ | ⟨n1, e1'⟩
    · rcases get_set e2 with ⟨rfl, rfl, _⟩ | ⟨n2, e2'⟩
      · exact ne rfl
      · rw [List.getElem?_set_self (by rw [h.len]; exact hl)] at s1
        rw [List.getElem?_set_ne (fun z => n2 z.symm)] at s2
        injection s1 with s1
        injection s1 with s1
        exact ap o1 k gk n2 e2' p2 (by rw [s2, s1])
    · rw [List.getElem?_set_ne (fun z => n1 z.symm)] at s1
      rcases get_set e2 with ⟨rfl, rfl, hl⟩ | ⟨n2, e2'⟩
      · rw [List.getElem?_set_self (by rw [h.len]; exact hl)] at s2
        injection s2 with s2
        injection s2 with s2
        exact ap2 p2 j gj n1 e1' o1 (by rw [s1, s2])
      · rw [List.getElem?_set_ne (fun z => n2 z.symm)] at s2
        exact h.dis j k gj gk a ne e1' o1 e2' p2 s1 s2
theorem Ok.setFr {E : En} {W : Wd} {G : List SV} {σ : L2.St} {H : Hp} (h : Ok E W G σ H) {i : Nat} {d : D} {x : V} (s : At W x d) : Ok E W (G.set i (.fr d)) (σ.set i (some x)) H :=
  h.set ⟨x, rfl, s⟩ (fun z => by cases z) (fun z => by cases z)
theorem Ok.setOwn {E : En} {W : Wd} {G : List SV} {σ : L2.St} {H : Hp} (h : Ok E W G σ H) {i : Nat} {d : D} {x : V} (r : ROk E W G σ H (.o d) x) : Ok E W (G.set i (.own d)) (σ.set i (some x)) H := by
  obtain ⟨a, ob, rfl, e, t, f, nt, n, ap⟩ := r
  exact h.set ⟨a, rfl, fun _ => ⟨ob, e, t⟩, f, nt, n, ob, e⟩ (fun _ j g' _ e' p => ap j g' e' p) fun _ j g' _ e' p => ap j g' e' (by cases g' <;> first | rfl | cases p)
/-- a slot's read-only place is named once more -/
theorem Ok.setRd {E : En} {W : Wd} {G : List SV} {σ : L2.St} {H : Hp} (h : Ok E W G σ H) {i j : Nat} {d : D} {x : V} (e : G[j]? = some (.rd d)) (r : σ[j]? = some (some x)) : Ok E W (G.set i (.rd d)) (σ.set i (some x)) H := by
  obtain ⟨s, e1, a, o, q, rest⟩ := h.slot j _ e
  rw [r] at e1
  injection e1 with e1
  rw [q] at e1
  injection e1 with e1
  subst e1
  refine h.set ⟨a, o, rfl, rest⟩ (fun z => by cases z) fun _ k g' ne e' p z => ?_
  by_cases hk : k = j
  · subst hk; rw [e] at e'; injection e' with e'; subst e'; cases p
  · exact h.dis k j g' _ a hk e' p e rfl z r
/-- a read-only thing (a tuple, met on the way) gets a name -/
theorem Ok.setRd' {E : En} {W : Wd} {G : List SV} {σ : L2.St} {H : Hp} (h : Ok E W G σ H) {i : Nat} {xs : List V} {ds : List D} {a : Addr} (e : H a = some (.tup xs)) (t : Ats W xs ds) : Ok E W (G.set i (.rd (.tup ds))) (σ.set i (some (.ref a))) H ∨ (∃ (k : Nat) (d : D), G[k]? = some (.own d) ∨ ∃ a, G[k]? = some (.mt a d) ∧ True) := by
  by_cases c : ∃ (k : Nat) (d : D), G[k]? = some (.own d) ∨ ∃ a, G[k]? = some (.mt a d) ∧ True
  · exact .inr c
  · refine .inl (h.set ⟨a, .tup xs, rfl, h.ex.rdl e (fun _ _ z => nomatch z), t, fun z => ?_⟩ (fun z => by cases z) fun _ k g' ne e' p z => ?_)
    · obtain ⟨f, n, q, _⟩ := h.ex.deal a z
      rw [e] at q; cases q
    · cases g' with
      | own d => exact c ⟨k, d, .inl e'⟩
      | mt b d => exact c ⟨k, d, .inr ⟨b, e', True.intro⟩⟩
      | no => cases p
      | fr => cases p
      | rd => cases p

/-- slots forgotten -/
inductive Wk : List SV → List SV → Prop
  | nil : Wk [] []
  | keep {g : SV} {G G' : List SV} : Wk G G' → Wk (g :: G) (g :: G')
  | drop {g : SV} {G G' : List SV} : Wk G G' → Wk (g :: G) (.no :: G')
theorem Wk.refl : ∀ G : List SV, Wk G G
  | [] => .nil
  | _ :: G => .keep (Wk.refl G)
theorem Wk.length : ∀ {G G' : List SV}, Wk G G' → G'.length = G.length
  | _, _, .nil => rfl
  | _, _, .keep h => congrArg Nat.succ h.length
  | _, _, .drop h => congrArg Nat.succ h.length
theorem Wk.get : ∀ {G G' : List SV} {i : Nat} {g : SV}, Wk G G' → G'[i]? = some g → (g = .no ∧ ∃ g', G[i]? = some g') ∨ G[i]? = some g
  | _, _, _, _, .nil, e => by simp at e
  | _, _, 0, _, .keep _, e => .inr e
  | _, _, 0, _, .drop _, e => by simp at e; exact .inl ⟨e.symm, _, rfl⟩
  | _, _, i + 1, g, .keep h, e => Wk.get (i := i) h (by simpa using e)
  | _, _, i + 1, g, .drop h, e => Wk.get (i := i) h (by simpa using e)
theorem Ok.wk {E : En} {W : Wd} {G G' : List SV} {σ : L2.St} {H : Hp} (h : Ok E W G σ H) (w : Wk G G') : Ok E W G' σ H := by
  refine ⟨h.ex, by rw [w.length]; exact h.len, fun i g e => ?_, fun i j gi gj a ne e1 o1 e2 p2 s1 s2 => ?_⟩
  · rcases w.get e with ⟨rfl, g', e'⟩ | e'
    · obtain ⟨s, q, _⟩ := h.slot i g' e'
      exact ⟨s, q, True.intro⟩
    · exact h.slot i g e'
  · rcases w.get e1 with ⟨rfl, _⟩ | e1
    · cases o1
    · rcases w.get e2 with ⟨rfl, _⟩ | e2
      · cases p2
      · exact h.dis i j gi gj a ne e1 o1 e2 p2 s1 s2

/-- a container of one's own is written -/
theorem Ok.write {E : En} {W : Wd} {G : List SV} {σ : L2.St} {H : Hp} (h : Ok E W G σ H) {i : Nat} {g : SV} {d : D} {a : Addr} {o' : HO} (e : G[i]? = some g) (ow : g.isOwn = true) (r : σ[i]? = some (some (.ref a))) (t : Top W o' d) : Ok E W (G.set i (g.put d)) σ (upd H a o') := by
  have x := h.ex
  obtain ⟨s, e1, e2⟩ := h.slot i g e
  rw [r] at e1
  injection e1 with e1
  subst e1
  -- what is known of a
  have fa : W.F a = none ∧ ¬ W.T a ∧ (E.H a = none ∨ a ∈ E.M) ∧ ∃ o d0, H a = some o ∧ Top W o d0 := by
    cases g with
    | no => cases ow
    | fr => cases ow
    | rd => cases ow
    | own d0 =>
      obtain ⟨b, q, y, f, nt, n, _⟩ := e2
      injection q with q
      injection q with q
      subst q
      obtain ⟨o, y1, y2⟩ := y (by simp)
      exact ⟨f, nt, .inl n, o, d0, y1, y2⟩
    | mt b d0 =>
      obtain ⟨q, y, f, nt, n, _⟩ := e2
      injection q with q
      injection q with q
      subst q
      obtain ⟨o, y1, y2⟩ := y (by simp)
      exact ⟨f, nt, .inr n, o, d0, y1, y2⟩
  obtain ⟨f, nt, em, o, d0, ha, t0⟩ := fa
  have nl : E.L ≠ some a := x.nolk ha (fun od u z => by subst z; exact t0.nofrz)
  have rdl : ∀ {b : Addr} {u : HO}, b ≠ a → RdL E.L H b u → RdL E.L (upd H a o') b u := fun {b u} ne q => by
    rcases q with q | ⟨q, od, q2⟩
    · exact .inl ⟨q.1, by rw [upd_ne ne]; exact q.2⟩
    · exact .inr ⟨q, od, by rw [upd_ne ne]; exact q2⟩
  refine ⟨⟨x.leW, x.newF, x.newT, x.apart, fun b u q => rdl (fun z => by rw [z, f] at q; cases q) (x.sub b u q), fun b q => ?_, fun b u q h1 h2 => ?_, fun b u q => ?_, fun b q => ?_⟩, by rw [List.length_set]; exact h.len, fun j gj ej => ?_, fun j k gj gk c ne e3 o1 e4 p2 s1 s2 => ?_⟩
  · obtain ⟨p, n, y, z⟩ := x.deal b q
    exact ⟨p, n, by rw [upd_ne (fun w => nt (by rw [← w]; exact q))]; exact y, z⟩
  · rw [upd_ne (fun z => ?_)]
    · exact x.frm b u q h1 h2
    · subst z
      rcases em with em | em
      · rw [q] at em; cases em
      · exact h1 em
  · by_cases z : b = a
    · subst z; exact ⟨o', upd_same⟩
    · rw [upd_ne z]; exact x.dom b u q
  · obtain ⟨od, u, y, z⟩ := x.lk b q
    exact ⟨od, u, by rw [upd_ne (fun w => nl (by rw [q, w]))]; exact y, z⟩
  · rcases get_set ej with ⟨rfl, rfl, hl⟩ | ⟨ne, ej⟩
    · refine ⟨_, r, ?_⟩
      cases g with
      | no => cases ow
      | fr => cases ow
      | rd => cases ow
        | own d0 =>
        obtain ⟨b, q, y, f', nt', n, _⟩ := e2
        injection q with q
        injection q with q
        subst q
        exact ⟨a, rfl, fun _ => ⟨o', upd_same, t⟩, f, nt, n, o', upd_same⟩
      | mt b d0 =>
        obtain ⟨q, y, f', nt', n, _⟩ := e2
        injection q with q
        injection q with q
        subst q
        exact ⟨rfl, fun _ => ⟨o', upd_same, t⟩, f, nt, n, o', upd_same⟩
    · obtain ⟨s, q1, q2⟩ := h.slot j gj ej
      refine ⟨s, q1, ?_⟩
      have na : ∀ {c : Addr}, gj.isPl = true → s = some (.ref c) → c ≠ a := fun {c} pl es z => h.dis i j g gj a (fun w => ne w.symm) e ow ej pl r (by rw [q1, es, z])
      cases gj with
      | no => exact True.intro
      | fr => exact q2
      | own d1 =>
        obtain ⟨c, es, y, f', nt', n, o1, k⟩ := q2
        have nc := na rfl es
        exact ⟨c, es, fun _ => let ⟨o, y1, y2⟩ := y (by simp); ⟨o, by rw [upd_ne nc]; exact y1, y2⟩, f', nt', n, o1, by rw [upd_ne nc]; exact k⟩
      | mt c d1 =>
        obtain ⟨es, y, f', nt', n, o1, k⟩ := q2
        have nc := na rfl es
        exact ⟨es, fun _ => let ⟨o, y1, y2⟩ := y (by simp); ⟨o, by rw [upd_ne nc]; exact y1, y2⟩, f', nt', n, o1, by rw [upd_ne nc]; exact k⟩
      | rd d1 =>
        obtain ⟨c, o1, es, y, t1, n⟩ := q2
        exact ⟨c, o1, es, rdl (na rfl es) y, t1, n⟩
  · -- apart
    have back : ∀ {m : Nat} {g' : SV}, (G.set i (g.put d))[m]? = some g' → ∃ g0, G[m]? = some g0 ∧ g0.isOwn = g'.isOwn ∧ g0.isPl = g'.isPl := fun {m g'} q => by
      rcases get_set q with ⟨rfl, rfl, _⟩ | ⟨_, q⟩
      · exact ⟨g, e, by cases g <;> rfl, by cases g <;> rfl⟩
      · exact ⟨g', q, rfl, rfl⟩
    obtain ⟨g0, y1, y2, y3⟩ := back e3
    obtain ⟨g1, z1, z2, z3⟩ := back e4
    exact h.dis j k g0 g1 c ne y1 (by rw [y2]; exact o1) z1 (by rw [z3]; exact p2) s1 s2

/-- a container of one's own is frozen where it stands -/
theorem Ok.frzSlot {E : En} {W : Wd} {G : List SV} {σ : L2.St} {H : Hp} (h : Ok E W G σ H) {i : Nat} {d : D} (e : G[i]? = some (.own d)) : ∃ W' x, W.le W' ∧ Ok E W' (G.set i (.fr d)) σ H ∧ σ[i]? = some (some x) ∧ At W' x d := by
  have h1 : Ok E W (G.set i .no) σ H := by
    refine ⟨h.ex, by rw [List.length_set]; exact h.len, fun j g q => ?_, fun j k gj gk a ne e1 o1 e2 p2 s1 s2 => ?_⟩
    · rcases get_set q with ⟨rfl, rfl, _⟩ | ⟨_, q⟩
      · obtain ⟨s, q1, _⟩ := h.slot j _ e
        exact ⟨s, q1, True.intro⟩
      · exact h.slot j g q
    · rcases get_set e1 with ⟨rfl, rfl, _⟩ | ⟨_, e1⟩
      · cases o1
      · rcases get_set e2 with ⟨rfl, rfl, _⟩ | ⟨_, e2⟩
        · cases p2
        · exact h.dis j k gj gk a ne e1 o1 e2 p2 s1 s2
  obtain ⟨s, e1, a, es, y, f, nt, n, _⟩ := h.slot i _ e
  subst es
  obtain ⟨o, y1, y2⟩ := y (by simp)
  have r : ROk E W (G.set i .no) σ H (.o d) (.ref a) := by
    refine ⟨a, o, rfl, y1, y2, f, nt, n, fun j g q pl z => ?_⟩
    rcases get_set q with ⟨rfl, rfl, _⟩ | ⟨ne, q⟩
    · cases pl
    · exact h.dis i j _ g a (fun w => ne w.symm) e rfl q pl e1 z
  obtain ⟨W', le, ok, at'⟩ := h1.freeze r
  refine ⟨W', _, le, ?_, e1, at'⟩
  have hl : i < G.length := (List.getElem?_eq_some_iff.mp e).1
  refine ⟨ok.ex, by rw [List.length_set]; exact h.len, fun j g q => ?_, fun j k gj gk b ne q1 o1 q2 p2 s1 s2 => ?_⟩
  · rcases get_set q with ⟨rfl, rfl, _⟩ | ⟨ne, q⟩
    · exact ⟨_, e1, _, rfl, at'⟩
    · exact ok.slot j g (by rw [List.getElem?_set_ne (fun z => ne z.symm)]; exact q)
  · rcases get_set q1 with ⟨rfl, rfl, _⟩ | ⟨_, q1⟩
    · cases o1
    · rcases get_set q2 with ⟨rfl, rfl, _⟩ | ⟨_, q2⟩
      · cases p2
      · exact h.dis j k gj gk b ne q1 o1 q2 p2 s1 s2

/-- a deal turns -/
theorem Ok.turn {E : En} {W : Wd} {G : List SV} {σ : L2.St} {H : Hp} (h : Ok E W G σ H) {a : Addr} {f n : Int} (ta : W.T a) (hn : DealOk n) : Ok E W G σ (upd H a (.lst [.int f, .int n])) := by
  have x := h.ex
  obtain ⟨f0, n0, ha, _⟩ := x.deal a ta
  have nl : E.L ≠ some a := x.nolk ha (fun od u z => nomatch z)
  have rdl : ∀ {b : Addr} {u : HO}, b ≠ a → RdL E.L H b u → RdL E.L (upd H a (.lst [.int f, .int n])) b u := fun {b u} ne q => by
    rcases q with q | ⟨q, od, q2⟩
    · exact .inl ⟨q.1, by rw [upd_ne ne]; exact q.2⟩
    · exact .inr ⟨q, od, by rw [upd_ne ne]; exact q2⟩
  refine ⟨⟨x.leW, x.newF, x.newT, x.apart, fun b u q => rdl (fun z => ?_) (x.sub b u q), fun b q => ?_, fun b u q h1 h2 => ?_, fun b u q => ?_, fun b q => ?_⟩, h.len, fun j gj ej => ?_, h.dis⟩
  · subst z
    rw [x.apart _ ta] at q; cases q
  · by_cases z : b = a
    · subst z; exact ⟨f, n, upd_same, hn⟩
    · obtain ⟨p, m, y, w⟩ := x.deal b q
      exact ⟨p, m, by rw [upd_ne z]; exact y, w⟩
  · rw [upd_ne (fun z => ?_)]
    · exact x.frm b u q h1 h2
    · subst z
      rcases x.newT _ ta with w | w
      · exact h2 w
      · rw [q] at w; cases w
  · by_cases z : b = a
    · subst z; exact ⟨_, upd_same⟩
    · rw [upd_ne z]; exact x.dom b u q
  · obtain ⟨od, u, y, z⟩ := x.lk b q
    exact ⟨od, u, by rw [upd_ne (fun w => nl (by rw [q, w]))]; exact y, z⟩
  · obtain ⟨s, q1, q2⟩ := h.slot j gj ej
    refine ⟨s, q1, ?_⟩
    cases gj with
    | no => exact True.intro
    | fr => exact q2
    | own d1 =>
      obtain ⟨c, es, y, f', nt', n', o1, k⟩ := q2
      have nc : c ≠ a := fun z => nt' (by rw [z]; exact ta)
      exact ⟨c, es, fun _ => let ⟨o, y1, y2⟩ := y (by simp); ⟨o, by rw [upd_ne nc]; exact y1, y2⟩, f', nt', n', o1, by rw [upd_ne nc]; exact k⟩
    | mt c d1 =>
      obtain ⟨es, y, f', nt', n', o1, k⟩ := q2
      have nc : c ≠ a := fun z => nt' (by rw [z]; exact ta)
      exact ⟨es, fun _ => let ⟨o, y1, y2⟩ := y (by simp); ⟨o, by rw [upd_ne nc]; exact y1, y2⟩, f', nt', n', o1, by rw [upd_ne nc]; exact k⟩
    | rd d1 =>
      obtain ⟨c, o1, es, y, t1, n'⟩ := q2
      exact ⟨c, o1, es, rdl (fun z => n' (by rw [z]; exact ta)) y, t1, n'⟩

/-! ### judgements (L: what is locked) -/
/-- arguments: frozen values and places (the last one may be new) -/
inductive RsOk (E : En) (W : Wd) (G : List SV) (σ : L2.St) (H : Hp) : List R → List V → Prop
  | nil : RsOk E W G σ H [] []
  | cons {r : R} {x : V} {rs : List R} {xs : List V} : ROk E W G σ H r x → RsOk E W G σ H rs xs → RsOk E W G σ H (r :: rs) (x :: xs)
structure Az where
  nx : List SV → Prop
  rt : R → List SV → Prop
  bk : List SV → Prop := fun _ => False
  ct : List SV → Prop := fun _ => False
structure Zd (E : En) (W : Wd) (Z : Az) (D : Ends) : Prop where
  nx : ∀ W' σ' H' G', W.le W' → Ok E W' G' σ' H' → Z.nx G' → D.nx σ' H'
  rt : ∀ W' σ' H' G' r x, W.le W' → Ok E W' G' σ' H' → ROk E W' G' σ' H' r x → Z.rt r G' → D.rt x H'
  bk : ∀ W' σ' H' G', W.le W' → Ok E W' G' σ' H' → Z.bk G' → D.bk σ' H'
  ct : ∀ W' σ' H' G', W.le W' → Ok E W' G' σ' H' → Z.ct G' → D.ct σ' H'
theorem Zd.mono {E : En} {W W1 : Wd} {Z : Az} {D : Ends} (h : Zd E W Z D) (l : W.le W1) : Zd E W1 Z D :=
  ⟨fun W' σ' H' G' a => h.nx W' σ' H' G' (l.trans a), fun W' σ' H' G' r x a => h.rt W' σ' H' G' r x (l.trans a), fun W' σ' H' G' a => h.bk W' σ' H' G' (l.trans a), fun W' σ' H' G' a => h.ct W' σ' H' G' (l.trans a)⟩
section
variable (L : Option Addr)
def AE (te : TE) (G : List SV) (k : R → List SV → Prop) : Prop :=
  ∀ (E : En), E.L = L → ∀ (W : Wd) (σ : L2.St) (H : Hp), Ok E W G σ H → ∀ Q : VK, (∀ W' H' r G' x, W.le W' → Ok E W' G' σ H' → ROk E W' G' σ H' r x → k r G' → Q x H') → te σ H Q
def AT (tt : TT) (G : List SV) (k : Bool → List SV → Prop) : Prop :=
  ∀ (E : En), E.L = L → ∀ (W : Wd) (σ : L2.St) (H : Hp), Ok E W G σ H → ∀ Q : Bool → Hp → Prop, (∀ W' H' b G', W.le W' → Ok E W' G' σ H' → k b G' → Q b H') → tt σ H Q
def AA (ta : TA) (G : List SV) (k : List R → List SV → Prop) : Prop :=
  ∀ (E : En), E.L = L → ∀ (W : Wd) (σ : L2.St) (H : Hp), Ok E W G σ H → ∀ Q : List V → Hp → Prop, (∀ W' H' rs G' xs, W.le W' → Ok E W' G' σ H' → RsOk E W' G' σ H' rs xs → k rs G' → Q xs H') → ta σ H Q
/-- an operation on values -/
def AR (r : R2) (a b : R) (G : List SV) (k : R → List SV → Prop) : Prop :=
  ∀ (E : En), E.L = L → ∀ (W : Wd) (σ : L2.St) (H : Hp) (x y : V), Ok E W G σ H → ROk E W G σ H a x → ROk E W G σ H b y → ∀ Q : VK, (∀ W' H' r G' z, W.le W' → Ok E W' G' σ H' → ROk E W' G' σ H' r z → k r G' → Q z H') → r x y H Q
/-- a call on values -/
def AC (r : List V → Hp → VK → Prop) (as : List R) (G : List SV) (k : R → List SV → Prop) : Prop :=
  ∀ (E : En), E.L = L → ∀ (W : Wd) (σ : L2.St) (H : Hp) (xs : List V), Ok E W G σ H → RsOk E W G σ H as xs → ∀ Q : VK, (∀ W' H' r G' z, W.le W' → Ok E W' G' σ H' → ROk E W' G' σ H' r z → k r G' → Q z H') → r xs H Q
def AS (ts : TS) (G : List SV) (Z : Az) : Prop :=
  ∀ (E : En), E.L = L → ∀ (W : Wd) (σ : L2.St) (H : Hp), Ok E W G σ H → ∀ D : Ends, Zd E W Z D → ts D σ H
def AG (g : TG) (r : R) (G : List SV) (k : List SV → Prop) : Prop :=
  ∀ (E : En), E.L = L → ∀ (W : Wd) (σ : L2.St) (H : Hp) (x : V), Ok E W G σ H → ROk E W G σ H r x → ∀ Q : L2.St → Hp → Prop, (∀ W' σ' H' G', W.le W' → Ok E W' G' σ' H' → k G' → Q σ' H') → g x σ H Q
/-- a comprehension's target: only the slots vs are stored -/
def AW (vs : List Nat) (g : TG) (r : R) (G : List SV) (k : List SV → Prop) : Prop :=
  ∀ (E : En), E.L = L → ∀ (W : Wd) (σ : L2.St) (H : Hp) (x : V), Ok E W G σ H → ROk E W G σ H r x → ∀ Q : L2.St → Hp → Prop, (∀ W' σ' H' G', W.le W' → Ok E W' G' σ' H' → wipe σ' vs = wipe σ vs → k G' → Q σ' H') → g x σ H Q
end
end Q
-- text Q3
set_option Elab.async false
set_option linter.all false
set_option maxRecDepth 100000
set_option maxHeartbeats 1000000
/-! Layer Q, part 3: promises of defs, calls. -/
namespace Q
open PySem PySem.Spec PyProof.Rows L2

inductive Pm where
  | fr (d : D)
  | rd (d : D)
  | mt (d : D)
abbrev Spec := List Pm → (R → List D → Prop) → Prop
def svs : List Pm → (Nat → Addr) → List SV
  | [], _ => []
  | .fr d :: ps, av => .fr d :: svs ps fun i => av (i + 1)
  | .rd d :: ps, av => .rd d :: svs ps fun i => av (i + 1)
  | .mt d :: ps, av => .mt (av 0) d :: svs ps fun i => av (i + 1)
def mads : List Pm → (Nat → Addr) → List Addr
  | [], _ => []
  | .fr _ :: ps, av => mads ps fun i => av (i + 1)
  | .rd _ :: ps, av => mads ps fun i => av (i + 1)
  | .mt _ :: ps, av => av 0 :: mads ps fun i => av (i + 1)
def adr : V → Addr
  | .ref a => a
  | _ => 0
def avs : List V → Nat → Addr
  | [], _ => 0
  | x :: _, 0 => adr x
  | _ :: xs, i + 1 => avs xs i

def MtAt (W : Wd) (H : Hp) (a : Addr) (d : D) : Prop := ∃ o, H a = some o ∧ Top W o d ∧ W.F a = none ∧ ¬ W.T a
def RetOk (E : En) (W : Wd) (H : Hp) : R → V → Prop
  | .v d, x => At W x d
  | .o d, x => ∃ a ob, x = .ref a ∧ H a = some ob ∧ Top W ob d ∧ W.F a = none ∧ ¬ W.T a ∧ E.H a = none
  | .p _, _ => False
/-- a def's promise, by what it makes of its arguments -/
def spOf (l : Bool) (S : Spec) : Sp := fun vs H Q _ => ∃ (E : En) (ps : List Pm) (k : R → List D → Prop) (av : Nat → Addr), E.H = H ∧ (l = true → E.L = none) ∧ ps.length = vs.length ∧
  Ok E E.W (svs ps av) (vs.map some) H ∧ E.M = mads ps av ∧ S ps k ∧ ∀ W' H' r x ds, Ex E W' H' → RetOk E W' H' r x → Paired (MtAt W' H') E.M ds → k r ds → Q x H'

/-! ### the caller -/
inductive Mch (G : List SV) : List R → List Pm → Prop
  | nil : Mch G [] []
  | fr {d : D} {rs : List R} {ps : List Pm} : Mch G rs ps → Mch G (.v d :: rs) (.fr d :: ps)
  | rdv {d : D} {rs : List R} {ps : List Pm} : d.isC = true → Mch G rs ps → Mch G (.v d :: rs) (.rd d :: ps)
  | rdp {i : Nat} {g : SV} {d : D} {rs : List R} {ps : List Pm} : G[i]? = some g → g.con = some d → Mch G rs ps → Mch G (.p i :: rs) (.rd d :: ps)
  | mtp {i : Nat} {g : SV} {d : D} {rs : List R} {ps : List Pm} : G[i]? = some g → g.isOwn = true → g.con = some d → Mch G rs ps → Mch G (.p i :: rs) (.mt d :: ps)
  | mto {d : D} : Mch G [.o d] [.mt d]
def mis : List R → List Pm → List Nat
  | .p i :: rs, .mt _ :: ps => i :: mis rs ps
  | _ :: rs, _ :: ps => mis rs ps
  | _, _ => []
def ris : List R → List Pm → List Nat
  | .p i :: rs, .rd _ :: ps => i :: ris rs ps
  | _ :: rs, _ :: ps => ris rs ps
  | _, _ => []
def setC (G : List SV) (i : Nat) (d : D) : List SV := match G[i]? with
  | some g => G.set i (g.put d)
  | none => G
def updG : List SV → List R → List Pm → List D → List SV
  | G, .p i :: rs, .mt _ :: ps, d :: ds => updG (setC G i d) rs ps ds
  | G, .o _ :: rs, .mt _ :: ps, _ :: ds => updG G rs ps ds
  | G, .v _ :: rs, .mt _ :: ps, _ :: ds => updG G rs ps ds
  | G, _ :: rs, .fr _ :: ps, ds => updG G rs ps ds
  | G, _ :: rs, .rd _ :: ps, ds => updG G rs ps ds
  | G, _, _, _ => G

theorem con_pl {g : SV} {d : D} (h : g.con = some d) : g.isPl = true := by cases g <;> first | rfl | cases h
theorem own_pl {g : SV} (h : g.isOwn = true) : g.isPl = true := by cases g <;> first | rfl | cases h
theorem ok_ref {E : En} {W : Wd} {G : List SV} {σ : L2.St} {H : Hp} {A : List Addr} (h : OkA A E W G σ H) {i : Nat} {g : SV} {x : V} (e : G[i]? = some g) (p : g.isPl = true) (r : σ[i]? = some (some x)) : ∃ a, x = .ref a := by
  obtain ⟨a, o, e1, _⟩ := h.place e p
  rw [r] at e1
  injection e1 with e1
  injection e1 with e1
  exact ⟨a, e1⟩
/-- what is known of a place -/
theorem Ok.own_at {E : En} {W : Wd} {G : List SV} {σ : L2.St} {H : Hp} (h : Ok E W G σ H) {i : Nat} {g : SV} {a : Addr} (e : G[i]? = some g) (p : g.isOwn = true) (r : σ[i]? = some (some (.ref a))) :
    W.F a = none ∧ ¬ W.T a ∧ (E.H a = none ∨ a ∈ E.M) ∧ ∀ d, g.con = some d → ∃ o, H a = some o ∧ Top W o d := by
  obtain ⟨s, e1, e2⟩ := h.slot i g e
  rw [r] at e1
  injection e1 with e1
  subst e1
  cases g with
  | no => cases p
  | fr => cases p
  | rd => cases p
  | own d0 =>
    obtain ⟨b, q, y, f, nt, n, _⟩ := e2
    injection q with q
    injection q with q
    subst q
    exact ⟨f, nt, .inl n, fun d z => by injection z with z; subst z; exact y (by simp)⟩
  | mt b d0 =>
    obtain ⟨q, y, f, nt, n, _⟩ := e2
    injection q with q
    injection q with q
    subst q
    exact ⟨f, nt, .inr n, fun d z => by injection z with z; subst z; exact y (by simp)⟩

section
variable {E : En} {W : Wd} {G : List SV} {σ : L2.St} {H : Hp}
theorem svs_length : ∀ (ps : List Pm) (av : Nat → Addr), (svs ps av).length = ps.length
  | [], _ => rfl
  | .fr d :: ps, av => congrArg Nat.succ (svs_length ps _)
  | .rd d :: ps, av => congrArg Nat.succ (svs_length ps _)
  | .mt d :: ps, av => congrArg Nat.succ (svs_length ps _)
theorem Mch.length : ∀ {rs : List R} {ps : List Pm} {xs : List V}, Mch G rs ps → RsOk E W G σ H rs xs → ps.length = xs.length
  | _, _, _, .nil, .nil => rfl
  | _, _, _, .fr (d := d0) m, .cons _ r => congrArg Nat.succ (Mch.length m r)
  | _, _, _, .rdv (d := d0) _ m, .cons _ r => congrArg Nat.succ (Mch.length m r)
  | _, _, _, .rdp _ _ m, .cons _ r => congrArg Nat.succ (Mch.length m r)
  | _, _, _, .mtp _ _ _ m, .cons _ r => congrArg Nat.succ (Mch.length m r)
  | _, _, _, .mto (d := d0), .cons _ .nil => rfl
/-- the callee's slots -/
theorem Mch.slots (h : Ok E W G σ H) {M : List Addr} {E' : En} (eW : E'.W = W) (eH : E'.H = H) (eM : E'.M = M) (eL : E'.L = E.L) : ∀ {rs : List R} {ps : List Pm} {xs : List V}, Mch G rs ps → RsOk E W G σ H rs xs → (∀ a ∈ mads ps (avs xs), a ∈ M) →
    ∀ (i : Nat) (g : SV), (svs ps (avs xs))[i]? = some g → ∃ x, xs[i]? = some x ∧ SlotOk [] E' W H (some x) g
  | _, _, _, .nil, .nil, _, i, g, e => by simp [svs] at e
  | _, _, _, .fr (d := d0) m, .cons (x := x) q r, hM, 0, g, e => by
    have e : SV.fr d0 = g := Option.some.inj e
    subst e
    exact ⟨x, rfl, x, rfl, q⟩
  | _, _, _, .fr (d := d0) m, .cons q r, hM, i + 1, g, e => Mch.slots h eW eH eM eL m r hM i g e
  | _, _, _, .rdv (d := d0) n1 m, .cons (x := x) q r, hM, 0, g, e => by
    have e : SV.rd d0 = g := Option.some.inj e
    subst e
    obtain ⟨a, o, e1, e2, e3, e4⟩ := h.read q rfl n1
    subst e1
    exact ⟨_, rfl, a, o, rfl, by rw [eL]; exact e2, e3, e4⟩
  | _, _, _, .rdv (d := d0) n1 m, .cons q r, hM, i + 1, g, e => Mch.slots h eW eH eM eL m r hM i g e
  | _, _, _, .rdp (i := j) (g := g0) (d := d0) e0 c m, .cons (x := x) q r, hM, 0, g, e => by
    have e : SV.rd d0 = g := Option.some.inj e
    subst e
    have hc : con G (.p j) = some d0 := by show (G[j]?).bind SV.con = _; rw [e0]; exact c
    obtain ⟨a, o, e1, e2, e3, e4⟩ : ∃ a o, x = .ref a ∧ RdL E.L H a o ∧ Top W o d0 ∧ ¬ W.T a := by
      refine h.read q hc ?_
      obtain ⟨s, e1, e2⟩ := h.slot j g0 e0
      cases g0 with
      | no => cases c
      | fr => cases c
      | own d => injection c with c; subst c; obtain ⟨_, _, y, _⟩ := e2; obtain ⟨o, _, t⟩ := y (by simp); exact t.isC
      | mt b d => injection c with c; subst c; obtain ⟨_, y, _⟩ := e2; obtain ⟨o, _, t⟩ := y (by simp); exact t.isC
      | rd d => injection c with c; subst c; obtain ⟨_, o, _, _, t, _⟩ := e2; exact t.isC
    subst e1
    exact ⟨_, rfl, a, o, rfl, by rw [eL]; exact e2, e3, e4⟩
  | _, _, _, .rdp (d := d0) e0 c m, .cons q r, hM, i + 1, g, e => Mch.slots h eW eH eM eL m r hM i g e
  | _, _, _, .mtp (i := j) (d := d0) e0 ow c m, .cons (x := x) q r, hM, 0, g, e => by
    have e : SV.mt _ d0 = g := Option.some.inj e
    subst e
    obtain ⟨a, rfl⟩ := ok_ref h e0 (own_pl ow) q
    obtain ⟨f, nt, _, y⟩ := h.own_at e0 ow q
    obtain ⟨o, y1, y2⟩ := y _ c
    exact ⟨_, rfl, rfl, fun _ => ⟨o, y1, y2⟩, f, nt, by rw [eM]; exact hM a (List.mem_cons_self ..), o, y1⟩
  | _, _, _, .mtp (d := d0) e0 ow c m, .cons q r, hM, i + 1, g, e => Mch.slots h eW eH eM eL m r (fun a ha => hM a (List.mem_cons_of_mem _ ha)) i g e
  | _, _, _, .mto (d := d0), .cons q .nil, hM, 0, g, e => by
    have e : SV.mt _ d0 = g := Option.some.inj e
    subst e
    obtain ⟨a, ob, rfl, e1, t, f, nt, n, _⟩ := q
    exact ⟨_, rfl, rfl, fun _ => ⟨ob, e1, t⟩, f, nt, by rw [eM]; exact hM a (List.mem_cons_self ..), ob, e1⟩
  | _, _, _, .mto (d := d0), .cons q .nil, hM, i + 1, g, e => by simp [svs] at e

/-- where a callee's place comes from -/
def Src (E : En) (W : Wd) (G : List SV) (σ : L2.St) (ms ri : List Nat) (own : Bool) (a : Addr) : Prop :=
  (own = false ∧ ∃ o, W.F a = some o) ∨ (∃ (m : Nat) (g : SV), σ[m]? = some (some (.ref a)) ∧ G[m]? = some g ∧ ((own = true ∧ g.isOwn = true ∧ m ∈ ms) ∨ (own = false ∧ g.isPl = true ∧ m ∈ ri))) ∨
  (own = true ∧ W.F a = none ∧ ¬ W.T a ∧ E.H a = none ∧ ∀ (j : Nat) (g : SV), G[j]? = some g → g.isPl = true → σ[j]? ≠ some (some (.ref a)))
theorem Src.imp {ms ri ms' ri' : List Nat} {o : Bool} {a : Addr} (h : Src E W G σ ms ri o a) (h1 : ∀ m ∈ ms, m ∈ ms') (h2 : ∀ m ∈ ri, m ∈ ri') : Src E W G σ ms' ri' o a := by
  rcases h with h | ⟨m, g, e1, e2, h⟩ | h
  · exact .inl h
  · refine .inr (.inl ⟨m, g, e1, e2, h.elim (fun z => .inl ⟨z.1, z.2.1, h1 _ z.2.2⟩) fun z => .inr ⟨z.1, z.2.1, h2 _ z.2.2⟩⟩)
  · exact .inr (.inr h)
theorem Mch.src (h : Ok E W G σ H) : ∀ {rs : List R} {ps : List Pm} {xs : List V}, Mch G rs ps → RsOk E W G σ H rs xs →
    ∀ (i : Nat) (g : SV) (a : Addr), (svs ps (avs xs))[i]? = some g → g.isPl = true → xs[i]? = some (.ref a) → Src E W G σ (mis rs ps) (ris rs ps) g.isOwn a
  | _, _, _, .nil, .nil, i, g, a, e, _, _ => by simp [svs] at e
  | _, _, _, .fr (d := d0) m, .cons q r, 0, g, a, e, p, _ => by
    have e : SV.fr d0 = g := Option.some.inj e
    subst e; cases p
  | _, _, _, .fr (d := d0) m, .cons q r, i + 1, g, a, e, p, z => Mch.src h m r i g a e p z
  | _, _, _, .rdv (d := d0) n1 m, .cons q r, 0, g, a, e, p, z => by
    have e : SV.rd d0 = g := Option.some.inj e
    subst e
    obtain ⟨b, o, e1, e2, _⟩ := At.top q n1
    subst e1
    have z : V.ref b = V.ref a := Option.some.inj z
    injection z with z
    subst z
    exact .inl ⟨rfl, o, e2⟩
  | _, _, _, .rdv (d := d0) n1 m, .cons q r, i + 1, g, a, e, p, z => Mch.src h m r i g a e p z
  | _, _, _, .rdp (i := j) (d := d0) e0 c m, .cons q r, 0, g, a, e, p, z => by
    have e : SV.rd d0 = g := Option.some.inj e
    subst e
    have z := Option.some.inj z
    subst z
    exact .inr (.inl ⟨j, _, q, e0, .inr ⟨rfl, con_pl c, List.mem_cons_self ..⟩⟩)
  | _, _, _, .rdp (d := d0) e0 c m, .cons q r, i + 1, g, a, e, p, z => (Mch.src h m r i g a e p z).imp (fun _ y => y) fun _ y => List.mem_cons_of_mem _ y
  | _, _, _, .mtp (i := j) (d := d0) e0 ow c m, .cons q r, 0, g, a, e, p, z => by
    have e : SV.mt _ d0 = g := Option.some.inj e
    subst e
    have z := Option.some.inj z
    subst z
    exact .inr (.inl ⟨j, _, q, e0, .inl ⟨rfl, ow, List.mem_cons_self ..⟩⟩)
  | _, _, _, .mtp (d := d0) e0 ow c m, .cons q r, i + 1, g, a, e, p, z => (Mch.src h m r i g a e p z).imp (fun _ y => List.mem_cons_of_mem _ y) fun _ y => y
  | _, _, _, .mto (d := d0), .cons q .nil, 0, g, a, e, p, z => by
    have e : SV.mt _ d0 = g := Option.some.inj e
    subst e
    obtain ⟨b, ob, rfl, e1, t, f, nt, n, ap⟩ := q
    have z : V.ref b = V.ref a := Option.some.inj z
    injection z with z
    subst z
    exact .inr (.inr ⟨rfl, f, nt, n, ap⟩)
  | _, _, _, .mto (d := d0), .cons q .nil, i + 1, g, a, e, p, z => by simp [svs] at e
theorem Src.apart (h : Ok E W G σ H) {ms ri ms' ri' : List Nat} {o : Bool} {a : Addr} (h1 : Src E W G σ ms ri true a) (h2 : Src E W G σ ms' ri' o a) (n1 : ∀ m ∈ ms, m ∉ ms') (n2 : ∀ m ∈ ms, m ∉ ri')
    (n3 : (∀ (j : Nat) (g : SV), G[j]? = some g → g.isPl = true → σ[j]? ≠ some (some (.ref a))) → W.F a = none → o = true → False) : False := by
  rcases h1 with ⟨z, _⟩ | ⟨m, g, e1, e2, h1⟩ | ⟨_, f, nt, n, ap⟩
  · cases z
  · rcases h1 with ⟨_, ow, hm⟩ | ⟨z, _⟩
    · obtain ⟨f, nt, _, _⟩ := h.own_at e2 ow e1
      rcases h2 with ⟨_, u, y⟩ | ⟨m', g', e1', e2', h2⟩ | ⟨_, _, _, _, ap⟩
      · rw [f] at y; cases y
      · by_cases q : m = m'
        · subst q
          rcases h2 with ⟨_, _, y⟩ | ⟨_, _, y⟩
          · exact n1 m hm y
          · exact n2 m hm y
        · have pl : g'.isPl = true := h2.elim (fun y => own_pl y.2.1) fun y => y.2.1
          exact h.dis m m' g g' a q e2 ow e2' pl e1 e1'
      · exact ap m g e2 (own_pl ow) e1
    · cases z
  · rcases h2 with ⟨_, u, y⟩ | ⟨m', g', e1', e2', h2⟩ | ⟨z, _⟩
    · rw [f] at y; cases y
    · have pl : g'.isPl = true := h2.elim (fun y => own_pl y.2.1) fun y => y.2.1
      exact ap m' g' e2' pl e1'
    · exact n3 ap f z
theorem Mch.dis (h : Ok E W G σ H) : ∀ {rs : List R} {ps : List Pm} {xs : List V}, Mch G rs ps → RsOk E W G σ H rs xs → (mis rs ps).Nodup → (∀ m ∈ mis rs ps, m ∉ ris rs ps) →
    ∀ (i j : Nat) (gi gj : SV) (a : Addr), i ≠ j → (svs ps (avs xs))[i]? = some gi → gi.isOwn = true → (svs ps (avs xs))[j]? = some gj → gj.isPl = true → xs[i]? = some (.ref a) → xs[j]? = some (.ref a) → False
  | _, _, _, .nil, .nil, _, _, i, j, gi, gj, a, ne, e1, o1, e2, p2, x1, x2 => by simp [svs] at e1
  | _, _, _, .mto (d := d0), .cons q .nil, _, _, i, j, gi, gj, a, ne, e1, o1, e2, p2, x1, x2 => by
    have hi : i = 0 := by
      have := (List.getElem?_eq_some_iff.mp x1).1
      simpa using this
    have hj : j = 0 := by
      have := (List.getElem?_eq_some_iff.mp x2).1
      simpa using this
    exact ne (hi.trans hj.symm)
  | _, _, _, .fr (d := d0) m, .cons q r, nd, ap, 0, j, gi, gj, a, ne, e1, o1, e2, p2, x1, x2 => by
    have e : SV.fr d0 = gi := Option.some.inj e1
    subst e; cases o1
  | _, _, _, .fr (d := d0) m, .cons q r, nd, ap, i + 1, 0, gi, gj, a, ne, e1, o1, e2, p2, x1, x2 => by
    have e : SV.fr d0 = gj := Option.some.inj e2
    subst e; cases p2
  | _, _, _, .fr (d := d0) m, .cons q r, nd, ap, i + 1, j + 1, gi, gj, a, ne, e1, o1, e2, p2, x1, x2 =>
    Mch.dis h m r nd ap i j gi gj a (fun z => ne (by rw [z])) e1 o1 e2 p2 x1 x2
  | _, _, _, .rdv (d := d0) _ m, .cons q r, nd, ap, 0, j, gi, gj, a, ne, e1, o1, e2, p2, x1, x2 => by
    have e : SV.rd d0 = gi := Option.some.inj e1
    subst e; cases o1
  | _, _, _, .rdv (d := d0) n1 m, .cons q r, nd, ap, i + 1, 0, gi, gj, a, ne, e1, o1, e2, p2, x1, x2 => by
    have s1 := Mch.src h m r i gi a e1 (own_pl o1) x1
    have s2 := Mch.src h (.rdv n1 .nil) (.cons q .nil) 0 gj a e2 p2 x2
    rw [o1] at s1
    have e : SV.rd d0 = gj := Option.some.inj e2
    subst e
    exact Src.apart h s1 s2 (fun _ _ y => by simp [mis] at y) (fun _ _ y => by simp [ris] at y) (fun _ _ z => by cases z)
  | _, _, _, .rdv (d := d0) _ m, .cons q r, nd, ap, i + 1, j + 1, gi, gj, a, ne, e1, o1, e2, p2, x1, x2 =>
    Mch.dis h m r nd ap i j gi gj a (fun z => ne (by rw [z])) e1 o1 e2 p2 x1 x2
  | _, _, _, .rdp (d := d0) e0 c m, .cons q r, nd, ap, 0, j, gi, gj, a, ne, e1, o1, e2, p2, x1, x2 => by
    have e : SV.rd d0 = gi := Option.some.inj e1
    subst e; cases o1
  | _, _, _, .rdp (i := k) (d := d0) e0 c m, .cons q r, nd, ap, i + 1, 0, gi, gj, a, ne, e1, o1, e2, p2, x1, x2 => by
    have s1 := Mch.src h m r i gi a e1 (own_pl o1) x1
    have s2 := Mch.src h (.rdp e0 c .nil) (.cons q .nil) 0 gj a e2 p2 x2
    rw [o1] at s1
    have e : SV.rd d0 = gj := Option.some.inj e2
    subst e
    exact Src.apart h s1 s2 (fun _ _ y => by simp [mis] at y) (fun y hy z => by
      have z : y = k := by simpa [ris] using z
      exact ap y hy (by rw [z]; exact List.mem_cons_self ..)) (fun _ _ z => by cases z)
  | _, _, _, .rdp (d := d0) e0 c m, .cons q r, nd, ap, i + 1, j + 1, gi, gj, a, ne, e1, o1, e2, p2, x1, x2 =>
    Mch.dis h m r nd (fun y hy z => ap y hy (List.mem_cons_of_mem _ z)) i j gi gj a (fun z => ne (by rw [z])) e1 o1 e2 p2 x1 x2
  | _, _, _, .mtp (d := d0) e0 ow c m, .cons q r, nd, ap, 0, 0, gi, gj, a, ne, e1, o1, e2, p2, x1, x2 => ne rfl
  | _, _, _, .mtp (i := k) (d := d0) e0 ow c m, .cons q r, nd, ap, 0, j + 1, gi, gj, a, ne, e1, o1, e2, p2, x1, x2 => by
    obtain ⟨nd1, nd2⟩ := List.nodup_cons.mp nd
    have s1 := Mch.src h (.mtp e0 ow c .nil) (.cons q .nil) 0 gi a e1 (own_pl o1) x1
    have s2 := Mch.src h m r j gj a e2 p2 x2
    rw [o1] at s1
    have e : SV.mt _ d0 = gi := Option.some.inj e1
    subst e
    refine Src.apart h s1 s2 (fun y hy z => ?_) (fun y hy z => ?_) (fun ap' f z => ?_)
    · have hy : y = k := by simpa [mis] using hy
      exact nd1 (by rw [← hy]; exact z)
    · have hy : y = k := by simpa [mis] using hy
      subst hy
      exact ap _ (List.mem_cons_self ..) z
    · have x1 := Option.some.inj x1
      subst x1
      exact ap' k _ e0 (own_pl ow) q
  | _, _, _, .mtp (i := k) (d := d0) e0 ow c m, .cons q r, nd, ap, i + 1, 0, gi, gj, a, ne, e1, o1, e2, p2, x1, x2 => by
    obtain ⟨nd1, nd2⟩ := List.nodup_cons.mp nd
    have s1 := Mch.src h m r i gi a e1 (own_pl o1) x1
    have s2 := Mch.src h (.mtp e0 ow c .nil) (.cons q .nil) 0 gj a e2 p2 x2
    rw [o1] at s1
    have e : SV.mt _ d0 = gj := Option.some.inj e2
    subst e
    refine Src.apart h s1 s2 (fun y hy z => ?_) (fun y hy z => ?_) (fun ap' f z => ?_)
    · have z : y = k := by simpa [mis] using z
      exact nd1 (by rw [← z]; exact hy)
    · simp [ris] at z
    · have x2 := Option.some.inj x2
      subst x2
      exact ap' k _ e0 (own_pl ow) q
  | _, _, _, .mtp (d := d0) e0 ow c m, .cons q r, nd, ap, i + 1, j + 1, gi, gj, a, ne, e1, o1, e2, p2, x1, x2 =>
    Mch.dis h m r (List.nodup_cons.mp nd).2 (fun y hy => ap y (List.mem_cons_of_mem _ hy)) i j gi gj a (fun z => ne (by rw [z])) e1 o1 e2 p2 x1 x2
/-- the addresses that the callee may change -/
theorem Mch.mad (h : Ok E W G σ H) : ∀ {rs : List R} {ps : List Pm} {xs : List V}, Mch G rs ps → RsOk E W G σ H rs xs →
    ∀ a ∈ mads ps (avs xs), (E.H a = none ∨ a ∈ E.M) ∧ ∀ (j : Nat) (d : D), G[j]? = some (.rd d) → σ[j]? ≠ some (some (.ref a))
  | _, _, _, .nil, .nil, a, ha => by simp [mads] at ha
  | _, _, _, .fr (d := d0) m, .cons q r, a, ha => Mch.mad h m r a ha
  | _, _, _, .rdv (d := d0) _ m, .cons q r, a, ha => Mch.mad h m r a ha
  | _, _, _, .rdp _ _ m, .cons q r, a, ha => Mch.mad h m r a ha
  | _, _, _, .mtp (i := k) (d := d0) e0 ow c m, .cons q r, a, ha => by
    rcases List.mem_cons.mp ha with e | ha
    · obtain ⟨b, rfl⟩ := ok_ref h e0 (own_pl ow) q
      have e : a = b := e
      subst e
      obtain ⟨f, nt, em, _⟩ := h.own_at e0 ow q
      refine ⟨em, fun j d ej z => ?_⟩
      by_cases hk : k = j
      · subst hk; rw [e0] at ej; injection ej with ej; subst ej; cases ow
      · exact h.dis k j _ _ a hk e0 ow ej rfl q z
    · exact Mch.mad h m r a ha
  | _, _, _, .mto (d := d0), .cons q .nil, a, ha => by
    obtain ⟨b, ob, rfl, e1, t, f, nt, n, ap⟩ := q
    have ha : a = b := by simpa [mads, avs, adr] using ha
    subst ha
    exact ⟨.inl n, fun j d ej => ap j _ ej rfl⟩
end

/-! ### behind the call -/
theorem OkA.drop {A : List Addr} {E : En} {W : Wd} {G : List SV} {σ : L2.St} {H : Hp} {a : Addr} (h : OkA (a :: A) E W G σ H) (n : ∀ (j : Nat) (g : SV), G[j]? = some g → g.isOwn = true → σ[j]? ≠ some (some (.ref a))) : OkA A E W G σ H := by
  refine ⟨h.ex, h.len, fun j g e => ?_, h.dis⟩
  obtain ⟨s, q1, q2⟩ := h.slot j g e
  refine ⟨s, q1, ?_⟩
  cases g with
  | no => exact True.intro
  | fr => exact q2
  | rd => exact q2
  | own d =>
    obtain ⟨c, es, y, rest⟩ := q2
    exact ⟨c, es, fun z => y (fun w => (List.mem_cons.mp w).elim (fun w => n j _ e rfl (by rw [q1, es, w])) z), rest⟩
  | mt c d =>
    obtain ⟨es, y, rest⟩ := q2
    exact ⟨es, fun z => y (fun w => (List.mem_cons.mp w).elim (fun w => n j _ e rfl (by rw [q1, es, w])) z), rest⟩
theorem OkA.refresh {A : List Addr} {E : En} {W : Wd} {G : List SV} {σ : L2.St} {H : Hp} {a : Addr} {m : Nat} {g : SV} {d : D} (h : OkA (a :: A) E W G σ H) (e : G[m]? = some g) (ow : g.isOwn = true) (r : σ[m]? = some (some (.ref a))) (t : MtAt W H a d) : OkA A E W (setC G m d) σ H := by
  have es : setC G m d = G.set m (g.put d) := by unfold setC; rw [e]
  rw [es]
  obtain ⟨o, t1, t2, t3, t4⟩ := t
  have back : ∀ {k : Nat} {g' : SV}, (G.set m (g.put d))[k]? = some g' → ∃ g0, G[k]? = some g0 ∧ g0.isOwn = g'.isOwn ∧ g0.isPl = g'.isPl := fun {k g'} q => by
    rcases get_set q with ⟨rfl, rfl, _⟩ | ⟨_, q⟩
    · exact ⟨g, e, by cases g <;> rfl, by cases g <;> rfl⟩
    · exact ⟨g', q, rfl, rfl⟩
  refine ⟨h.ex, by rw [List.length_set]; exact h.len, fun j g' ej => ?_, fun i j gi gj c ne e1 o1 e2 p2 s1 s2 => ?_⟩
  · rcases get_set ej with ⟨rfl, rfl, _⟩ | ⟨ne, ej'⟩
    · obtain ⟨s, q1, q2⟩ := h.slot _ g e
      rw [r] at q1
      injection q1 with q1
      subst q1
      refine ⟨_, r, ?_⟩
      cases g with
      | no => cases ow
      | fr => cases ow
      | rd => cases ow
      | own d0 =>
        obtain ⟨b, q, y, f, nt, n, k⟩ := q2
        injection q with q
        injection q with q
        subst q
        exact ⟨_, rfl, fun _ => ⟨o, t1, t2⟩, f, nt, n, k⟩
      | mt b d0 =>
        obtain ⟨q, y, f, nt, n, k⟩ := q2
        injection q with q
        injection q with q
        subst q
        exact ⟨rfl, fun _ => ⟨o, t1, t2⟩, f, nt, n, k⟩
    · obtain ⟨s, q1, q2⟩ := h.slot j g' ej'
      refine ⟨s, q1, ?_⟩
      cases g' with
      | no => exact True.intro
      | fr => exact q2
          | rd => exact q2
      | own d0 =>
        obtain ⟨c, es, y, rest⟩ := q2
        exact ⟨c, es, fun z => y (fun w => (List.mem_cons.mp w).elim (fun w => h.dis m j g _ a (fun u => ne u.symm) e ow ej' rfl r (by rw [q1, es, w])) z), rest⟩
      | mt c d0 =>
        obtain ⟨es, y, rest⟩ := q2
        exact ⟨es, fun z => y (fun w => (List.mem_cons.mp w).elim (fun w => h.dis m j g _ a (fun u => ne u.symm) e ow ej' rfl r (by rw [q1, es, w])) z), rest⟩
  · obtain ⟨g0, y1, y2, y3⟩ := back e1
    obtain ⟨g1, z1, z2, z3⟩ := back e2
    exact h.dis i j g0 g1 c ne y1 (by rw [y2]; exact o1) z1 (by rw [z3]; exact p2) s1 s2
theorem setC_pl {G : List SV} {m j : Nat} {d : D} {g : SV} (h : (setC G m d)[j]? = some g) : ∃ g0, G[j]? = some g0 ∧ g0.isPl = g.isPl ∧ g0.isOwn = g.isOwn := by
  unfold setC at h
  split at h
  · rename_i g1 e
    rcases get_set h with ⟨rfl, rfl, _⟩ | ⟨_, q⟩
    · exact ⟨g1, e, by cases g1 <;> rfl, by cases g1 <;> rfl⟩
    · exact ⟨g, q, rfl, rfl⟩
  · exact ⟨g, h, rfl, rfl⟩
theorem setC_own {G : List SV} {m j : Nat} {d : D} {g : SV} (h : G[j]? = some g) : ∃ g0, (setC G m d)[j]? = some g0 ∧ g0.isOwn = g.isOwn := by
  unfold setC
  split
  · rename_i g1 e
    by_cases q : m = j
    · subst q
      have hl := (List.getElem?_eq_some_iff.mp h).1
      rw [e] at h
      injection h with h
      subst h
      exact ⟨_, List.getElem?_set_self hl, by cases g1 <;> rfl⟩
    · exact ⟨g, by rw [List.getElem?_set_ne q]; exact h, rfl⟩
  · exact ⟨g, h, rfl⟩
theorem updG_pl : ∀ (rs : List R) (ps : List Pm) (G : List SV) (ds : List D) {j : Nat} {g : SV}, (updG G rs ps ds)[j]? = some g → ∃ g0, G[j]? = some g0 ∧ g0.isPl = g.isPl
  | [], ps, G, ds, j, g, h => by
    have e : updG G [] ps ds = G := by unfold updG; rfl
    rw [e] at h; exact ⟨g, h, rfl⟩
  | .p i :: rs, .mt _ :: ps, G, d :: ds, j, g, h => by
    obtain ⟨g1, e1, p1⟩ := updG_pl rs ps (setC G i d) ds (by simpa [updG] using h)
    obtain ⟨g0, e0, p0, _⟩ := setC_pl e1
    exact ⟨g0, e0, p0.trans p1⟩
  | .o _ :: rs, .mt _ :: ps, G, d :: ds, j, g, h => updG_pl rs ps G ds (by simpa [updG] using h)
  | .v _ :: rs, .mt _ :: ps, G, d :: ds, j, g, h => updG_pl rs ps G ds (by simpa [updG] using h)
  | .p i :: rs, .mt _ :: ps, G, [], j, g, h => ⟨g, by simpa [updG] using h, rfl⟩
  | .o _ :: rs, .mt _ :: ps, G, [], j, g, h => ⟨g, by simpa [updG] using h, rfl⟩
  | .v _ :: rs, .mt _ :: ps, G, [], j, g, h => ⟨g, by simpa [updG] using h, rfl⟩
  | _ :: rs, .fr _ :: ps, G, ds, j, g, h => updG_pl rs ps G ds (by simpa [updG] using h)
  | _ :: rs, .rd _ :: ps, G, ds, j, g, h => updG_pl rs ps G ds (by simpa [updG] using h)
  | _ :: rs, [], G, ds, j, g, h => ⟨g, by simpa [updG] using h, rfl⟩
theorem Mch.refresh {E : En} {W W0 : Wd} {G0 : List SV} {σ : L2.St} {H H0 : Hp} (ok0 : Ok E W0 G0 σ H0) : ∀ {rs : List R} {ps : List Pm} {xs : List V} {ds : List D}, Mch G0 rs ps → RsOk E W0 G0 σ H0 rs xs → Paired (MtAt W H) (mads ps (avs xs)) ds →
    ∀ {G : List SV}, (∀ (j : Nat) (g0 : SV), G0[j]? = some g0 → ∃ g, G[j]? = some g ∧ g.isOwn = g0.isOwn) → (∀ (j : Nat) (g : SV), G[j]? = some g → ∃ g0, G0[j]? = some g0 ∧ g0.isPl = g.isPl) → OkA (mads ps (avs xs)) E W G σ H → Ok E W (updG G rs ps ds) σ H
  | _, _, _, _, .nil, .nil, .nil, G, c, c2, h => by
    have e : updG G [] [] [] = G := by unfold updG; rfl
    rw [e]; exact h
  | _, _, _, _, .fr m, .cons q r, p, G, c, c2, h => by
    have := Mch.refresh ok0 m r p c c2 h
    simpa [updG] using this
  | _, _, _, _, .rdv _ m, .cons q r, p, G, c, c2, h => by
    have := Mch.refresh ok0 m r p c c2 h
    simpa [updG] using this
  | _, _, _, _, .rdp _ _ m, .cons q r, p, G, c, c2, h => by
    have := Mch.refresh ok0 m r p c c2 h
    simpa [updG] using this
  | _, _, _, _, .mtp (i := k) e0 ow _ m, .cons q r, .cons (b := d) t p, G, c, c2, h => by
    obtain ⟨a, rfl⟩ := ok_ref ok0 e0 (own_pl ow) q
    obtain ⟨g, eg, og⟩ := c k _ e0
    have h' : OkA (mads _ (avs _)) E W (setC G k d) σ H := OkA.refresh h eg (by rw [og]; exact ow) q t
    have := Mch.refresh ok0 m r p (G := setC G k d) (fun j g0 e => by
      obtain ⟨g1, e1, o1⟩ := c j g0 e
      obtain ⟨g2, e2, o2⟩ := setC_own (m := k) (d := d) e1
      exact ⟨g2, e2, o2.trans o1⟩) (fun j g' e => by
      obtain ⟨g1, e1, p1, _⟩ := setC_pl e
      obtain ⟨g2, e2, p2⟩ := c2 j g1 e1
      exact ⟨g2, e2, p2.trans p1⟩) h'
    simpa [updG] using this
  | _, _, _, _, .mto (d := d0), .cons q .nil, .cons (b := d1) t .nil, G, c, c2, h => by
    obtain ⟨b, ob, rfl, e1, t', f, nt, n, ap⟩ := q
    have e : updG G [.o d0] [.mt d0] [d1] = G := by simp [updG]
    rw [e]
    refine OkA.drop (a := b) h fun j g ej og z => ?_
    obtain ⟨g0, e0, p0⟩ := c2 j g ej
    exact ap j g0 e0 (by rw [p0]; exact own_pl og) z

/-- THE CALL -/
theorem call_core {E : En} {W : Wd} {G : List SV} {σ : L2.St} {H : Hp} {rs : List R} {ps : List Pm} {xs : List V} {S : Spec} {k : R → List SV → Prop} {l : Bool} {Q : VK} {X : XK} (ok : Ok E W G σ H) (hx : RsOk E W G σ H rs xs) (hm : Mch G rs ps)
    (h1 : (mis rs ps).Nodup) (h2 : ∀ m ∈ mis rs ps, m ∉ ris rs ps) (hl : l = true → E.L = none) (hS : S ps fun r ds => k r (updG G rs ps ds))
    (hQ : ∀ W' H' r G' x, W.le W' → Ok E W' G' σ H' → ROk E W' G' σ H' r x → k r G' → Q x H') : spOf l S xs H Q X := by
  have x := ok.ex
  let E' : En := ⟨W, H, mads ps (avs xs), E.L⟩
  have ex' : Ex E' W H := ⟨.rfl, fun b o q => .inl q, fun b q => .inl q, x.apart, x.sub, x.deal, fun b o q _ _ => q, fun b o q => ⟨o, q⟩, x.lk⟩
  refine ⟨E', ps, fun r ds => k r (updG G rs ps ds), avs xs, rfl, hl, hm.length hx, ⟨ex', ?_, fun i g e => ?_, fun i j gi gj a ne e1 o1 e2 p2 s1 s2 => ?_⟩, rfl, hS, fun W' H' r y ds y1 y2 y3 y4 => ?_⟩
  · rw [List.length_map, svs_length, hm.length hx]
  · obtain ⟨y, e1, e2⟩ := Mch.slots ok (E' := E') (M := mads ps (avs xs)) rfl rfl rfl rfl hm hx (fun a ha => ha) i g e
    exact ⟨some y, by rw [List.getElem?_map, e1]; rfl, e2⟩
  · rw [List.getElem?_map] at s1 s2
    have get : ∀ {m : Nat}, (xs[m]?).map some = some (some (V.ref a)) → xs[m]? = some (.ref a) := fun {m} z => by
      cases q : xs[m]? with
      | none => rw [q] at z; cases z
      | some w => rw [q] at z; injection z
    exact Mch.dis ok hm hx h1 h2 i j gi gj a ne e1 o1 e2 p2 (get s1) (get s2)
  · -- behind it
    have mad := Mch.mad ok hm hx
    have eW : W.le W' := y1.leW
    have frm' : ∀ b o, H b = some o → b ∉ mads ps (avs xs) → ¬ W.T b → H' b = some o := y1.frm
    have ex2 : Ex E W' H' := by
      refine ⟨x.leW.trans eW, fun b o q => ?_, fun b q => ?_, y1.apart, y1.sub, y1.deal, fun b o q n1 n2 => ?_, fun b o q => ?_, y1.lk⟩
      · exact (y1.newF b o q).elim (x.newF b o) fun z => .inr (x.newH z)
      · exact (y1.newT b q).elim (x.newT b) fun z => .inr (x.newH z)
      · refine frm' b o (x.frm b o q n1 n2) (fun z => ?_) fun z => ?_
        · rcases (mad b z).1 with w | w
          · rw [q] at w; cases w
          · exact n1 w
        · rcases x.newT b z with w | w
          · exact n2 w
          · rw [q] at w; cases w
      · obtain ⟨o', z⟩ := x.dom b o q
        exact y1.dom b o' z
    have nF : ∀ {a : Addr}, W.F a = none → (∃ o, H a = some o) → W'.F a = none := fun {a} f1 ⟨o, f2⟩ => by
      cases q : W'.F a with
      | none => rfl
      | some u =>
        rcases y1.newF a u q with z | z
        · have z : W.F a = some u := z
          rw [f1] at z; cases z
        · have z : H a = none := z
          rw [f2] at z; cases z
    have nT : ∀ {a : Addr}, ¬ W.T a → (∃ o, H a = some o) → ¬ W'.T a := fun {a} f1 ⟨o, f2⟩ q => by
      rcases y1.newT a q with z | z
      · exact f1 z
      · have z : H a = none := z
        rw [f2] at z; cases z
    have okA : OkA (mads ps (avs xs)) E W' G σ H' := by
      refine ⟨ex2, ok.len, fun i g e => ?_, ok.dis⟩
      obtain ⟨s, e1, e2⟩ := ok.slot i g e
      refine ⟨s, e1, ?_⟩
      cases g with
      | no => exact True.intro
      | fr d => obtain ⟨v, q, r⟩ := e2; exact ⟨v, q, At.mono eW _ r⟩
      | own d =>
        obtain ⟨a, es, y, f, nt, n, o, k⟩ := e2
        exact ⟨a, es, fun z => let ⟨o, z1, z2⟩ := y (by simp); ⟨o, frm' a o z1 z nt, z2.mono eW⟩, nF f ⟨o, k⟩, nT nt ⟨o, k⟩, n, y1.dom a o k⟩
      | mt a d =>
        obtain ⟨es, y, f, nt, n, o, k⟩ := e2
        exact ⟨es, fun z => let ⟨o, z1, z2⟩ := y (by simp); ⟨o, frm' a o z1 z nt, z2.mono eW⟩, nF f ⟨o, k⟩, nT nt ⟨o, k⟩, n, y1.dom a o k⟩
      | rd d =>
        obtain ⟨a, o, es, q, t, n⟩ := e2
        have na : a ∉ mads ps (avs xs) := fun z => (mad a z).2 i d e (by rw [e1, es])
        have k : ∃ o, H a = some o := q.elim (fun z => ⟨_, z.2⟩) fun z => z.2.elim fun od y => ⟨_, y⟩
        refine ⟨a, o, es, ?_, t.mono eW, nT n k⟩
        rcases q with q | ⟨q, od, q2⟩
        · exact .inl ⟨q.1, frm' a o q.2 na n⟩
        · exact .inr ⟨q, od, frm' a _ q2 na n⟩
    have ok2 : Ok E W' (updG G rs ps ds) σ H' := Mch.refresh ok hm hx y3 (fun j g0 e => ⟨g0, e, rfl⟩) (fun j g e => ⟨g, e, rfl⟩) okA
    refine hQ W' H' r _ y eW ok2 ?_ y4
    cases r with
    | v d => exact y2
    | p i => exact y2.elim
    | o d =>
      obtain ⟨a, ob, rfl, z1, z2, z3, z4, z5⟩ := y2
      have z5 : H a = none := z5
      refine ⟨a, ob, rfl, z1, z2, z3, z4, x.newH z5, fun j g e pl w => ?_⟩
      obtain ⟨g0, e0, p0⟩ := updG_pl rs ps G ds e
      obtain ⟨c, o, w1, w2, _⟩ := ok.place e0 (by rw [p0]; exact pl)
      rw [w] at w1
      injection w1 with w1
      injection w1 with w1
      injection w1 with w1
      rw [← w1, z5] at w2
      cases w2
end Q
-- text Q4
set_option Elab.async false
set_option linter.all false
set_option maxRecDepth 100000
set_option maxHeartbeats 1000000
/-! Layer Q, part 4: rules for readings. -/
namespace Q
open PySem PySem.Spec PyProof.Rows L2

/-! ### lookups -/
def lkp {κ : Type} [DecidableEq κ] : List κ → List D → κ → Option D
  | k :: ks, d :: ds, t => if k = t then some d else lkp ks ds t
  | _, _, _ => none
theorem kK_inj {a b : Str} (h : kK a = kK b) : a = b := Sum.inr.inj h
theorem kT_inj {a b : Str × Str} (h : kT a = kT b) : a = b := by
  unfold kT at h
  injection h with h1 h2
  injection h2 with h2 _
  exact Prod.ext (Sum.inr.inj h1) (Sum.inr.inj h2)
theorem val_lkp {W : Wd} {κ κ' : Type} [DecidableEq κ] [DecidableEq κ'] (f : κ → κ') (hf : ∀ a b, f a = f b → a = b) : ∀ {kvs : List (κ' × V)} {ks : List κ} {ds : List D}, kvs.map (·.1) = ks.map f → Ats W (kvs.map (·.2)) ds → ∀ t : κ,
    (∃ v d, valV kvs (f t) = some v ∧ lkp ks ds t = some d ∧ At W v d) ∨ (valV kvs (f t) = none ∧ lkp ks ds t = none)
  | [], [], ds, _, h, t => .inr ⟨rfl, by cases h; rfl⟩
  | [], _ :: _, ds, h, _, t => by simp at h
  | _ :: _, [], ds, h, _, t => by simp at h
  | (k', v) :: kvs, k :: ks, ds, h1, h2, t => by
    have h1' : k' :: kvs.map (·.1) = f k :: ks.map f := h1
    injection h1' with e1 e2
    subst e1
    have h2' : Ats W (v :: kvs.map (·.2)) ds := h2
    cases h2' with
    | cons a b =>
      rename_i d ds
      by_cases q : k = t
      · subst q
        exact .inl ⟨v, d, valV_pos rfl, by unfold lkp; rw [if_pos rfl], a⟩
      · have ih := val_lkp f hf e2 b t
        have z : valV ((f k, v) :: kvs) (f t) = valV kvs (f t) := valV_neg fun z => q (hf _ _ z)
        have y : lkp (k :: ks) (d :: ds) t = lkp ks ds t := by
          show (if k = t then some d else lkp ks ds t) = _
          rw [if_neg q]
        rw [z, y]
        exact ih
theorem lkp_none {κ : Type} [DecidableEq κ] : ∀ {ks : List κ} {ds : List D} {t : κ}, t ∉ ks → lkp ks ds t = none
  | [], _, _, _ => by unfold lkp; rfl
  | _ :: _, [], _, _ => by unfold lkp; rfl
  | k :: ks, d :: ds, t, h => by
    show (if k = t then some d else lkp ks ds t) = none
    rw [if_neg (fun z => h (by rw [z]; exact List.mem_cons_self ..))]
    exact lkp_none fun z => h (List.mem_cons_of_mem _ z)
theorem lkp_some {κ : Type} [DecidableEq κ] : ∀ {ks : List κ} {ds : List D} {t : κ} {d : D}, lkp ks ds t = some d → t ∈ ks
  | [], _, _, _, h => by unfold lkp at h; cases h
  | _ :: _, [], _, _, h => by unfold lkp at h; cases h
  | k :: ks, e :: ds, t, d, h => by
    have h : (if k = t then some e else lkp ks ds t) = some d := h
    by_cases q : k = t
    · rw [q]; exact List.mem_cons_self ..
    · rw [if_neg q] at h
      exact List.mem_cons_of_mem _ (lkp_some h)
theorem lkp_get {κ : Type} [DecidableEq κ] : ∀ {ks : List κ} {ds : List D}, ks.length = ds.length → ∀ {t : κ}, t ∈ ks → ∃ d, lkp ks ds t = some d
  | [], _, _, t, h => by simp at h
  | _ :: _, [], h, _, _ => by simp at h
  | k :: ks, e :: ds, hl, t, h => by
    show ∃ d, (if k = t then some e else lkp ks ds t) = some d
    by_cases q : k = t
    · exact ⟨e, if_pos q⟩
    · rw [if_neg q]
      rcases List.mem_cons.mp h with z | z
      · exact absurd z.symm q
      · exact lkp_get (by simpa using hl) z
theorem At.raw_eq {W : Wd} {x v : V} (h : At W x (.raw v)) : x = v := by cases h; rfl
theorem At.fields {W : Wd} {v : V} {C : Addr} {ns : List Str} {ds : List D} (h : At W v (.obj C ns ds)) : ∃ a dx fs, v = .ref a ∧ W.F a = some (.ins C dx fs) ∧ fs.map (·.1) = ns ∧ Ats W (fs.map (·.2)) ds := by
  cases h with | obj e k r => exact ⟨_, _, _, rfl, e, k, r⟩
theorem fld_lkp {W : Wd} : ∀ {fs : List (Str × V)} {ns : List Str} {ds : List D}, fs.map (·.1) = ns → Ats W (fs.map (·.2)) ds → ∀ {f : Str} {d : D}, lkp ns ds f = some d → ∃ v, fs.lookup f = some v ∧ At W v d
  | [], ns, ds, h1, h2, f, d, h => by
    have h1 : ([] : List Str) = ns := h1
    subst h1
    unfold lkp at h; cases h
  | (g, v) :: fs, ns, ds, h1, h2, f, d, h => by
    have h1 : g :: fs.map (·.1) = ns := h1
    subst h1
    have h2' : Ats W (v :: fs.map (·.2)) ds := h2
    cases h2' with
    | cons a b =>
      rename_i e es
      have h : (if g = f then some e else lkp (fs.map (·.1)) es f) = some d := h
      by_cases q : g = f
      · subst q
        rw [if_pos rfl] at h
        injection h with h
        subst h
        exact ⟨v, by simp [List.lookup], a⟩
      · rw [if_neg q] at h
        obtain ⟨w, e1, e2⟩ := fld_lkp rfl b h
        have qf : (f == g) = false := beq_false_of_ne fun z => q z.symm
        exact ⟨w, by simp only [List.lookup, qf]; exact e1, e2⟩
theorem fld_none {fs : List (Str × V)} {f : Str} (h : f ∉ fs.map (·.1)) : fs.lookup f = none := by
  induction fs with
  | nil => rfl
  | cons p fs ih =>
    obtain ⟨g, v⟩ := p
    have n : f ≠ g ∧ f ∉ fs.map (·.1) := by
      constructor
      · intro z; subst z; exact h (List.mem_cons_self ..)
      · intro z; exact h (List.mem_cons_of_mem _ z)
    have qf : (f == g) = false := beq_false_of_ne n.1
    simp only [List.lookup, qf]
    exact ih n.2

/-! ### reading results -/
section
variable {E : En} {W : Wd} {G : List SV} {σ : L2.St} {H : Hp} {r : R} {x : V}
theorem Ok.rdL {ds : List D} (h : Ok E W G σ H) (q : ROk E W G σ H r x) (c : con G r = some (.lst ds)) : ∃ a xs, x = .ref a ∧ H a = some (.lst xs) ∧ Ats W xs ds ∧ ¬ W.T a := by
  obtain ⟨a, o, e, l, t, n⟩ := h.read q c rfl
  obtain ⟨xs, rfl, t⟩ := t.lst
  exact ⟨a, xs, e, nofr l h.ex.lk (fun _ z => nomatch z) (fun _ z => nomatch z), t, n⟩
theorem Ok.rdT {ds : List D} (h : Ok E W G σ H) (q : ROk E W G σ H r x) (c : con G r = some (.tup ds)) : ∃ a xs, x = .ref a ∧ H a = some (.tup xs) ∧ Ats W xs ds ∧ ¬ W.T a := by
  obtain ⟨a, o, e, l, t, n⟩ := h.read q c rfl
  obtain ⟨xs, rfl, t⟩ := t.tup
  exact ⟨a, xs, e, nofr l h.ex.lk (fun _ z => nomatch z) (fun _ z => nomatch z), t, n⟩
theorem Ok.rdK {ks : List Str} {ds : List D} (h : Ok E W G σ H) (q : ROk E W G σ H r x) (c : con G r = some (.dK ks ds)) : ∃ a kvs, x = .ref a ∧ Rd H a (.dK kvs) ∧ kvs.map (·.1) = ks.map kK ∧ Ats W (kvs.map (·.2)) ds ∧ (E.L = none → H a = some (.dK kvs)) ∧ ¬ W.T a := by
  obtain ⟨a, o, e, l, t, n⟩ := h.read q c rfl
  obtain ⟨kvs, rfl, t1, t2⟩ := t.dK
  exact ⟨a, kvs, e, l.rd, t1, t2, fun z => l.elim (fun y => y.2) (fun y => by rw [z] at y; cases y.1), n⟩
theorem Ok.rdM {ks : List (Str × Str)} {ds : List D} (h : Ok E W G σ H) (q : ROk E W G σ H r x) (c : con G r = some (.dT ks ds)) : ∃ a kvs, x = .ref a ∧ Rd H a (.dT kvs) ∧ kvs.map (·.1) = ks.map kT ∧ Ats W (kvs.map (·.2)) ds ∧ (E.L = none → H a = some (.dT kvs)) ∧ ¬ W.T a := by
  obtain ⟨a, o, e, l, t, n⟩ := h.read q c rfl
  obtain ⟨kvs, rfl, t1, t2⟩ := t.dT
  exact ⟨a, kvs, e, l.rd, t1, t2, fun z => l.elim (fun y => y.2) (fun y => by rw [z] at y; cases y.1), n⟩
theorem Ok.rdO {C : Addr} {ns : List Str} {ds : List D} (h : Ok E W G σ H) (q : ROk E W G σ H r x) (c : con G r = some (.obj C ns ds)) : ∃ a dx fs, x = .ref a ∧ H a = some (.ins C dx fs) ∧ fs.map (·.1) = ns ∧ Ats W (fs.map (·.2)) ds ∧ ¬ W.T a := by
  obtain ⟨a, o, e, l, t, n⟩ := h.read q c rfl
  obtain ⟨dx, fs, rfl, t1, t2⟩ := t.obj
  exact ⟨a, dx, fs, e, nofr l h.ex.lk (fun _ z => nomatch z) (fun _ z => nomatch z), t1, t2, n⟩
/-- a frozen tuple of two texts -/
theorem Ok.rdP {p q : Str} (h : Ok E W G σ H) (r : At W x (.tup [.raw (.str p), .raw (.str q)])) : ∃ b, x = .ref b ∧ H b = some (.tup ((kT (p, q)).map kV)) := by
  obtain ⟨a, xs, e, hx, t, _⟩ := h.rdT (r := .v _) (x := x) r rfl
  cases t with
  | cons a1 t =>
    cases t with
    | cons a2 t =>
      cases t
      have e1 := a1.raw_eq
      have e2 := a2.raw_eq
      subst e1 e2
      exact ⟨a, e, hx⟩
end
def fz : R → R
  | .o d => .v d
  | r => r
def noO : R → Prop
  | .o _ => False
  | _ => True
theorem ROk.keep {E : En} {W W' : Wd} {G G' : List SV} {σ : L2.St} {H H' : Hp} {r : R} {x : V} (n : noO r) (h : ROk E W G σ H r x) (l : W.le W') : ROk E W' G' σ H' r x := by
  cases r with
  | v d => exact At.mono l _ h
  | p i => exact h
  | o d => exact n.elim
theorem fzOk {E : En} {W : Wd} {G : List SV} {σ : L2.St} {H : Hp} {r : R} {x : V} (ok : Ok E W G σ H) (h : ROk E W G σ H r x) : ∃ W', W.le W' ∧ Ok E W' G σ H ∧ ROk E W' G σ H (fz r) x ∧ noO (fz r) := by
  cases r with
  | v d => exact ⟨W, .rfl, ok, h, True.intro⟩
  | p i => exact ⟨W, .rfl, ok, h, True.intro⟩
  | o d =>
    obtain ⟨W', l, ok', a⟩ := ok.freeze h
    exact ⟨W', l, ok', a, True.intro⟩
theorem RsOk.keep {E : En} {W W' : Wd} {G G' : List SV} {σ : L2.St} {H H' : Hp} : ∀ {rs : List R} {xs : List V}, (∀ r ∈ rs, noO r) → RsOk E W G σ H rs xs → W.le W' → RsOk E W' G' σ H' rs xs
  | _, _, _, .nil, _ => .nil
  | _, _, n, .cons a b, l => .cons (a.keep (n _ (List.mem_cons_self ..)) l) (b.keep (fun r h => n r (List.mem_cons_of_mem _ h)) l)

theorem vR {E : En} {W : Wd} {G : List SV} {σ : L2.St} {H : Hp} {x : V} {d : D} (a : At W x d) : ROk E W G σ H (.v d) x := a
theorem pR {E : En} {W : Wd} {G : List SV} {σ : L2.St} {H : Hp} {x : V} {i : Nat} (a : σ[i]? = some (some x)) : ROk E W G σ H (.p i) x := a
theorem rawR {E : En} {W : Wd} {G : List SV} {σ : L2.St} {H : Hp} {v : V} : ROk E W G σ H (.v (.raw v)) v := .raw v
/-! ### expressions -/
section
variable {L : Option Addr} {G : List SV} {k : R → List SV → Prop}
theorem ae_imp {te : TE} {k' : R → List SV → Prop} (h : AE L te G k) (q : ∀ r G', k r G' → k' r G') : AE L te G k' := fun E eL W σ H ok Q hQ => h E eL W σ H ok Q fun W' H' r G' x l ok' rx kr => hQ W' H' r G' x l ok' rx (q r G' kr)
theorem ae_var {i : Nat} {d : D} (e : G[i]? = some (.fr d)) (h : k (.v d) G) : AE L (tVar i) G k := fun E eL W σ H ok Q q => by
  obtain ⟨s, e1, v, rfl, a⟩ := ok.slot i _ e
  exact ⟨v, e1, q W H _ G v .rfl ok (vR a) h⟩
theorem ae_pl {i : Nat} {g : SV} (e : G[i]? = some g) (p : g.isPl = true) (h : k (.p i) G) : AE L (tVar i) G k := fun E eL W σ H ok Q q => by
  obtain ⟨a, o, e1, _⟩ := ok.place e p
  exact ⟨.ref a, e1, q W H _ G _ .rfl ok (pR e1) h⟩
/-- the slot's container is frozen as it is read -/
theorem ae_frz {i : Nat} {d : D} (e : G[i]? = some (.own d)) (h : k (.v d) (G.set i (.fr d))) : AE L (tVar i) G k := fun E eL W σ H ok Q q => by
  obtain ⟨W', x, l, ok', e1, a⟩ := ok.frzSlot e
  exact ⟨x, e1, q W' H _ _ x l ok' (vR a) h⟩
theorem ae_c {v : V} (h : k (.v (.raw v)) G) : AE L (tC v) G k := fun E eL W σ H ok Q q => q W H _ G v .rfl ok rawR h
theorem ae_op {ta tb : TE} {r : R2} (h : AE L ta G fun r1 G1 => AE L tb G1 fun r2 G2 => AR L r (fz r1) (fz r2) G2 k) : AE L (tOp r ta tb) G k := fun E eL W σ H ok Q q => by
  refine h E eL W σ H ok _ fun W1 H1 r1 G1 x l1 ok1 rx k1 => ?_
  obtain ⟨W2, l2, ok2, rx2, n2⟩ := fzOk ok1 rx
  refine k1 E eL W2 σ H1 ok2 _ fun W3 H3 r2 G3 y l3 ok3 ry k2 => ?_
  obtain ⟨W4, l4, ok4, ry4, _⟩ := fzOk ok3 ry
  exact k2 E eL W4 σ H3 x y ok4 (rx2.keep n2 (l3.trans l4)) ry4 Q fun W5 H5 r5 G5 z l5 ok5 rz k5 => q W5 H5 r5 G5 z (l1.trans (l2.trans (l3.trans (l4.trans l5)))) ok5 rz k5
theorem ae_un {ta : TE} {f : Int → V} {i : Int} (h : AE L ta G fun r1 G1 => ∃ i : Int, r1 = .v (.raw (.int i)) ∧ k (.v (.raw (f i))) G1) : AE L (tUn (rU f) ta) G k := fun E eL W σ H ok Q q => by
  refine h E eL W σ H ok _ fun W1 H1 r1 G1 x l1 ok1 rx ⟨i, e, k1⟩ => ?_
  subst e
  have ex := At.raw_eq rx
  subst ex
  exact ⟨i, rfl, q W1 H1 _ G1 _ l1 ok1 rawR k1⟩
/-! arguments -/
theorem aa_nil {k : List R → List SV → Prop} (h : k [] G) : AA L tNil G k := fun E eL W σ H ok Q q => q W H [] G [] .rfl ok .nil h
theorem aa_cons {te : TE} {ta : TA} {k : List R → List SV → Prop} (h : AE L te G fun r G1 => AA L ta G1 fun rs G2 => k (fz r :: rs) G2) : AA L (tCons te ta) G k := fun E eL W σ H ok Q q => by
  refine h E eL W σ H ok _ fun W1 H1 r1 G1 x l1 ok1 rx k1 => ?_
  obtain ⟨W2, l2, ok2, rx2, n2⟩ := fzOk ok1 rx
  exact k1 E eL W2 σ H1 ok2 _ fun W3 H3 rs G3 xs l3 ok3 rxs k3 => q W3 H3 _ G3 _ (l1.trans (l2.trans l3)) ok3 (.cons (rx2.keep n2 l3) rxs) k3
/-- the last argument may be new -/
theorem aa_last {te : TE} {k : List R → List SV → Prop} (h : AE L te G fun r G1 => k [r] G1) : AA L (tCons te tNil) G k := fun E eL W σ H ok Q q =>
  h E eL W σ H ok _ fun W1 H1 r1 G1 x l1 ok1 rx k1 => q W1 H1 _ G1 _ l1 ok1 (.cons rx .nil) k1
theorem rs_ats {E : En} {W : Wd} {σ : L2.St} {H : Hp} : ∀ {ds : List D} {xs : List V}, RsOk E W G σ H (ds.map .v) xs → Ats W xs ds
  | [], _, .nil => .nil
  | _ :: _, _, .cons a b => .cons a (rs_ats b)
theorem ae_tup {ta : TA} (h : AA L ta G fun rs G1 => ∃ ds : List D, rs = ds.map .v ∧ ds.length ≤ 100000 ∧ k (.v (.tup ds)) G1) : AE L (tTup ta) G k := fun E eL W σ H ok Q q => by
  refine h E eL W σ H ok _ fun W1 H1 rs G1 xs l1 ok1 rx ⟨ds, e, hl, k1⟩ => ?_
  subst e
  have a := rs_ats rx
  refine ⟨by rw [a.length]; exact Nat.le_trans hl (by decide), fun p hp => ?_⟩
  exact q (W1.frz p (.tup xs)) _ _ G1 _ (l1.trans (Wd.frz_le (ok1.ex.fresh hp).1)) (ok1.newF hp) (vR (At.newF (d := .tup ds) (o := .tup xs) (ok1.ex.fresh hp).1 a)) k1
theorem ae_lst {ta : TA} (h : AA L ta G fun rs G1 => ∃ ds : List D, rs = ds.map .v ∧ ds.length ≤ 100000 ∧ k (.o (.lst ds)) G1) : AE L (tLst ta) G k := fun E eL W σ H ok Q q => by
  refine h E eL W σ H ok _ fun W1 H1 rs G1 xs l1 ok1 rx ⟨ds, e, hl, k1⟩ => ?_
  subst e
  have a := rs_ats rx
  refine ⟨by rw [a.length]; exact Nat.le_trans hl (by decide), fun p hp => ?_⟩
  exact q W1 _ _ G1 _ l1 (ok1.new hp) (ok1.freshR (ob := .lst xs) (d := .lst ds) hp a) k1
theorem ae_newK (h : k (.o (.dK [] [])) G) : AE L tDNewK G k := fun E eL W σ H ok Q q p hp => q W _ _ G _ .rfl (ok.new hp) (ok.freshR (ob := .dK []) (d := .dK [] []) hp ⟨rfl, .nil⟩) h
theorem ae_newT (h : k (.o (.dT [] [])) G) : AE L tDNewT G k := fun E eL W σ H ok Q q p hp => q W _ _ G _ .rfl (ok.new hp) (ok.freshR (ob := .dT []) (d := .dT [] []) hp ⟨rfl, .nil⟩) h
/-! calls -/
/-- what a call of a promised def asks -/
def CallQ (L : Option Addr) (l : Bool) (S : Spec) (rs : List R) (G : List SV) (k : R → List SV → Prop) : Prop :=
  ∃ ps, Mch G rs ps ∧ (mis rs ps).Nodup ∧ (∀ m ∈ mis rs ps, m ∉ ris rs ps) ∧ (l = true → L = none) ∧ S ps fun r ds => k r (updG G rs ps ds)
theorem RsOk.app {E : En} {W : Wd} {σ : L2.St} {H : Hp} : ∀ {rs : List R} {xs : List V} {dvs : List V}, RsOk E W G σ H rs xs → RsOk E W G σ H (rs ++ dvs.map fun v => .v (.raw v)) (xs ++ dvs)
  | _, _, [], .nil => .nil
  | _, _, v :: dvs, .nil => .cons (.raw v) (RsOk.app (rs := []) (xs := []) (dvs := dvs) .nil)
  | _, _, _, .cons a b => .cons a b.app
theorem ae_call {l : Bool} {S : Spec} {dvs : List V} {X : XK} {ta : TA} (h : AA L ta G fun rs G1 => CallQ L l S (rs ++ dvs.map fun v => .v (.raw v)) G1 k) : AE L (tCall (spOf l S) dvs X ta) G k := fun E eL W σ H ok Q q => by
  refine h E eL W σ H ok _ fun W1 H1 rs G1 xs l1 ok1 rx ⟨ps, m, n1, n2, hl, s⟩ => ?_
  exact call_core ok1 rx.app m n1 n2 (fun z => eL.trans (hl z)) s fun W2 H2 r G2 x l2 ok2 r2 k2 => q W2 H2 r G2 x (l1.trans l2) ok2 r2 k2
theorem ae_meth {C : Addr} {m : Str} {l : Bool} {S : Spec} {dvs : List V} {X : XK} {to : TE} {ta : TA}
    (h : AE L to G fun r G1 => ∃ ns ds, r = .v (.obj C ns ds) ∧ m ∉ ns ∧ AA L ta G1 fun rs G2 => CallQ L l S (.v (.obj C ns ds) :: (rs ++ dvs.map fun v => .v (.raw v))) G2 k) : AE L (tMeth C m (spOf l S) dvs X to ta) G k := fun E eL W σ H ok Q q => by
  refine h E eL W σ H ok _ fun W1 H1 r1 G1 x l1 ok1 rx ⟨ns, ds, e, hm, k1⟩ => ?_
  subst e
  obtain ⟨a, dx, fs, rfl, e1, e2, e3, _⟩ := ok1.rdO rx rfl
  refine ⟨a, dx, fs, rfl, e1, fld_none (by rw [e2]; exact hm), ?_⟩
  refine k1 E eL W1 σ H1 ok1 _ fun W2 H2 rs G2 xs l2 ok2 rxs ⟨ps, mm, n1, n2, hl, s⟩ => ?_
  exact call_core (rs := .v (.obj C ns ds) :: (rs ++ dvs.map fun v => .v (.raw v))) ok2 (.cons (ROk.keep (r := .v _) True.intro rx l2) rxs.app) mm n1 n2 (fun z => eL.trans (hl z)) s fun W3 H3 r G3 x l3 ok3 r3 k3 => q W3 H3 r G3 x (l1.trans (l2.trans l3)) ok3 r3 k3
theorem ae_fld {K : PySem.W.Frag} {f : Str} {to : TE} (h : AE L to G fun r G1 => ∃ C ns ds d, r = .v (.obj C ns ds) ∧ Cls K C ∧ NoAttr K C f ∧ lkp ns ds f = some d ∧ k (.v d) G1) : AE L (tFld K to f) G k := fun E eL W σ H ok Q q => by
  refine h E eL W σ H ok _ fun W1 H1 r1 G1 x l1 ok1 rx ⟨C, ns, ds, d, e, hc, hn, hf, k1⟩ => ?_
  subst e
  obtain ⟨a, dx, fs, rfl, e1, e2, e3, _⟩ := ok1.rdO rx rfl
  obtain ⟨v, e4, a4⟩ := fld_lkp e2 e3 hf
  exact ⟨a, C, dx, fs, v, rfl, e1, hc, hn, e4, q W1 H1 _ G1 v l1 ok1 (vR a4) k1⟩
theorem ae_cb {r : List V → Hp → VK → Prop} {ta : TA} (h : AA L ta G fun rs G1 => AC L r rs G1 k) : AE L (tCB r ta) G k := fun E eL W σ H ok Q q =>
  h E eL W σ H ok _ fun W1 H1 rs G1 xs l1 ok1 rx k1 => k1 E eL W1 σ H1 xs ok1 rx Q fun W2 H2 r2 G2 z l2 ok2 r3 k2 => q W2 H2 r2 G2 z (l1.trans l2) ok2 r3 k2
end

/-! ### operations -/
section
variable {L : Option Addr} {G : List SV} {k : R → List SV → Prop}
theorem ar_II {f : Int → Int → V} {i j : Int} (h : k (.v (.raw (f i j))) G) : AR L (rI0 f) (.v (.raw (.int i))) (.v (.raw (.int j))) G k := fun E eL W σ H x y ok rx ry Q q => by
  cases At.raw_eq rx
  cases At.raw_eq ry
  exact ⟨i, j, rfl, rfl, q W H _ G _ .rfl ok rawR h⟩
theorem ar_IIC {C : Int → Int → Prop} {f : Int → Int → V} {i j : Int} (c : C i j) (h : k (.v (.raw (f i j))) G) : AR L (rI C f) (.v (.raw (.int i))) (.v (.raw (.int j))) G k := fun E eL W σ H x y ok rx ry Q q => by
  cases At.raw_eq rx
  cases At.raw_eq ry
  exact ⟨i, j, rfl, rfl, c, q W H _ G _ .rfl ok rawR h⟩
theorem ar_eq {x y : V} (s : scal x y = true) (h : k (.v (.raw (.bl (decide (x = y))))) G) : AR L rEq (.v (.raw x)) (.v (.raw y)) G k := fun E eL W σ H x' y' ok rx ry Q q => by
  cases At.raw_eq rx
  cases At.raw_eq ry
  exact ⟨s, q W H _ G _ .rfl ok rawR h⟩
theorem ar_ne {x y : V} (s : scal x y = true) (h : k (.v (.raw (.bl (!decide (x = y))))) G) : AR L rNe (.v (.raw x)) (.v (.raw y)) G k := fun E eL W σ H x' y' ok rx ry Q q => by
  cases At.raw_eq rx
  cases At.raw_eq ry
  exact ⟨s, q W H _ G _ .rfl ok rawR h⟩
theorem ar_isN {x : V} (h : k (.v (.raw (.bl (decide (x = .non))))) G) : AR L (fun x y H Q => y = .non ∧ Q (.bl (decide (x = .non))) H) (.v (.raw x)) (.v (.raw .non)) G k := fun E eL W σ H x' y' ok rx ry Q q => by
  cases At.raw_eq rx
  cases At.raw_eq ry
  exact ⟨rfl, q W H _ G _ .rfl ok rawR h⟩
/-- an object is not None -/
theorem ar_isN_obj {r : R} {d : D} (c : con G r = some d) (hc : d.isC = true) (h : k (.v (.raw (.bl false))) G) : AR L (fun x y H Q => y = .non ∧ Q (.bl (decide (x = .non))) H) r (.v (.raw .non)) G k := fun E eL W σ H x' y' ok rx ry Q q => by
  cases At.raw_eq ry
  obtain ⟨a, o, rfl, _⟩ := ok.read rx c hc
  exact ⟨rfl, q W H _ G _ .rfl ok rawR h⟩
theorem ar_addS {a b : Str} (hl : a.length + b.length ≤ 100000) (h : k (.v (.raw (.str (a ++ b)))) G) : AR L (fun x y H Q => ∃ i j, x = .str i ∧ y = .str j ∧ i.length + j.length ≤ sizeLine ∧ Q (.str (i ++ j)) H) (.v (.raw (.str a))) (.v (.raw (.str b))) G k := fun E eL W σ H x' y' ok rx ry Q q => by
  cases At.raw_eq rx
  cases At.raw_eq ry
  exact ⟨a, b, rfl, rfl, Nat.le_trans hl (by decide), q W H _ G _ .rfl ok rawR h⟩
theorem at_ats {W : Wd} {xs : List V} {ds : List D} (t : Ats W xs ds) {i : Int} {d : D} (e : atI ds i = some d) : ∃ v, atI xs i = some v ∧ At W v d := by
  unfold atI at e ⊢
  rw [t.length]
  cases q : ixN ds.length i with
  | none => rw [q] at e; cases e
  | some j =>
    rw [q] at e
    obtain ⟨v, e1, e2⟩ := t.get' (i := j) (d := d) e
    exact ⟨v, e1, e2⟩
theorem ar_ixL {K : PySem.W.Frag} {r : R} {ds : List D} {i : Int} {d : D} (c : con G r = some (.lst ds)) (e : atI ds i = some d) (h : k (.v d) G) : AR L (rIxL K) r (.v (.raw (.int i))) G k := fun E eL W σ H x y ok rx ry Q q => by
  cases At.raw_eq ry
  obtain ⟨a, xs, rfl, hx, t, _⟩ := ok.rdL rx c
  obtain ⟨v, e1, e2⟩ := at_ats t e
  exact ⟨a, xs, i, v, rfl, rfl, SqL.of hx, e1, q W H _ G v .rfl ok (vR e2) h⟩
theorem ar_ixT {K : PySem.W.Frag} {r : R} {ds : List D} {i : Int} {d : D} (c : con G r = some (.tup ds)) (e : atI ds i = some d) (h : k (.v d) G) : AR L (rIxT K) r (.v (.raw (.int i))) G k := fun E eL W σ H x y ok rx ry Q q => by
  cases At.raw_eq ry
  obtain ⟨a, xs, rfl, hx, t, _⟩ := ok.rdT rx c
  obtain ⟨v, e1, e2⟩ := at_ats t e
  exact ⟨a, xs, i, v, rfl, rfl, SqT.of hx, e1, q W H _ G v .rfl ok (vR e2) h⟩
theorem ar_ixS {z : Str} {i : Int} {c : Nat} (hl : z.length ≤ 100000) (e : atI z.cps.toList i = some c) (h : k (.v (.raw (.str ⟨#[c]⟩))) G) : AR L rIxS (.v (.raw (.str z))) (.v (.raw (.int i))) G k := fun E eL W σ H x y ok rx ry Q q => by
  cases At.raw_eq rx
  cases At.raw_eq ry
  exact ⟨z, i, c, rfl, rfl, Nat.le_trans hl (by decide), e, q W H _ G _ .rfl ok rawR h⟩
/-- a deal's number, its form -/
theorem ar_deal0 {K : PySem.W.Frag} (h : ∀ f : Int, k (.v (.raw (.int f))) G) : AR L (rIxL K) (.v .deal) (.v (.raw (.int 0))) G k := fun E eL W σ H x y ok rx ry Q q => by
  cases At.raw_eq ry
  obtain ⟨a, rfl, ta⟩ : ∃ a, x = .ref a ∧ W.T a := by
    cases (show At W x .deal from rx) with | deal e => exact ⟨_, rfl, e⟩
  obtain ⟨f, n, e, hn⟩ := ok.ex.deal a ta
  exact ⟨a, _, 0, .int f, rfl, rfl, SqL.of e, rfl, q W H _ G _ .rfl ok rawR (h f)⟩
theorem ar_deal1 {K : PySem.W.Frag} (h : ∀ n : Int, DealOk n → k (.v (.raw (.int n))) G) : AR L (rIxL K) (.v .deal) (.v (.raw (.int 1))) G k := fun E eL W σ H x y ok rx ry Q q => by
  cases At.raw_eq ry
  obtain ⟨a, rfl, ta⟩ : ∃ a, x = .ref a ∧ W.T a := by
    cases (show At W x .deal from rx) with | deal e => exact ⟨_, rfl, e⟩
  obtain ⟨f, n, e, hn⟩ := ok.ex.deal a ta
  exact ⟨a, _, 1, .int n, rfl, rfl, SqL.of e, rfl, q W H _ G _ .rfl ok rawR (h n hn)⟩
/-- two lists glued -/
theorem ar_cat {r1 r2 : R} {ds es : List D} (c1 : con G r1 = some (.lst ds)) (c2 : con G r2 = some (.lst es)) (hl : ds.length + es.length ≤ 100000) (h : k (.o (.lst (ds ++ es))) G) : AR L rCat r1 r2 G k := fun E eL W σ H x y ok rx ry Q q => by
  obtain ⟨a, xs, rfl, hx, t, _⟩ := ok.rdL rx c1
  obtain ⟨b, ys, rfl, hy, u, _⟩ := ok.rdL ry c2
  refine ⟨a, b, xs, ys, rfl, rfl, hx, hy, by rw [t.length, u.length]; exact Nat.le_trans hl (by decide), fun p hp => ?_⟩
  exact q W _ _ G _ .rfl (ok.new hp) (ok.freshR (ob := .lst (xs ++ ys)) (d := .lst (ds ++ es)) hp (t.append u)) h
/-- x in a list of flat things -/
theorem raws {W : Wd} : ∀ {xs : List V} {vs : List V}, Ats W xs (vs.map .raw) → xs = vs
  | _, [], .nil => rfl
  | _, v :: vs, .cons a b => by rw [At.raw_eq a, raws b]
theorem ar_in {K : PySem.W.Frag} {neg : Bool} {r : R} {x : V} {vs : List V} (c : con G r = some (.lst (vs.map .raw))) (f1 : flatV x = true) (f2 : vs.all flatV = true) (h : k (.v (.raw (.bl (if neg then !inV x vs else inV x vs)))) G) : AR L (rIn K neg) (.v (.raw x)) r G k := fun E eL W σ H x' y ok rx ry Q q => by
  cases At.raw_eq rx
  obtain ⟨a, xs, rfl, hx, t, _⟩ := ok.rdL ry c
  have e := raws t
  subst e
  exact ⟨a, xs, rfl, .inl (SqL.of hx), f1, f2, q W H _ G _ .rfl ok rawR h⟩
end

/-! ### dicts -/
section
variable {L : Option Addr} {G : List SV} {k : R → List SV → Prop} {td ty tx : TE}
/-- what a dict holds at a key -/
inductive DLk (G : List SV) : R → R → Option D → Prop
  | K {r : R} {ks : List Str} {ds : List D} {t : Str} : con G r = some (.dK ks ds) → DLk G r (.v (.raw (.str t))) (lkp ks ds t)
  | T {r : R} {ks : List (Str × Str)} {ds : List D} {p q : Str} : con G r = some (.dT ks ds) → DLk G r (.v (.tup [.raw (.str p), .raw (.str q)])) (lkp ks ds (p, q))
theorem DLk.get {E : En} {W : Wd} {σ : L2.St} {H : Hp} {r1 r2 : R} {o : Option D} {x y : V} (ok : Ok E W G σ H) (h : DLk G r1 r2 o) (rx : ROk E W G σ H r1 x) (ry : ROk E W G σ H r2 y) : ∃ a ov, x = .ref a ∧ DGet H a y ov ∧ IsD H a ∧ ((∃ v d, ov = some v ∧ o = some d ∧ At W v d) ∨ (ov = none ∧ o = none)) := by
  cases h with
  | K c =>
    obtain ⟨a, kvs, rfl, hr, e1, e2, _⟩ := ok.rdK rx c
    cases At.raw_eq ry
    refine ⟨a, _, rfl, .inl ⟨kvs, kK _, hr, rfl, rfl⟩, .inl ⟨kvs, hr⟩, ?_⟩
    rcases val_lkp kK (fun a b => kK_inj) e1 e2 _ with ⟨v, d, h1, h2, h3⟩ | ⟨h1, h2⟩
    · exact .inl ⟨v, d, h1, h2, h3⟩
    · exact .inr ⟨h1, h2⟩
  | @T ks ds p q c =>
    obtain ⟨a, kvs, rfl, hr, e1, e2, _⟩ := ok.rdM rx c
    obtain ⟨b, rfl, hb⟩ := ok.rdP ry
    refine ⟨a, _, rfl, .inr ⟨kvs, kT (p, q), b, hr, rfl, hb, rfl⟩, .inr ⟨kvs, hr⟩, ?_⟩
    rcases val_lkp kT (fun a b => kT_inj) e1 e2 (p, q) with ⟨v, d, h1, h2, h3⟩ | ⟨h1, h2⟩
    · exact .inl ⟨v, d, h1, h2, h3⟩
    · exact .inr ⟨h1, h2⟩
theorem ae_dget (h : AE L td G fun r1 G1 => AE L ty G1 fun r2 G2 => ∃ d, DLk G2 (fz r1) (fz r2) (some d) ∧ k (.v d) G2) : AE L (tDGet td ty) G k := fun E eL W σ H ok Q q => by
  refine h E eL W σ H ok _ fun W1 H1 r1 G1 x l1 ok1 rx k1 => ?_
  obtain ⟨W2, l2, ok2, rx2, n2⟩ := fzOk ok1 rx
  refine k1 E eL W2 σ H1 ok2 _ fun W3 H3 r2 G3 y l3 ok3 ry ⟨d, hd, k2⟩ => ?_
  obtain ⟨W4, l4, ok4, ry4, _⟩ := fzOk ok3 ry
  obtain ⟨a, ov, rfl, g, _, z⟩ := hd.get ok4 (rx2.keep n2 (l3.trans l4)) ry4
  rcases z with ⟨v, d', rfl, z, av⟩ | ⟨_, z⟩
  · injection z with z
    subst z
    exact ⟨a, v, rfl, g, q W4 H3 _ G3 v (l1.trans (l2.trans (l3.trans l4))) ok4 (vR av) k2⟩
  · cases z
theorem ae_din (h : AE L ty G fun r2 G1 => AE L td G1 fun r1 G2 => ∃ o, DLk G2 (fz r1) (fz r2) o ∧ k (.v (.raw (.bl o.isSome))) G2) : AE L (tDIn ty td) G k := fun E eL W σ H ok Q q => by
  refine h E eL W σ H ok _ fun W1 H1 r2 G1 y l1 ok1 ry k1 => ?_
  obtain ⟨W2, l2, ok2, ry2, n2⟩ := fzOk ok1 ry
  refine k1 E eL W2 σ H1 ok2 _ fun W3 H3 r1 G3 x l3 ok3 rx ⟨o, hd, k2⟩ => ?_
  obtain ⟨W4, l4, ok4, rx4, _⟩ := fzOk ok3 rx
  obtain ⟨a, ov, rfl, g, _, z⟩ := hd.get ok4 rx4 (ry2.keep n2 (l3.trans l4))
  have e : ov.isSome = o.isSome := by
    rcases z with ⟨v, d', rfl, rfl, _⟩ | ⟨rfl, rfl⟩ <;> rfl
  exact ⟨a, ov, rfl, g, q W4 H3 _ G3 _ (l1.trans (l2.trans (l3.trans l4))) ok4 (by rw [e]; exact rawR) k2⟩
theorem ae_dnotin (h : AE L ty G fun r2 G1 => AE L td G1 fun r1 G2 => ∃ o, DLk G2 (fz r1) (fz r2) o ∧ k (.v (.raw (.bl (!o.isSome)))) G2) : AE L (tDNotIn ty td) G k := fun E eL W σ H ok Q q => by
  refine h E eL W σ H ok _ fun W1 H1 r2 G1 y l1 ok1 ry k1 => ?_
  obtain ⟨W2, l2, ok2, ry2, n2⟩ := fzOk ok1 ry
  refine k1 E eL W2 σ H1 ok2 _ fun W3 H3 r1 G3 x l3 ok3 rx ⟨o, hd, k2⟩ => ?_
  obtain ⟨W4, l4, ok4, rx4, _⟩ := fzOk ok3 rx
  obtain ⟨a, ov, rfl, g, _, z⟩ := hd.get ok4 rx4 (ry2.keep n2 (l3.trans l4))
  have e : ov.isSome = o.isSome := by
    rcases z with ⟨v, d', rfl, rfl, _⟩ | ⟨rfl, rfl⟩ <;> rfl
  exact ⟨a, ov, rfl, g, q W4 H3 _ G3 _ (l1.trans (l2.trans (l3.trans l4))) ok4 (by rw [e]; exact rawR) k2⟩
def isDict (d : Option D) : Prop := (∃ ks ds, d = some (.dK ks ds)) ∨ ∃ ks ds, d = some (.dT ks ds)
theorem isD_of {E : En} {W : Wd} {σ : L2.St} {H : Hp} {r : R} {x : V} (ok : Ok E W G σ H) (h : isDict (con G r)) (rx : ROk E W G σ H r x) : ∃ a, x = .ref a ∧ IsD H a := by
  rcases h with ⟨ks, ds, c⟩ | ⟨ks, ds, c⟩
  · obtain ⟨a, kvs, e, hr, _⟩ := ok.rdK rx c
    exact ⟨a, e, .inl ⟨kvs, hr⟩⟩
  · obtain ⟨a, kvs, e, hr, _⟩ := ok.rdM rx c
    exact ⟨a, e, .inr ⟨kvs, hr⟩⟩
theorem ae_dget1 (h : AE L td G fun r1 G1 => isDict (con G1 (fz r1)) ∧ AE L ty G1 fun r2 G2 => ∃ o, DLk G2 (fz r1) (fz r2) o ∧ k (.v (o.getD .non)) G2) : AE L (tDGet1 td ty) G k := fun E eL W σ H ok Q q => by
  refine h E eL W σ H ok _ fun W1 H1 r1 G1 x l1 ok1 rx ⟨hd, k1⟩ => ?_
  obtain ⟨W2, l2, ok2, rx2, n2⟩ := fzOk ok1 rx
  obtain ⟨a, rfl, hI⟩ := isD_of ok2 hd rx2
  refine ⟨a, rfl, hI, k1 E eL W2 σ H1 ok2 _ fun W3 H3 r2 G3 y l3 ok3 ry ⟨o, hd, k2⟩ => ?_⟩
  obtain ⟨W4, l4, ok4, ry4, _⟩ := fzOk ok3 ry
  obtain ⟨a', ov, e, g, _, z⟩ := hd.get ok4 (rx2.keep n2 (l3.trans l4)) ry4
  injection e with e
  subst e
  rcases z with ⟨v, d', rfl, rfl, av⟩ | ⟨rfl, rfl⟩
  · exact ⟨_, g, q W4 H3 _ G3 v (l1.trans (l2.trans (l3.trans l4))) ok4 (vR av) k2⟩
  · exact ⟨_, g, q W4 H3 _ G3 _ (l1.trans (l2.trans (l3.trans l4))) ok4 rawR k2⟩
theorem ae_dget2 (h : AE L td G fun r1 G1 => isDict (con G1 (fz r1)) ∧ AE L ty G1 fun r2 G2 => AE L tx G2 fun r3 G3 => ∃ o d, DLk G3 (fz r1) (fz r2) o ∧ fz r3 = .v d ∧ k (.v (o.getD d)) G3) : AE L (tDGet2 td ty tx) G k := fun E eL W σ H ok Q q => by
  refine h E eL W σ H ok _ fun W1 H1 r1 G1 x l1 ok1 rx ⟨hd, k1⟩ => ?_
  obtain ⟨W2, l2, ok2, rx2, n2⟩ := fzOk ok1 rx
  obtain ⟨a, rfl, hI⟩ := isD_of ok2 hd rx2
  refine ⟨a, rfl, hI, k1 E eL W2 σ H1 ok2 _ fun W3 H3 r2 G3 y l3 ok3 ry k2 => ?_⟩
  obtain ⟨W4, l4, ok4, ry4, n4⟩ := fzOk ok3 ry
  refine k2 E eL W4 σ H3 ok4 _ fun W5 H5 r3 G5 w l5 ok5 rw5 ⟨o, d, hd, e3, k3⟩ => ?_
  obtain ⟨W6, l6, ok6, rw6, _⟩ := fzOk ok5 rw5
  rw [e3] at rw6
  have L : W.le W6 := l1.trans (l2.trans (l3.trans (l4.trans (l5.trans l6))))
  obtain ⟨a', ov, e, g, _, z⟩ := hd.get ok6 (rx2.keep n2 (l3.trans (l4.trans (l5.trans l6)))) (ry4.keep n4 (l5.trans l6))
  injection e with e
  subst e
  rcases z with ⟨v, d', rfl, rfl, av⟩ | ⟨rfl, rfl⟩
  · exact ⟨_, g, q W6 H5 _ G5 v L ok6 (vR av) k3⟩
  · exact ⟨_, g, q W6 H5 _ G5 w L ok6 rw6 k3⟩
end
end Q
-- text Q5
set_option Elab.async false
set_option linter.all false
set_option maxRecDepth 100000
set_option maxHeartbeats 1000000
/-! Layer Q, part 5: tests, targets, statements, loops. -/
namespace Q
open PySem PySem.Spec PyProof.Rows L2

section
variable {L : Option Addr} {G : List SV}
/-! ### tests -/
theorem at_imp {tt : TT} {k k' : Bool → List SV → Prop} (h : AT L tt G k) (q : ∀ b G', k b G' → k' b G') : AT L tt G k' := fun E eL W σ H ok Q hQ => h E eL W σ H ok Q fun W' H' b G' l ok' kb => hQ W' H' b G' l ok' (q b G' kb)
theorem at_test {te : TE} {k : Bool → List SV → Prop} (h : AE L te G fun r G1 => ∃ b, r = .v (.raw (.bl b)) ∧ k b G1) : AT L (tTest te) G k := fun E eL W σ H ok Q q =>
  h E eL W σ H ok _ fun W1 H1 r1 G1 x l1 ok1 rx ⟨b, e, k1⟩ => by
    subst e
    cases At.raw_eq rx
    exact ⟨b, rfl, q W1 H1 b G1 l1 ok1 k1⟩
theorem at_B {te : TE} {k : Bool → List SV → Prop} (h : AE L te G fun r G1 => ∃ b, r = .v (.raw (.bl b)) ∧ k b G1) : AT L (tB te) G k := fun E eL W σ H ok Q q =>
  h E eL W σ H ok _ fun W1 H1 r1 G1 x l1 ok1 rx ⟨b, e, k1⟩ => by
    subst e
    cases At.raw_eq rx
    exact ⟨b, rfl, q W1 H1 b G1 l1 ok1 k1⟩
theorem at_and {t u : TT} {k : Bool → List SV → Prop} (h : AT L t G fun b G1 => if b = true then AT L u G1 k else k false G1) : AT L (tAnd t u) G k := fun E eL W σ H ok Q q =>
  h E eL W σ H ok _ fun W1 H1 b G1 l1 ok1 k1 => by
    cases b with
    | true =>
      have k1 : AT L u G1 k := k1
      exact k1 E eL W1 σ H1 ok1 Q fun W2 H2 c G2 l2 => q W2 H2 c G2 (l1.trans l2)
    | false => exact q W1 H1 false G1 l1 ok1 k1
theorem at_or {t u : TT} {k : Bool → List SV → Prop} (h : AT L t G fun b G1 => if b = true then k true G1 else AT L u G1 k) : AT L (tOr t u) G k := fun E eL W σ H ok Q q =>
  h E eL W σ H ok _ fun W1 H1 b G1 l1 ok1 k1 => by
    cases b with
    | true => exact q W1 H1 true G1 l1 ok1 k1
    | false =>
      have k1 : AT L u G1 k := k1
      exact k1 E eL W1 σ H1 ok1 Q fun W2 H2 c G2 l2 => q W2 H2 c G2 (l1.trans l2)
theorem at_not {t : TT} {k : Bool → List SV → Prop} (h : AT L t G fun b G1 => k (!b) G1) : AT L (tNot t) G k := fun E eL W σ H ok Q q =>
  h E eL W σ H ok _ fun W1 H1 b G1 l1 ok1 k1 => q W1 H1 (!b) G1 l1 ok1 k1
theorem ae_andV {ta tb : TE} {k : R → List SV → Prop} (h : AE L ta G fun r G1 => ∃ b, r = .v (.raw (.bl b)) ∧ if b = true then AE L tb G1 k else k (.v (.raw (.bl false))) G1) : AE L (tAndV ta tb) G k := fun E eL W σ H ok Q q =>
  h E eL W σ H ok _ fun W1 H1 r1 G1 x l1 ok1 rx ⟨b, e, k1⟩ => by
    subst e
    cases At.raw_eq rx
    refine ⟨b, rfl, ?_⟩
    cases b with
    | true =>
      have k1 : AE L tb G1 k := k1
      exact k1 E eL W1 σ H1 ok1 Q fun W2 H2 r G2 x l2 => q W2 H2 r G2 x (l1.trans l2)
    | false => exact q W1 H1 _ G1 _ l1 ok1 rawR k1
theorem ae_notV {ta : TE} {k : R → List SV → Prop} (h : AE L ta G fun r G1 => ∃ b, r = .v (.raw (.bl b)) ∧ k (.v (.raw (.bl (!b)))) G1) : AE L (tNotV ta) G k := fun E eL W σ H ok Q q =>
  h E eL W σ H ok _ fun W1 H1 r1 G1 x l1 ok1 rx ⟨b, e, k1⟩ => by
    subst e
    cases At.raw_eq rx
    exact ⟨b, rfl, q W1 H1 _ G1 _ l1 ok1 rawR k1⟩

/-! ### targets -/
theorem ag_name {i : Nat} {d : D} {k : List SV → Prop} (h : k (G.set i (.fr d))) : AG L (gName i) (.v d) G k := fun E eL W σ H x ok rx Q q => q W _ H _ .rfl (ok.setFr rx) h
theorem ag_own {i : Nat} {d : D} {k : List SV → Prop} (h : k (G.set i (.own d))) : AG L (gName i) (.o d) G k := fun E eL W σ H x ok rx Q q => q W _ H _ .rfl (ok.setOwn rx) h
theorem ag_frz {g : TG} {d : D} {k : List SV → Prop} (h : AG L g (.v d) G k) : AG L g (.o d) G k := fun E eL W σ H x ok rx Q q => by
  obtain ⟨W', l, ok', a⟩ := ok.freeze rx
  exact h E eL W' σ H x ok' a Q fun W2 σ2 H2 G2 l2 => q W2 σ2 H2 G2 (l.trans l2)
theorem ag_rd {i j : Nat} {d : D} {k : List SV → Prop} (e : G[j]? = some (.rd d)) (h : k (G.set i (.rd d))) : AG L (gName i) (.p j) G k := fun E eL W σ H x ok rx Q q => q W _ H _ .rfl (ok.setRd e rx) h
def AGs (L : Option Addr) (t : TGs) (ds : List D) (G : List SV) (k : List SV → Prop) : Prop :=
  ∀ (E : En), E.L = L → ∀ (W : Wd) (σ : L2.St) (H : Hp) (xs : List V), Ok E W G σ H → Ats W xs ds → ∀ Q : L2.St → Hp → Prop, (∀ σ' G', Ok E W G' σ' H → k G' → Q σ' H) → t xs σ H Q
theorem ags_nil {k : List SV → Prop} (h : k G) : AGs L gNil [] G k := fun E eL W σ H xs ok t Q q => by
  cases t
  exact ⟨rfl, q σ G ok h⟩
theorem ags_cons {i : Nat} {t : TGs} {d : D} {ds : List D} {k : List SV → Prop} (h : AGs L t ds (G.set i (.fr d)) k) : AGs L (gCons (gName i) t) (d :: ds) G k := fun E eL W σ H xs ok t' Q q => by
  cases t' with
  | cons a b =>
    rename_i v vs
    exact ⟨v, vs, rfl, h E eL W _ H vs (ok.setFr a) b Q q⟩
theorem ag_tup {K : PySem.W.Frag} {n : Nat} {t : TGs} {ds : List D} {k : List SV → Prop} (hn : ds.length = n) (h : AGs L t ds G k) : AG L (gTup K n t) (.v (.tup ds)) G k := fun E eL W σ H x ok rx Q q => by
  obtain ⟨a, xs, rfl, hx, t', _⟩ := ok.rdT rx rfl
  exact ⟨a, xs, rfl, SqT.of hx, by rw [t'.length]; exact hn, h E eL W σ H xs ok t' Q fun σ' G' ok' kk => q W σ' H G' .rfl ok' kk⟩
/-! of comprehensions -/
theorem wipe_get {σ : L2.St} {i : Nat} : ∀ {vs : List Nat}, i < σ.length → (wipe σ vs)[i]? = if i ∈ vs then some none else σ[i]?
  | [], h => by simp [wipe]
  | v :: vs, h => by
    have ih := wipe_get (vs := vs) h
    show ((wipe σ vs).set v none)[i]? = _
    by_cases e : v = i
    · subst e
      rw [List.getElem?_set_self (by rw [wipe_length]; exact h), if_pos (List.mem_cons_self ..)]
    · rw [List.getElem?_set_ne e, ih]
      by_cases m : i ∈ vs
      · rw [if_pos m, if_pos (List.mem_cons_of_mem _ m)]
      · rw [if_neg m, if_neg (fun z => (List.mem_cons.mp z).elim (fun w => e w.symm) m)]
theorem wipe_set {σ : L2.St} {j : Nat} {x : Option V} {vs : List Nat} (h : j ∈ vs) : wipe (σ.set j x) vs = wipe σ vs := by
  apply List.ext_getElem?
  intro i
  by_cases hi : i < σ.length
  · rw [wipe_get (by rw [List.length_set]; exact hi), wipe_get hi]
    by_cases m : i ∈ vs
    · rw [if_pos m, if_pos m]
    · rw [if_neg m, if_neg m, List.getElem?_set_ne (fun z => m (by rw [← z]; exact h))]
  · rw [List.getElem?_eq_none (by rw [wipe_length, List.length_set]; omega), List.getElem?_eq_none (by rw [wipe_length]; omega)]
theorem aw_name {vs : List Nat} {i : Nat} {d : D} {k : List SV → Prop} (m : i ∈ vs) (h : k (G.set i (.fr d))) : AW L vs (gName i) (.v d) G k := fun E eL W σ H x ok rx Q q => q W _ H _ .rfl (ok.setFr rx) (wipe_set m) h
theorem aw_rd {vs : List Nat} {i : Nat} {ds : List D} {k : List SV → Prop} (m : i ∈ vs) (n : ∀ (j : Nat) (g : SV), G[j]? = some g → g.isOwn = false) (h : k (G.set i (.rd (.tup ds)))) :
    ∀ (E : En), E.L = L → ∀ (W : Wd) (σ : L2.St) (H : Hp) (a : Addr) (xs : List V), Ok E W G σ H → H a = some (.tup xs) → Ats W xs ds → ∀ Q : L2.St → Hp → Prop, (∀ W' σ' H' G', W.le W' → Ok E W' G' σ' H' → wipe σ' vs = wipe σ vs → k G' → Q σ' H') → gName i (.ref a) σ H Q := fun E eL W σ H a xs ok ha t Q q => by
  refine q W _ H _ .rfl (ok.set (g := .rd (.tup ds)) ⟨a, .tup xs, rfl, ok.ex.rdl ha (fun _ _ z => nomatch z), t, fun z => ?_⟩ (fun z => by cases z) fun _ j g' ne e' p => ?_) (wipe_set m) h
  · obtain ⟨f, n, q, _⟩ := ok.ex.deal a z
    rw [ha] at q; cases q
  · rw [n j g' e'] at p; cases p
def AWs (L : Option Addr) (vs : List Nat) (t : TGs) (ds : List D) (G : List SV) (k : List SV → Prop) : Prop :=
  ∀ (E : En), E.L = L → ∀ (W : Wd) (σ : L2.St) (H : Hp) (xs : List V), Ok E W G σ H → Ats W xs ds → ∀ Q : L2.St → Hp → Prop, (∀ σ' G', Ok E W G' σ' H → wipe σ' vs = wipe σ vs → k G' → Q σ' H) → t xs σ H Q
theorem aws_nil {vs : List Nat} {k : List SV → Prop} (h : k G) : AWs L vs gNil [] G k := fun E eL W σ H xs ok t Q q => by
  cases t
  exact ⟨rfl, q σ G ok rfl h⟩
theorem aws_cons {vs : List Nat} {i : Nat} {t : TGs} {d : D} {ds : List D} {k : List SV → Prop} (m : i ∈ vs) (h : AWs L vs t ds (G.set i (.fr d)) k) : AWs L vs (gCons (gName i) t) (d :: ds) G k := fun E eL W σ H xs ok t' Q q => by
  cases t' with
  | cons a b =>
    rename_i v us
    exact ⟨v, us, rfl, h E eL W _ H us (ok.setFr a) b Q fun σ' G' ok' w => q σ' G' ok' (w.trans (wipe_set m))⟩
theorem aw_tup {vs : List Nat} {K : PySem.W.Frag} {n : Nat} {t : TGs} {ds : List D} {k : List SV → Prop} (hn : ds.length = n) (h : AWs L vs t ds G k) : AW L vs (gTup K n t) (.v (.tup ds)) G k := fun E eL W σ H x ok rx Q q => by
  obtain ⟨a, xs, rfl, hx, t', _⟩ := ok.rdT rx rfl
  exact ⟨a, xs, rfl, SqT.of hx, by rw [t'.length]; exact hn, h E eL W σ H xs ok t' Q fun σ' G' ok' w kk => q W σ' H G' .rfl ok' w kk⟩

/-! ### statements -/
variable {Z : Az}
theorem as_wk {t : TS} {G' : List SV} (w : Wk G G') (h : AS L t G' Z) : AS L t G Z := fun E eL W σ H ok D z => h E eL W σ H (ok.wk w) D z
abbrev Az.thn (Z : Az) (f : List SV → Prop) : Az := ⟨f, Z.rt, Z.bk, Z.ct⟩
theorem as_seq {t u : TS} (h : AS L t G (Z.thn fun G1 => AS L u G1 Z)) : AS L (tSeq t u) G Z := fun E eL W σ H ok D z =>
  h E eL W σ H ok _ ⟨fun W' σ' H' G' l ok' n => n E eL W' σ' H' ok' D (z.mono l), z.rt, z.bk, z.ct⟩
theorem as_next (h : Z.nx G) : AS L tNext G Z := fun E eL W σ H ok D z => z.nx W σ H G .rfl ok h
theorem as_if {c : TT} {t u : TS} (h : AT L c G fun b G1 => if b = true then AS L t G1 Z else AS L u G1 Z) : AS L (tIfS c t u) G Z := fun E eL W σ H ok D z =>
  h E eL W σ H ok _ fun W1 H1 b G1 l1 ok1 k1 => by
    cases b with
    | true =>
      have k1 : AS L t G1 Z := k1
      exact k1 E eL W1 σ H1 ok1 D (z.mono l1)
    | false =>
      have k1 : AS L u G1 Z := k1
      exact k1 E eL W1 σ H1 ok1 D (z.mono l1)
theorem as_ret {te : TE} (h : AE L te G fun r G1 => Z.rt r G1) : AS L (tRet te) G Z := fun E eL W σ H ok D z =>
  h E eL W σ H ok _ fun W1 H1 r1 G1 x l1 ok1 rx k1 => z.rt W1 σ H1 G1 r1 x l1 ok1 rx k1
theorem as_asg {te : TE} {g : TG} (h : AE L te G fun r G1 => AG L g r G1 Z.nx) : AS L (tAsg te g) G Z := fun E eL W σ H ok D z =>
  h E eL W σ H ok _ fun W1 H1 r1 G1 x l1 ok1 rx k1 => k1 E eL W1 σ H1 x ok1 rx _ fun W2 σ2 H2 G2 l2 ok2 n => z.nx W2 σ2 H2 G2 (l1.trans l2) ok2 n
theorem as_drop {te : TE} (h : AE L te G fun r G1 => Z.nx G1) : AS L (tDrop te) G Z := fun E eL W σ H ok D z =>
  h E eL W σ H ok _ fun W1 H1 r1 G1 x l1 ok1 rx k1 => z.nx W1 σ H1 G1 l1 ok1 k1
theorem as_absurd {t : TS} (h : False) : AS L t G Z := h.elim
/-- d[k] = v at a new key -/
inductive DPt : D → R → D → D → Prop
  | K {ks : List Str} {ds : List D} {t : Str} {d : D} : t ∉ ks → ds.length ≤ 100000 → DPt (.dK ks ds) (.v (.raw (.str t))) d (.dK (ks ++ [t]) (ds ++ [d]))
  | T {ks : List (Str × Str)} {ds : List D} {p q : Str} {d : D} : (p, q) ∉ ks → ds.length ≤ 100000 → DPt (.dT ks ds) (.v (.tup [.raw (.str p), .raw (.str q)])) d (.dT (ks ++ [(p, q)]) (ds ++ [d]))
theorem put_top {W : Wd} {κ κ' : Type} [DecidableEq κ] [DecidableEq κ'] (f : κ → κ') (hf : ∀ a b, f a = f b → a = b) {kvs : List (κ' × V)} {ks : List κ} {ds : List D} (h1 : kvs.map (·.1) = ks.map f) (h2 : Ats W (kvs.map (·.2)) ds) {t : κ} (n : t ∉ ks) {v : V} {d : D} (a : At W v d) :
    (putK kvs (f t) v).map (·.1) = (ks ++ [t]).map f ∧ Ats W ((putK kvs (f t) v).map (·.2)) (ds ++ [d]) := by
  have z : valV kvs (f t) = none := by
    rcases val_lkp f hf h1 h2 t with ⟨v', d', _, q, _⟩ | ⟨q, _⟩
    · exact absurd (lkp_some q) n
    · exact q
  rw [putK_new v z]
  refine ⟨by rw [List.map_append, List.map_append, h1]; rfl, ?_⟩
  rw [List.map_append]
  exact h2.append (.cons a .nil)
theorem as_dput {td ty tv : TE} (h : AE L tv G fun rv G1 => AE L td G1 fun rd G2 => AE L ty G2 fun rk G3 => ∃ d i g dd dd', fz rv = .v d ∧ rd = .p i ∧ G3[i]? = some g ∧ g.isOwn = true ∧ g.con = some dd ∧ DPt dd (fz rk) d dd' ∧ Z.nx (G3.set i (g.put dd'))) : AS L (sDPut td ty tv) G Z := fun E eL W σ H ok D z => by
  refine h E eL W σ H ok _ fun W1 H1 rv G1 v l1 ok1 rx k1 => ?_
  obtain ⟨W2, l2, ok2, rx2, n2⟩ := fzOk ok1 rx
  refine k1 E eL W2 σ H1 ok2 _ fun W3 H3 rd G3 x l3 ok3 rd3 k3 => ?_
  refine k3 E eL W3 σ H3 ok3 _ fun W5 H5 rk G5 y l5 ok5 rk5 k5 => ?_
  obtain ⟨W6, l6, ok6, rk6, _⟩ := fzOk ok5 rk5
  obtain ⟨d, i, g, dd, dd', e1, e2, eg, ow, ec, dp, nx⟩ := k5
  subst e2
  have rdx : σ[i]? = some (some x) := rd3
  obtain ⟨a, rfl⟩ := ok_ref ok6 eg (own_pl ow) rdx
  obtain ⟨f, nt, _, hc⟩ := ok6.own_at eg ow rdx
  obtain ⟨o, ho, to⟩ := hc dd ec
  have av : At W6 v d := by
    have := rx2.keep (G' := G5) (H' := H5) n2 (l3.trans (l5.trans l6))
    rw [e1] at this
    exact this
  have L6 := l1.trans (l2.trans (l3.trans (l5.trans l6)))
  generalize fz rk = rk' at dp rk6
  cases dp with
  | @K ks ds t d n hl =>
    cases At.raw_eq rk6
    obtain ⟨kvs, rfl, h1, h2⟩ := to.dK
    have len : kvs.length < sizeLine := by
      have e := h2.length
      rw [List.length_map] at e
      rw [e]
      exact Nat.lt_of_le_of_lt hl (by decide)
    refine ⟨a, _, rfl, .inl ⟨kvs, kK t, ho, rfl, len, rfl⟩, ?_⟩
    exact z.nx W6 σ _ _ L6 (ok6.write (d := .dK (ks ++ [t]) (ds ++ [d])) eg ow rdx (put_top kK (fun a b => kK_inj) h1 h2 n av)) nx
  | @T ks ds p q d n hl =>
    obtain ⟨b, rfl, hb⟩ := ok6.rdP rk6
    obtain ⟨kvs, rfl, h1, h2⟩ := to.dT
    have len : kvs.length < sizeLine := by
      have e := h2.length
      rw [List.length_map] at e
      rw [e]
      exact Nat.lt_of_le_of_lt hl (by decide)
    refine ⟨a, _, rfl, .inr ⟨kvs, kT (p, q), b, ho, rfl, hb, len, rfl⟩, ?_⟩
    exact z.nx W6 σ _ _ L6 (ok6.write (d := .dT (ks ++ [(p, q)]) (ds ++ [d])) eg ow rdx (put_top kT (fun a b => kT_inj) h1 h2 n av)) nx
end
end Q
-- text Q6
set_option Elab.async false
set_option linter.all false
set_option maxRecDepth 100000
set_option maxHeartbeats 1000000
/-! Layer Q, part 6: loops, comprehensions, locks. -/
namespace Q
open PySem PySem.Spec PyProof.Rows L2

/-! ### loops -/
section
variable {L : Option Addr} {G : List SV} {Z : Az}
/-- what a loop's turn is to reach -/
def Lz (Z : Az) (Iv : List SV → Prop) : Az := ⟨fun G3 => ∃ G', Wk G3 G' ∧ Iv G', Z.rt, Z.nx, fun G3 => ∃ G', Wk G3 G' ∧ Iv G'⟩
def Lp (E : En) (W2 : Wd) (Iv : List SV → Prop) : L2.St → Hp → Prop := fun σ H => ∃ W' G', W2.le W' ∧ Ok E W' G' σ H ∧ Iv G'
theorem loop_turn {E : En} (eL : E.L = L) {W W2 W' : Wd} {D : Ends} (z : Zd E W Z D) (l : W.le W2) (l' : W2.le W') {g : TG} {tb : TS} {r : R} {G' : List SV} {Iv : List SV → Prop} {σ : L2.St} {H : Hp} {y : V}
    (hs : AG L g r G' fun G2 => AS L tb G2 (Lz Z Iv)) (ok' : Ok E W' G' σ H) (rx : ROk E W' G' σ H r y) : g y σ H fun σ2 H2 => tb { D with nx := Lp E W2 Iv, ct := Lp E W2 Iv, bk := D.nx } σ2 H2 :=
  hs E eL W' σ H y ok' rx _ fun W3 σ3 H3 G3 l3 ok3 h3 => h3 E eL W3 σ3 H3 ok3 _
    ⟨fun W4 σ4 H4 G4 l4 ok4 ⟨G5, w5, i5⟩ => ⟨W4, G5, l'.trans (l3.trans l4), ok4.wk w5, i5⟩, fun W4 σ4 H4 G4 r4 x4 l4 ok4 rx4 z4 => z.rt W4 σ4 H4 G4 r4 x4 (l.trans (l'.trans (l3.trans l4))) ok4 rx4 z4,
     fun W4 σ4 H4 G4 l4 ok4 n4 => z.nx W4 σ4 H4 G4 (l.trans (l'.trans (l3.trans l4))) ok4 n4, fun W4 σ4 H4 G4 l4 ok4 ⟨G5, w5, i5⟩ => ⟨W4, G5, l'.trans (l3.trans l4), ok4.wk w5, i5⟩⟩
theorem fz_v {E : En} {W : Wd} {G : List SV} {σ : L2.St} {H : Hp} {r : R} {x : V} {d : D} (ok : Ok E W G σ H) (rx : ROk E W G σ H r x) (e : fz r = .v d) : ∃ W', W.le W' ∧ Ok E W' G σ H ∧ At W' x d := by
  obtain ⟨W', l, ok', q, _⟩ := fzOk ok rx
  rw [e] at q
  exact ⟨W', l, ok', q⟩
/-- for .. in a frozen list -/
theorem as_forL {K : PySem.W.Frag} {tl : TE} {g : TG} {tb : TS} (h : AE L tl G fun r G1 => ∃ ds, fz r = .v (.lst ds) ∧ ∃ Iv : Nat → List SV → Prop, (∃ G', Wk G1 G' ∧ Iv 0 G') ∧
    (∀ i d G, ds[i]? = some d → Iv i G → AG L g (.v d) G fun G2 => AS L tb G2 (Lz Z (Iv (i + 1)))) ∧ ∀ G, Iv ds.length G → Z.nx G) : AS L (tFor (iList K tl) g tb) G Z := fun E eL W σ H ok D z => by
  refine h E eL W σ H ok _ fun W1 H1 r1 G1 x l1 ok1 rx ⟨ds, e, Iv, ⟨G1', w1, i0⟩, hs, hd⟩ => ?_
  obtain ⟨W2, l2, ok2, a2⟩ := fz_v ok1 rx e
  cases a2 with
  | @lst a xs _ f t =>
    have sq : ∀ {W' : Wd} {G' : List SV} {σ' : L2.St} {H' : Hp}, W2.le W' → Ok E W' G' σ' H' → SqL K H' a xs := fun l' ok' => .inl (ok'.ex.sub _ _ (l'.f _ _ f)).rd
    refine ⟨a, rfl, ⟨xs, sq .rfl ok2⟩, for_list (xs := xs) (fun i => Lp E W2 (Iv i)) ⟨W2, G1', .rfl, ok2.wk w1, i0⟩ (fun i σ' H' _ ⟨W', G', l', ok', _⟩ => sq l' ok') (fun i y σ' H' hy ⟨W', G', l', ok', iv⟩ => ?_) fun σ' H' ⟨W', G', l', ok', iv⟩ => ?_⟩
    · obtain ⟨d, hd', ad⟩ := t.get hy
      exact loop_turn eL z (l1.trans l2) l' (hs i d G' hd' iv) ok' (vR (At.mono l' _ ad))
    · exact z.nx W' σ' H' G' (l1.trans (l2.trans l')) ok' (hd G' (by rw [← t.length]; exact iv))
/-- for .. in a frozen tuple -/
theorem as_forT {K : PySem.W.Frag} {tl : TE} {g : TG} {tb : TS} (h : AE L tl G fun r G1 => ∃ ds, fz r = .v (.tup ds) ∧ ∃ Iv : Nat → List SV → Prop, (∃ G', Wk G1 G' ∧ Iv 0 G') ∧
    (∀ i d G, ds[i]? = some d → Iv i G → AG L g (.v d) G fun G2 => AS L tb G2 (Lz Z (Iv (i + 1)))) ∧ ∀ G, Iv ds.length G → Z.nx G) : AS L (tFor (iTup K tl) g tb) G Z := fun E eL W σ H ok D z => by
  refine h E eL W σ H ok _ fun W1 H1 r1 G1 x l1 ok1 rx ⟨ds, e, Iv, ⟨G1', w1, i0⟩, hs, hd⟩ => ?_
  obtain ⟨W2, l2, ok2, a2⟩ := fz_v ok1 rx e
  cases a2 with
  | @tup a xs _ f t =>
    have sq : ∀ {W' : Wd} {G' : List SV} {σ' : L2.St} {H' : Hp}, W2.le W' → Ok E W' G' σ' H' → SqT K H' a xs := fun l' ok' => .inl (ok'.ex.sub _ _ (l'.f _ _ f)).rd
    refine ⟨a, rfl, ⟨xs, sq .rfl ok2⟩, for_tup (xs := xs) (fun i => Lp E W2 (Iv i)) ⟨W2, G1', .rfl, ok2.wk w1, i0⟩ (fun i σ' H' _ ⟨W', G', l', ok', _⟩ => sq l' ok') (fun i y σ' H' hy ⟨W', G', l', ok', iv⟩ => ?_) fun σ' H' ⟨W', G', l', ok', iv⟩ => ?_⟩
    · obtain ⟨d, hd', ad⟩ := t.get hy
      exact loop_turn eL z (l1.trans l2) l' (hs i d G' hd' iv) ok' (vR (At.mono l' _ ad))
    · exact z.nx W' σ' H' G' (l1.trans (l2.trans l')) ok' (hd G' (by rw [← t.length]; exact iv))
/-- for i in range(n) -/
theorem as_forR {ta : TA} {g : TG} {tb : TS} (h : AA L ta G fun rs G1 => ∃ n : Nat, rs = [.v (.raw (.int n))] ∧ n ≤ 100000 ∧ ∃ Iv : Nat → List SV → Prop, (∃ G', Wk G1 G' ∧ Iv 0 G') ∧
    (∀ i G, i < n → Iv i G → AG L g (.v (.raw (.int (i : Int)))) G fun G2 => AS L tb G2 (Lz Z (Iv (i + 1)))) ∧ ∀ G, Iv n G → Z.nx G) : AS L (tFor (iRng1 ta) g tb) G Z := fun E eL W σ H ok D z => by
  refine h E eL W σ H ok _ fun W1 H1 rs G1 xs l1 ok1 rx ⟨n, e, hn, Iv, ⟨G1', w1, i0⟩, hs, hd⟩ => ?_
  subst e
  cases rx with
  | cons q rr =>
    cases rr
    cases At.raw_eq q
    refine ⟨n, rfl, by omega, by omega, ?_⟩
    have en : ((n : Int)).toNat = n := by omega
    rw [en]
    refine for_range (lo := 0) (n := n) (fun i => Lp E W1 (Iv i)) ⟨W1, G1', .rfl, ok1.wk w1, i0⟩ (fun i σ' H' hi ⟨W', G', l', ok', iv⟩ => ?_) fun σ' H' ⟨W', G', l', ok', iv⟩ => z.nx W' σ' H' G' (l1.trans l') ok' (hd G' iv)
    rw [Int.zero_add]
    exact loop_turn eL z l1 l' (hs i G' hi iv) ok' rawR
/-- for a, b in zip(xs, ys) -/
theorem as_forZ {K : PySem.W.Frag} {ta : TA} {g : TG} {tb : TS} (h : AA L ta G fun rs G1 => ∃ ds es, rs = [.v (.lst ds), .v (.lst es)] ∧ ds.length = es.length ∧ ∃ Iv : Nat → List SV → Prop, (∃ G', Wk G1 G' ∧ Iv 0 G') ∧
    (∀ i d e G, ds[i]? = some d → es[i]? = some e → Iv i G → AG L g (.v (.tup [d, e])) G fun G2 => AS L tb G2 (Lz Z (Iv (i + 1)))) ∧ ∀ G, Iv ds.length G → Z.nx G) : AS L (tFor (iZip K ta) g tb) G Z := fun E eL W σ H ok D z => by
  refine h E eL W σ H ok _ fun W1 H1 rs G1 xs l1 ok1 rx ⟨ds, es, e, hl, Iv, ⟨G1', w1, i0⟩, hs, hd⟩ => ?_
  subst e
  cases rx with
  | cons q1 rr =>
    cases rr with
    | cons q2 rr =>
      cases rr
      cases (show At W1 _ (.lst ds) from q1) with
      | @lst a xs _ f1 t1 =>
        cases (show At W1 _ (.lst es) from q2) with
        | @lst b ys _ f2 t2 =>
          have sq : ∀ {W' : Wd} {G' : List SV} {σ' : L2.St} {H' : Hp}, W1.le W' → Ok E W' G' σ' H' → SqL K H' a xs ∧ SqL K H' b ys := fun l' ok' => ⟨.inl (ok'.ex.sub _ _ (l'.f _ _ f1)).rd, .inl (ok'.ex.sub _ _ (l'.f _ _ f2)).rd⟩
          refine ⟨a, b, xs, ys, rfl, (sq .rfl ok1).1, (sq .rfl ok1).2, RZ.for_zipL (xs := xs) (ys := ys) (by rw [t1.length, t2.length, hl]) (fun i => Lp E W1 (Iv i)) ⟨W1, G1', .rfl, ok1.wk w1, i0⟩ (fun i σ' H' ⟨W', G', l', ok', _⟩ => sq l' ok') (fun i x y T σ' H' hx hy ⟨W', G', l', ok', iv⟩ hT => ?_) fun σ' H' ⟨W', G', l', ok', iv⟩ => ?_⟩
          · obtain ⟨d, hd', ad⟩ := t1.get hx
            obtain ⟨e, he', ae⟩ := t2.get hy
            have fr := (ok'.ex.fresh hT).1
            have le := Wd.frz_le (o := .tup [x, y]) fr
            refine loop_turn eL z l1 (l'.trans le) (hs i d e G' hd' he' iv) (ok'.newF (o := .tup [x, y]) hT) (vR ?_)
            exact At.newF (o := .tup [x, y]) (d := .tup [d, e]) fr (.cons (At.mono l' _ ad) (.cons (At.mono l' _ ae) .nil))
          · exact z.nx W' σ' H' G' (l1.trans l') ok' (hd G' (by rw [← t1.length]; exact iv))
/-- while -/
theorem as_while {c : TT} {tb : TS} (Iv : Nat → List SV → Prop) (h0 : ∃ m G', Wk G G' ∧ Iv m G') (hs : ∀ m G, Iv m G → AT L c G fun b G1 => if b = true then AS L tb G1 (Lz Z fun G' => ∃ m', m' < m ∧ Iv m' G') else Z.nx G1) : AS L (tWhile c tb) G Z := fun E eL W σ H ok D z => by
  obtain ⟨m0, G0, w0, i0⟩ := h0
  refine ⟨fun m σ' H' => Lp E W (Iv m) σ' H', ⟨m0, W, G0, .rfl, ok.wk w0, i0⟩, ?_⟩
  rintro m σ' H' ⟨W', G', l', ok', iv⟩
  refine hs m G' iv E eL W' σ' H' ok' _ fun W1 H1 b G1 l1 ok1 k1 => ?_
  cases b with
  | true =>
    have k1 : AS L tb G1 (Lz Z fun G' => ∃ m', m' < m ∧ Iv m' G') := k1
    show ∃ N : L2.St → Hp → Prop, (∀ σ' H', N σ' H' → ∃ m', m' < m ∧ Lp E W (Iv m') σ' H') ∧ tb { D with nx := N, ct := N, bk := D.nx } σ' H1
    refine ⟨Lp E W fun G' => ∃ m', m' < m ∧ Iv m' G', fun σ2 H2 ⟨W2, G2, l2, ok2, m', hm, i2⟩ => ⟨m', hm, W2, G2, l2, ok2, i2⟩, ?_⟩
    exact k1 E eL W1 σ' H1 ok1 _ ⟨fun W4 σ4 H4 G4 l4 ok4 ⟨G5, w5, i5⟩ => ⟨W4, G5, l'.trans (l1.trans l4), ok4.wk w5, i5⟩, fun W4 σ4 H4 G4 r4 x4 l4 ok4 rx4 z4 => z.rt W4 σ4 H4 G4 r4 x4 (l'.trans (l1.trans l4)) ok4 rx4 z4,
      fun W4 σ4 H4 G4 l4 ok4 n4 => z.nx W4 σ4 H4 G4 (l'.trans (l1.trans l4)) ok4 n4, fun W4 σ4 H4 G4 l4 ok4 ⟨G5, w5, i5⟩ => ⟨W4, G5, l'.trans (l1.trans l4), ok4.wk w5, i5⟩⟩
  | false => exact z.nx W1 σ' H1 G1 (l'.trans l1) ok1 k1
end

/-! ### a thing pinned: a comprehension's list -/
def En.pin (E : En) (D : Addr) (o : HO) : En := ⟨E.W, upd E.H D o, E.M.filter (fun a => decide (a ≠ D)), E.L⟩
theorem Ok.pin {E : En} {W : Wd} {G : List SV} {σ : L2.St} {H : Hp} {D : Addr} {o : HO} (h : Ok E W G σ H) (e : H D = some o) (f : W.F D = none) (t : ¬ W.T D)
    (ap : ∀ (j : Nat) (g : SV), G[j]? = some g → g.isPl = true → σ[j]? ≠ some (some (.ref D))) : Ok (E.pin D o) W G σ H := by
  have x := h.ex
  refine ⟨⟨x.leW, fun b u q => ?_, fun b q => ?_, x.apart, x.sub, x.deal, fun b u q n1 n2 => ?_, fun b u q => ?_, x.lk⟩, h.len, fun i g eg => ?_, h.dis⟩
  · refine (x.newF b u q).imp (fun z => z) fun z => ?_
    show upd E.H D o b = none
    rw [upd_ne (fun w => by rw [w, f] at q; cases q)]
    exact z
  · refine (x.newT b q).imp (fun z => z) fun z => ?_
    show upd E.H D o b = none
    rw [upd_ne (fun w => t (by rw [← w]; exact q))]
    exact z
  · have q : upd E.H D o b = some u := q
    by_cases hb : b = D
    · subst hb; rw [upd_same] at q; rw [e]; exact q
    · rw [upd_ne hb] at q
      refine x.frm b u q (fun z => n1 (List.mem_filter.mpr ⟨z, decide_eq_true hb⟩)) n2
  · have q : upd E.H D o b = some u := q
    by_cases hb : b = D
    · subst hb; exact ⟨o, e⟩
    · rw [upd_ne hb] at q; exact x.dom b u q
  · obtain ⟨s, q1, q2⟩ := h.slot i g eg
    refine ⟨s, q1, ?_⟩
    have na : ∀ {c : Addr}, g.isPl = true → s = some (.ref c) → c ≠ D := fun {c} pl es z => ap i g eg pl (by rw [q1, es, z])
    cases g with
    | no => exact True.intro
    | fr => exact q2
    | rd => exact q2
    | own d =>
      obtain ⟨c, es, y, f', nt, n, k⟩ := q2
      exact ⟨c, es, y, f', nt, by show upd E.H D o c = none; rw [upd_ne (na rfl es)]; exact n, k⟩
    | mt c d =>
      obtain ⟨es, y, f', nt, n, k⟩ := q2
      exact ⟨es, y, f', nt, List.mem_filter.mpr ⟨n, decide_eq_true (na rfl es)⟩, k⟩
theorem Ok.unpin {E : En} {W W' : Wd} {G : List SV} {σ : L2.St} {H : Hp} {D : Addr} {o : HO} (h : Ok (E.pin D o) W' G σ H) (n : E.H D = none) (f : W.F D = none) (t : ¬ W.T D) (lW : E.W.le W) : Ok E W' G σ H ∧ H D = some o ∧ W'.F D = none ∧ ¬ W'.T D := by
  have x := h.ex
  have hD : H D = some o := by
    refine x.frm D o (by show upd E.H D o D = some o; exact upd_same) (fun z => ?_) fun z => t (lW.t _ z)
    have := (List.mem_filter.mp z).2
    simp at this
  have fD : W'.F D = none := by
    cases q : W'.F D with
    | none => rfl
    | some u =>
      rcases x.newF D u q with z | z
      · have z : E.W.F D = some u := z
        rw [lW.f _ _ z] at f; cases f
      · have z : upd E.H D o D = none := z
        rw [upd_same] at z; cases z
  have tD : ¬ W'.T D := fun q => by
    rcases x.newT D q with z | z
    · exact t (lW.t _ z)
    · have z : upd E.H D o D = none := z
      rw [upd_same] at z; cases z
  have back : ∀ {b : Addr}, upd E.H D o b = none → E.H b = none := fun {b} z => by
    by_cases hb : b = D
    · rw [hb]; exact n
    · rw [upd_ne hb] at z; exact z
  refine ⟨⟨⟨x.leW, fun b u q => (x.newF b u q).imp (fun z => z) back, fun b q => (x.newT b q).imp (fun z => z) back, x.apart, x.sub, x.deal, fun b u q n1 n2 => ?_, fun b u q => ?_, x.lk⟩, h.len, fun i g eg => ?_, h.dis⟩, hD, fD, tD⟩
  · have hb : b ≠ D := fun z => by rw [z, n] at q; cases q
    exact x.frm b u (by show upd E.H D o b = some u; rw [upd_ne hb]; exact q) (fun z => n1 (List.mem_filter.mp z).1) n2
  · have hb : b ≠ D := fun z => by rw [z, n] at q; cases q
    exact x.dom b u (by show upd E.H D o b = some u; rw [upd_ne hb]; exact q)
  · obtain ⟨s, q1, q2⟩ := h.slot i g eg
    refine ⟨s, q1, ?_⟩
    cases g with
    | no => exact True.intro
    | fr => exact q2
    | rd => exact q2
    | own d =>
      obtain ⟨c, es, y, f', nt, n', k⟩ := q2
      exact ⟨c, es, y, f', nt, back n', k⟩
    | mt c d =>
      obtain ⟨es, y, f', nt, n', k⟩ := q2
      exact ⟨es, y, f', nt, (List.mem_filter.mp n').1, k⟩

/-! ### comprehensions -/
def wipeG (G : List SV) : List Nat → List SV
  | [] => G
  | v :: vs => (wipeG G vs).set v .no
inductive Tg where
  | no | fr | own | mt | rd
def tag : SV → Tg
  | .no => .no
  | .fr _ => .fr
  | .own _ => .own
  | .mt _ _ => .mt
  | .rd _ => .rd
def shp (G : List SV) : List Tg := G.map tag
theorem wipeG_length (G : List SV) : ∀ vs : List Nat, (wipeG G vs).length = G.length
  | [] => rfl
  | v :: vs => by unfold wipeG; rw [List.length_set, wipeG_length G vs]
theorem wipeG_get {G : List SV} {i : Nat} : ∀ {vs : List Nat}, i < G.length → (wipeG G vs)[i]? = if i ∈ vs then some .no else G[i]?
  | [], h => by simp [wipeG]
  | v :: vs, h => by
    have ih := wipeG_get (vs := vs) h
    show ((wipeG G vs).set v .no)[i]? = _
    by_cases e : v = i
    · subst e
      rw [List.getElem?_set_self (by rw [wipeG_length]; exact h), if_pos (List.mem_cons_self ..)]
    · rw [List.getElem?_set_ne e, ih]
      by_cases m : i ∈ vs
      · rw [if_pos m, if_pos (List.mem_cons_of_mem _ m)]
      · rw [if_neg m, if_neg (fun z => (List.mem_cons.mp z).elim (fun w => e w.symm) m)]
theorem wipeG_some {G : List SV} {i : Nat} {vs : List Nat} {g : SV} (h : (wipeG G vs)[i]? = some g) : (i ∈ vs ∧ g = .no) ∨ (i ∉ vs ∧ G[i]? = some g) := by
  have hl : i < G.length := by
    have := (List.getElem?_eq_some_iff.mp h).1
    rwa [wipeG_length] at this
  rw [wipeG_get hl] at h
  by_cases m : i ∈ vs
  · rw [if_pos m] at h; exact .inl ⟨m, (Option.some.inj h).symm⟩
  · rw [if_neg m] at h; exact .inr ⟨m, h⟩
/-- from the slots within a comprehension to those outside, and back -/
theorem Ok.wipe {E : En} {W : Wd} {G : List SV} {σ σ' : L2.St} {H : Hp} {vs : List Nat} (h : Ok E W G σ H) (e : wipe σ vs = wipe σ' vs) (hl : σ'.length = σ.length) : Ok E W (wipeG G vs) σ' H := by
  have same : ∀ {i : Nat}, i ∉ vs → σ'[i]? = σ[i]? := fun {i} m => by
    by_cases hi : i < σ.length
    · have h1 := wipe_get (σ := σ) (vs := vs) hi
      have h2 := wipe_get (σ := σ') (vs := vs) (by rw [hl]; exact hi)
      rw [if_neg m] at h1 h2
      rw [← h1, ← h2, e]
    · rw [List.getElem?_eq_none (by omega), List.getElem?_eq_none (by omega)]
  refine ⟨h.ex, by rw [wipeG_length, hl]; exact h.len, fun i g eg => ?_, fun i j gi gj a ne e1 o1 e2 p2 s1 s2 => ?_⟩
  · rcases wipeG_some eg with ⟨_, rfl⟩ | ⟨m, eg'⟩
    · have hi : i < σ'.length := by
        rw [hl, h.len]
        have := (List.getElem?_eq_some_iff.mp eg).1
        rwa [wipeG_length] at this
      exact ⟨σ'[i], List.getElem?_eq_getElem hi, True.intro⟩
    · obtain ⟨s, q1, q2⟩ := h.slot i g eg'
      exact ⟨s, by rw [same m]; exact q1, q2⟩
  · rcases wipeG_some e1 with ⟨_, rfl⟩ | ⟨m1, e1'⟩
    · cases o1
    · rcases wipeG_some e2 with ⟨_, rfl⟩ | ⟨m2, e2'⟩
      · cases p2
      · exact h.dis i j gi gj a ne e1' o1 e2' p2 (by rw [← same m1]; exact s1) (by rw [← same m2]; exact s2)
theorem wipe_wipe (σ : L2.St) (vs : List Nat) : wipe (wipe σ vs) vs = wipe σ vs := by
  apply List.ext_getElem?
  intro i
  by_cases hi : i < σ.length
  · rw [wipe_get (by rw [wipe_length]; exact hi), wipe_get hi]
    by_cases m : i ∈ vs
    · rw [if_pos m, if_pos m]
    · rw [if_neg m, if_neg m]
  · rw [List.getElem?_eq_none (by rw [wipe_length, wipe_length]; omega), List.getElem?_eq_none (by rw [wipe_length]; omega)]
theorem shp_get {G G' : List SV} (h : shp G = shp G') {i : Nat} {g : SV} (e : G[i]? = some g) : ∃ g', G'[i]? = some g' ∧ tag g' = tag g := by
  have h1 : (G.map tag)[i]? = some (tag g) := by rw [List.getElem?_map, e]; rfl
  have h2 : (G'.map tag)[i]? = some (tag g) := by
    have : G.map tag = G'.map tag := h
    rw [← this]; exact h1
  rw [List.getElem?_map] at h2
  cases q : G'[i]? with
  | none => rw [q] at h2; cases h2
  | some g' => rw [q] at h2; exact ⟨g', rfl, Option.some.inj h2⟩
theorem tag_pl {g g' : SV} (h : tag g = tag g') (p : g'.isPl = true) : g.isPl = true := by cases g <;> cases g' <;> first | rfl | (simp [tag] at h; done) | (cases p; done)
theorem tag_no {g : SV} (h : tag g = tag .no) : g = .no := by cases g <;> simp [tag] at h ⊢
theorem wipeG_eq {G : List SV} {vs : List Nat} (h : ∀ v ∈ vs, ∀ g, G[v]? = some g → g = .no) : wipeG G vs = G := by
  apply List.ext_getElem?
  intro i
  by_cases hi : i < G.length
  · rw [wipeG_get hi]
    by_cases m : i ∈ vs
    · rw [if_pos m, List.getElem?_eq_getElem hi, h i m _ (List.getElem?_eq_getElem hi)]
    · rw [if_neg m]
  · rw [List.getElem?_eq_none (by rw [wipeG_length]; omega), List.getElem?_eq_none (by omega)]
theorem wipeG_sh {G G1 : List SV} {vs : List Nat} (h : shp G = shp (wipeG G1 vs)) : wipeG G vs = G := by
  refine wipeG_eq fun v m g e => ?_
  obtain ⟨g', e', t'⟩ := shp_get h e
  rcases wipeG_some e' with ⟨_, rfl⟩ | ⟨z, _⟩
  · exact tag_no t'.symm
  · exact absurd m z
theorem Ok.scratch {E : En} {W : Wd} {G : List SV} {σ : L2.St} {H : Hp} {D : Addr} {xs ys : List V} (h : Ok E W G σ H) (e : H D = some (.lst xs)) (f : W.F D = none) (t : ¬ W.T D) (n : E.H D = none)
    (ap : ∀ (j : Nat) (g : SV), G[j]? = some g → g.isPl = true → σ[j]? ≠ some (some (.ref D))) : Ok E W G σ (upd H D (.lst ys)) := by
  have x := h.ex
  have nl : E.L ≠ some D := x.nolk e (fun od u z => nomatch z)
  have rdl : ∀ {b : Addr} {u : HO}, b ≠ D → RdL E.L H b u → RdL E.L (upd H D (.lst ys)) b u := fun {b u} ne q => by
    rcases q with q | ⟨q, od, q2⟩
    · exact .inl ⟨q.1, by rw [upd_ne ne]; exact q.2⟩
    · exact .inr ⟨q, od, by rw [upd_ne ne]; exact q2⟩
  refine ⟨⟨x.leW, x.newF, x.newT, x.apart, fun b u q => rdl (fun z => by rw [z, f] at q; cases q) (x.sub b u q), fun b q => ?_, fun b u q h1 h2 => ?_, fun b u q => ?_, fun b q => ?_⟩, h.len, fun j gj ej => ?_, h.dis⟩
  · obtain ⟨p, m, y, w⟩ := x.deal b q
    exact ⟨p, m, by rw [upd_ne (fun z => t (by rw [← z]; exact q))]; exact y, w⟩
  · rw [upd_ne (fun z => by rw [z, n] at q; cases q)]
    exact x.frm b u q h1 h2
  · rw [upd_ne (fun z => by rw [z, n] at q; cases q)]
    exact x.dom b u q
  · obtain ⟨od, u, y, z⟩ := x.lk b q
    exact ⟨od, u, by rw [upd_ne (fun w => nl (by rw [q, w]))]; exact y, z⟩
  · obtain ⟨s, q1, q2⟩ := h.slot j gj ej
    refine ⟨s, q1, ?_⟩
    have na : ∀ {c : Addr}, gj.isPl = true → s = some (.ref c) → c ≠ D := fun {c} pl es z => ap j gj ej pl (by rw [q1, es, z])
    cases gj with
    | no => exact True.intro
    | fr => exact q2
    | own d1 =>
      obtain ⟨c, es, y, f', nt', n', o1, k⟩ := q2
      have nc := na rfl es
      exact ⟨c, es, fun _ => let ⟨o, y1, y2⟩ := y (by simp); ⟨o, by rw [upd_ne nc]; exact y1, y2⟩, f', nt', n', o1, by rw [upd_ne nc]; exact k⟩
    | mt c d1 =>
      obtain ⟨es, y, f', nt', n', o1, k⟩ := q2
      have nc := na rfl es
      exact ⟨es, fun _ => let ⟨o, y1, y2⟩ := y (by simp); ⟨o, by rw [upd_ne nc]; exact y1, y2⟩, f', nt', n', o1, by rw [upd_ne nc]; exact k⟩
    | rd d1 =>
      obtain ⟨c, o1, es, y, t1, n'⟩ := q2
      exact ⟨c, o1, es, rdl (na rfl es) y, t1, n'⟩

/-- a comprehension on its way: the list at D holds acc -/
structure Cp (E : En) (W1 : Wd) (Gw : List SV) (σ : L2.St) (Dl : Addr) (Iv : List D → List SV → Prop) (n : Nat) (W' : Wd) (G' : List SV) (xs : List V) (acc : List D) (H : Hp) : Prop where
  le : W1.le W'
  ok : Ok E W' G' σ H
  sh : shp G' = shp Gw
  at_ : H Dl = some (.lst xs)
  els : Ats W' xs acc
  len : acc.length ≤ n
  f : W'.F Dl = none
  t : ¬ W'.T Dl
  n : E.H Dl = none
  iv : Iv acc G'
def CP (E : En) (W1 : Wd) (Gw : List SV) (σ : L2.St) (Dl : Addr) (Iv : List D → List SV → Prop) (n : Nat) : Hp → Prop := fun H => ∃ W' G' xs acc, Cp E W1 Gw σ Dl Iv n W' G' xs acc H
/-- what one turn asks -/
def Ct (L : Option Addr) (vs : List Nat) (tt : TT) (te : TE) (acc : List D) (Iv : List D → List SV → Prop) : List SV → Prop := fun G2 =>
  AT L tt G2 fun b G3 => if b = true then AE L te G3 fun r G4 => ∃ y, fz r = .v y ∧ Iv (acc ++ [y]) (wipeG G4 vs) else Iv acc (wipeG G3 vs)
theorem comp_turn {L : Option Addr} {E : En} (eL : E.L = L) {W1 : Wd} {G1 : List SV} {σ : L2.St} {H1 : Hp} {Dl : Addr} {Iv Iv' : List D → List SV → Prop} {n : Nat} {H : Hp} {W' : Wd} {G' : List SV} {xs : List V} {acc : List D} {vs : List Nat} {tt : TT} {te : TE} {g : TG} {y : V}
    (ok1 : Ok E W1 (wipeG G1 vs) σ H1) (c : Cp E W1 (wipeG G1 vs) σ Dl Iv n W' G' xs acc H) (hn : n ≤ 100000) (apw : ∀ (j : Nat) (g : SV), (wipeG G1 vs)[j]? = some g → g.isPl = true → σ[j]? ≠ some (some (.ref Dl)))
    (shI : ∀ acc G', Iv' acc G' → shp G' = shp (wipeG G1 vs))
    (hg : ∀ E' : En, E'.L = L → ∀ H', Ok E' W' G' (wipe σ vs) H' → H' = H → ∀ Q : L2.St → Hp → Prop, (∀ W3 σ3 H3 G3, W'.le W3 → Ok E' W3 G3 σ3 H3 → wipe σ3 vs = wipe (wipe σ vs) vs → Ct L vs tt te acc Iv' G3 → Q σ3 H3) → g y (wipe σ vs) H' Q) :
    g y (wipe σ vs) H fun σ2 H2 => wipe σ2 vs = wipe σ vs ∧ tt σ2 H2 fun b H3 => if b = true then te σ2 H3 fun z H4 => ∃ acc', H4 Dl = some (.lst acc') ∧ acc'.length < sizeLine ∧ CP E W1 (wipeG G1 vs) σ Dl Iv' (n + 1) (upd H4 Dl (.lst (acc' ++ [z]))) else CP E W1 (wipeG G1 vs) σ Dl Iv' (n + 1) H3 := by
  have ap : ∀ {G2 : List SV}, shp G2 = shp (wipeG G1 vs) → ∀ (j : Nat) (g : SV), G2[j]? = some g → g.isPl = true → σ[j]? ≠ some (some (.ref Dl)) := fun {G2} sh j g e p => by
    obtain ⟨g', e', t'⟩ := shp_get sh e
    exact apw j g' e' (tag_pl t' p)
  have okp := (c.ok.pin c.at_ c.f c.t (ap c.sh)).wipe (σ' := wipe σ vs) (vs := vs) (wipe_wipe σ vs).symm (wipe_length σ vs)
  rw [wipeG_sh c.sh] at okp
  have lE : E.W.le W' := c.ok.ex.leW
  have lenx : xs.length < sizeLine := by
    rw [c.els.length]
    exact Nat.lt_of_le_of_lt (Nat.le_trans c.len hn) (by decide)
  refine hg (E.pin Dl (.lst xs)) eL H okp rfl _ fun W3 σ3 H3 G3 l3 ok3 w3 h3 => ⟨w3.trans (wipe_wipe σ vs), ?_⟩
  have w3' : wipe σ3 vs = wipe σ vs := w3.trans (wipe_wipe σ vs)
  have hl3 : σ.length = σ3.length := by
    have := congrArg List.length w3'
    rw [wipe_length, wipe_length] at this
    exact this.symm
  refine h3 (E.pin Dl (.lst xs)) eL W3 σ3 H3 ok3 _ fun W4 H4 b G4 l4 ok4 k4 => ?_
  cases b with
  | true =>
    have k4 : AE L te G4 fun r G4 => ∃ y, fz r = .v y ∧ Iv' (acc ++ [y]) (wipeG G4 vs) := k4
    show te σ3 H4 _
    refine k4 (E.pin Dl (.lst xs)) eL W4 σ3 H4 ok4 _ fun W5 H5 r5 G5 z l5 ok5 rz ⟨d, ed, i5⟩ => ?_
    obtain ⟨W6, l6, ok6, az⟩ := fz_v ok5 rz ed
    have ok7 := ok6.wipe (σ' := σ) (vs := vs) w3' hl3
    obtain ⟨ok8, h8, f8, t8⟩ := ok7.unpin c.n c.f c.t lE
    refine ⟨xs, h8, lenx, W6, wipeG G5 vs, xs ++ [z], acc ++ [d], ⟨c.le.trans (l3.trans (l4.trans (l5.trans l6))), ok8.scratch h8 f8 t8 c.n (ap (shI _ _ i5)), shI _ _ i5, upd_same, ?_, ?_, f8, t8, c.n, i5⟩⟩
    · exact (Ats.mono (l3.trans (l4.trans (l5.trans l6))) _ c.els).append (.cons az .nil)
    · rw [List.length_append]; exact Nat.succ_le_succ c.len
  | false =>
    have k4 : Iv' acc (wipeG G4 vs) := k4
    have ok7 := ok4.wipe (σ' := σ) (vs := vs) w3' hl3
    obtain ⟨ok8, h8, f8, t8⟩ := ok7.unpin c.n c.f c.t lE
    exact ⟨W4, wipeG G4 vs, xs, acc, ⟨c.le.trans (l3.trans l4), ok8, shI _ _ k4, h8, Ats.mono (l3.trans l4) _ c.els, Nat.le_succ_of_le c.len, f8, t8, c.n, k4⟩⟩

/-! ### locks -/
def En.lock (E : En) (W : Wd) (d : Addr) (od : Obj) (u : HO) : En := ⟨⟨fun b => if b = d then W.F d else E.W.F b, E.W.T⟩, upd E.H d (.frz od u), E.M.filter (fun a => decide (a ≠ d)), some d⟩
def isDc (u : HO) : Prop := (∃ kvs, u = .dK kvs) ∨ ∃ kvs, u = .dT kvs
theorem Ok.lock {E : En} {W : Wd} {G : List SV} {σ : L2.St} {H : Hp} {d : Addr} {u : HO} (od : Obj) (h : Ok E W G σ H) (eL : E.L = none) (e : H d = some u) (di : isDc u) (t : ¬ W.T d)
    (ap : ∀ (j : Nat) (g : SV), G[j]? = some g → g.isOwn = true → σ[j]? ≠ some (some (.ref d))) : Ok (E.lock W d od u) W G σ (upd H d (.frz od u)) := by
  have x := h.ex
  have str : ∀ {b : Addr} {o : HO}, RdL E.L H b o → H b = some o := fun q => q.elim (fun z => z.2) fun z => by rw [eL] at z; cases z.1
  have rdl : ∀ {b : Addr} {o : HO}, RdL E.L H b o → RdL (some d) (upd H d (.frz od u)) b o := fun {b o} q => by
    have q := str q
    by_cases hb : b = d
    · subst hb
      rw [e] at q
      injection q with q
      subst q
      exact .inr ⟨rfl, od, upd_same⟩
    · exact .inl ⟨fun z => hb (Option.some.inj z).symm, by rw [upd_ne hb]; exact q⟩
  refine ⟨⟨⟨fun b o q => ?_, x.leW.t⟩, fun b o q => ?_, fun b q => ?_, x.apart, fun b o q => rdl (x.sub b o q), fun b q => ?_, fun b o q n1 n2 => ?_, fun b o q => ?_, fun b q => ?_⟩, h.len, fun i g eg => ?_, h.dis⟩
  · have q : (if b = d then W.F d else E.W.F b) = some o := q
    by_cases hb : b = d
    · rw [if_pos hb] at q; rw [hb]; exact q
    · rw [if_neg hb] at q; exact x.leW.f b o q
  · by_cases hb : b = d
    · refine .inl ?_
      show (if b = d then W.F d else E.W.F b) = some o
      rw [if_pos hb, ← hb]; exact q
    · refine (x.newF b o q).imp (fun z => ?_) fun z => ?_
      · show (if b = d then W.F d else E.W.F b) = some o
        rw [if_neg hb]; exact z
      · show upd E.H d (.frz od u) b = none
        rw [upd_ne hb]; exact z
  · refine (x.newT b q).imp (fun z => z) fun z => ?_
    show upd E.H d (.frz od u) b = none
    rw [upd_ne (fun w => t (by rw [← w]; exact q))]; exact z
  · obtain ⟨p, m, y, w⟩ := x.deal b q
    exact ⟨p, m, by rw [upd_ne (fun z => t (by rw [← z]; exact q))]; exact y, w⟩
  · have q : upd E.H d (.frz od u) b = some o := q
    by_cases hb : b = d
    · subst hb; rw [upd_same] at q ⊢; exact q
    · rw [upd_ne hb] at q ⊢
      exact x.frm b o q (fun z => n1 (List.mem_filter.mpr ⟨z, decide_eq_true hb⟩)) n2
  · have q : upd E.H d (.frz od u) b = some o := q
    by_cases hb : b = d
    · subst hb; exact ⟨_, upd_same⟩
    · rw [upd_ne hb] at q ⊢; exact x.dom b o q
  · have q := Option.some.inj q
    subst q
    exact ⟨od, u, upd_same, di⟩
  · obtain ⟨s, q1, q2⟩ := h.slot i g eg
    refine ⟨s, q1, ?_⟩
    have na : ∀ {c : Addr}, g.isOwn = true → s = some (.ref c) → c ≠ d := fun {c} pl es z => ap i g eg pl (by rw [q1, es, z])
    cases g with
    | no => exact True.intro
    | fr => exact q2
    | own d1 =>
      obtain ⟨c, es, y, f', nt', n', o1, k⟩ := q2
      have nc := na rfl es
      exact ⟨c, es, fun _ => let ⟨o, y1, y2⟩ := y (by simp); ⟨o, by rw [upd_ne nc]; exact y1, y2⟩, f', nt', by show upd E.H d _ c = none; rw [upd_ne nc]; exact n', o1, by rw [upd_ne nc]; exact k⟩
    | mt c d1 =>
      obtain ⟨es, y, f', nt', n', o1, k⟩ := q2
      have nc := na rfl es
      exact ⟨es, fun _ => let ⟨o, y1, y2⟩ := y (by simp); ⟨o, by rw [upd_ne nc]; exact y1, y2⟩, f', nt', List.mem_filter.mpr ⟨n', decide_eq_true nc⟩, o1, by rw [upd_ne nc]; exact k⟩
    | rd d1 =>
      obtain ⟨c, o1, es, y, t1, n'⟩ := q2
      exact ⟨c, o1, es, rdl y, t1, n'⟩
theorem Ok.unlock {E : En} {W W' : Wd} {G G0 : List SV} {σ σ0 : L2.St} {H H0 : Hp} {d : Addr} {u : HO} {od : Obj} (h : Ok (E.lock W d od u) W' G σ H) (h0 : Ok E W G0 σ0 H0) (eL : E.L = none) (e : H0 d = some u) (di : isDc u) (t : ¬ W.T d) :
    H d = some (.frz od u) ∧ Ok E W' G σ (upd H d u) := by
  have x := h.ex
  have x0 := h0.ex
  have hd : H d = some (.frz od u) := by
    refine x.frm d _ (by show upd E.H d (.frz od u) d = _; exact upd_same) (fun z => ?_) fun z => t (x0.leW.t _ z)
    have := (List.mem_filter.mp z).2
    simp at this
  refine ⟨hd, ?_⟩
  have inj : ∀ {od' : Obj} {o : HO}, H d = some (.frz od' o) → o = u := fun {od' o} q => by
    rw [hd] at q
    injection q with q
    injection q with _ q
    exact q.symm
  have rdl : ∀ {b : Addr} {o : HO}, RdL (some d) H b o → RdL E.L (upd H d u) b o := fun {b o} q => by
    refine .inl ⟨by rw [eL]; simp, ?_⟩
    rcases q with ⟨n, q⟩ | ⟨n, od', q⟩
    · rw [upd_ne (fun z => n (by rw [z]))]; exact q
    · have n := Option.some.inj n
      subst n
      rw [upd_same, inj q]
  have back : ∀ {b : Addr}, upd E.H d (.frz od u) b = none → b ≠ d ∧ E.H b = none := fun {b} z => by
    by_cases hb : b = d
    · subst hb; rw [upd_same] at z; cases z
    · rw [upd_ne hb] at z; exact ⟨hb, z⟩
  have nod : ∀ {b : Addr} {o : HO}, H b = some o → (∀ od' w, o ≠ .frz od' w) → b ≠ d := fun {b o} q n z => by
    rw [z, hd] at q
    injection q with q
    exact n _ _ q.symm
  refine ⟨⟨⟨fun b o q => ?_, x.leW.t⟩, fun b o q => ?_, fun b q => (x.newT b q).imp (fun z => z) fun z => (back z).2, x.apart, fun b o q => rdl (x.sub b o q), fun b q => ?_, fun b o q n1 n2 => ?_, fun b o q => ?_, fun b q => by rw [eL] at q; cases q⟩, h.len, fun i g eg => ?_, h.dis⟩
  · by_cases hb : b = d
    · have z : (if b = d then W.F d else E.W.F b) = some o := by rw [if_pos hb, ← hb]; exact x0.leW.f b o q
      exact x.leW.f b o z
    · have z : (if b = d then W.F d else E.W.F b) = some o := by rw [if_neg hb]; exact q
      exact x.leW.f b o z
  · rcases x.newF b o q with z | z
    · have z : (if b = d then W.F d else E.W.F b) = some o := z
      by_cases hb : b = d
      · rw [if_pos hb, ← hb] at z; exact x0.newF b o z
      · rw [if_neg hb] at z; exact .inl z
    · exact .inr (back z).2
  · obtain ⟨p, m, y, w⟩ := x.deal b q
    exact ⟨p, m, by rw [upd_ne (nod y (fun _ _ z => nomatch z))]; exact y, w⟩
  · by_cases hb : b = d
    · subst hb
      have := x0.frm b o q n1 n2
      rw [e] at this
      rw [upd_same]; exact this
    · rw [upd_ne hb]
      exact x.frm b o (by show upd E.H d _ b = some o; rw [upd_ne hb]; exact q) (fun z => n1 (List.mem_filter.mp z).1) n2
  · by_cases hb : b = d
    · subst hb; exact ⟨u, upd_same⟩
    · rw [upd_ne hb]; exact x.dom b o (by show upd E.H d _ b = some o; rw [upd_ne hb]; exact q)
  · obtain ⟨s, q1, q2⟩ := h.slot i g eg
    refine ⟨s, q1, ?_⟩
    cases g with
    | no => exact True.intro
    | fr => exact q2
    | own d1 =>
      obtain ⟨c, es, y, f', nt', n', o1, k⟩ := q2
      obtain ⟨nc, n''⟩ := back n'
      exact ⟨c, es, fun _ => let ⟨o, y1, y2⟩ := y (by simp); ⟨o, by rw [upd_ne nc]; exact y1, y2⟩, f', nt', n'', o1, by rw [upd_ne nc]; exact k⟩
    | mt c d1 =>
      obtain ⟨es, y, f', nt', n', o1, k⟩ := q2
      obtain ⟨m1, m2⟩ := List.mem_filter.mp n'
      have nc : c ≠ d := of_decide_eq_true m2
      exact ⟨es, fun _ => let ⟨o, y1, y2⟩ := y (by simp); ⟨o, by rw [upd_ne nc]; exact y1, y2⟩, f', nt', m1, o1, by rw [upd_ne nc]; exact k⟩
    | rd d1 =>
      obtain ⟨c, o1, es, y, t1, n'⟩ := q2
      exact ⟨c, o1, es, rdl y, t1, n'⟩
end Q
-- text Q7
set_option Elab.async false
set_option linter.all false
set_option maxRecDepth 100000
set_option maxHeartbeats 1000000
/-! Layer Q, part 7: comprehensions, loops over dicts. -/
namespace Q
open PySem PySem.Spec PyProof.Rows L2

section
variable {L : Option Addr} {G : List SV} {k : R → List SV → Prop} {g : TG} {tt : TT} {te : TE} {vs : List Nat}
theorem shp_wk {G G' : List SV} (h : shp G = shp G') : G.length = G'.length := by
  have := congrArg List.length h
  unfold shp at this
  rwa [List.length_map, List.length_map] at this
/-- the comprehension begins -/
theorem cp_start {E : En} {W : Wd} {G : List SV} {σ : L2.St} {H : Hp} {Dl : Addr} {Iv : List D → List SV → Prop} (ok : Ok E W G σ H) (hD : H Dl = none) (i0 : Iv [] (wipeG G vs)) : Ok E W (wipeG G vs) σ (upd H Dl (.lst [])) ∧ CP E W (wipeG G vs) σ Dl Iv 0 (upd H Dl (.lst [])) ∧ ∀ (j : Nat) (g : SV), (wipeG G vs)[j]? = some g → g.isPl = true → σ[j]? ≠ some (some (.ref Dl)) := by
  have okw : Ok E W (wipeG G vs) σ H := ok.wipe rfl rfl
  obtain ⟨f, t⟩ := ok.ex.fresh hD
  have ok1 : Ok E W (wipeG G vs) σ (upd H Dl (.lst [])) := okw.new hD
  refine ⟨ok1, ⟨W, wipeG G vs, [], [], ⟨.rfl, ok1, rfl, upd_same, .nil, Nat.zero_le _, f, t, ok.ex.newH hD, i0⟩⟩, fun j g e p z => ?_⟩
  obtain ⟨a, o, e1, e2, _⟩ := okw.place e p
  rw [e1] at z
  injection z with z
  injection z with z
  injection z with z
  rw [z, hD] at e2
  cases e2
/-- the comprehension's end -/
theorem cp_end {E : En} {W : Wd} {Gw : List SV} {σ : L2.St} {H : Hp} {Dl : Addr} {Iv : List D → List SV → Prop} {n : Nat} (c : CP E W Gw σ Dl Iv n H) (ap : ∀ (j : Nat) (g : SV), Gw[j]? = some g → g.isPl = true → σ[j]? ≠ some (some (.ref Dl))) :
    ∃ W' G' acc, W.le W' ∧ Ok E W' G' σ H ∧ acc.length ≤ n ∧ Iv acc G' ∧ ROk E W' G' σ H (.o (.lst acc)) (.ref Dl) := by
  obtain ⟨W', G', xs, acc, c⟩ := c
  refine ⟨W', G', acc, c.le, c.ok, c.len, c.iv, Dl, .lst xs, rfl, c.at_, c.els, c.f, c.t, c.n, fun j g e p => ?_⟩
  obtain ⟨g', e', t'⟩ := shp_get c.sh e
  exact ap j g' e' (tag_pl t' p)
/-- [.. for x in a list if ..] -/
theorem ae_lcL {K : PySem.W.Frag} {tl : TE} (h : AE L tl G fun r G1 => ∃ ds, con G1 (fz r) = some (.lst ds) ∧ ds.length ≤ 100000 ∧ ∃ Iv : Nat → List D → List SV → Prop, Iv 0 [] (wipeG G1 vs) ∧
    (∀ n acc G', Iv n acc G' → shp G' = shp (wipeG G1 vs) ∧ con G' (fz r) = some (.lst ds)) ∧ (∀ n d acc G', ds[n]? = some d → Iv n acc G' → AW L vs g (.v d) G' (Ct L vs tt te acc (Iv (n + 1)))) ∧
    ∀ acc G', acc.length ≤ ds.length → Iv ds.length acc G' → k (.o (.lst acc)) G') : AE L (tLc (iList K tl) g tt te vs) G k := fun E eL W σ H ok Q q => by
  refine h E eL W σ H ok _ fun W1 H1 r1 G1 x l1 ok1 rx ⟨ds, c1, hl, Iv, i0, sh, hs, hd⟩ => ?_
  obtain ⟨W2, l2, ok2, rx2, n2⟩ := fzOk ok1 rx
  obtain ⟨a, xs0, rfl, hx, _, _⟩ := ok2.rdL rx2 c1
  refine ⟨a, rfl, ⟨xs0, SqL.of hx⟩, fun Dl hD => ?_⟩
  obtain ⟨ok3, cp, ap⟩ := cp_start (Iv := Iv 0) (vs := vs) ok2 hD i0
  have rd : ∀ {i : Nat} {H' : Hp} {W' : Wd} {G' : List SV} {xs : List V} {acc : List D}, Cp E W2 (wipeG G1 vs) σ Dl (Iv i) i W' G' xs acc H' → ∃ ys, SqL K H' a ys ∧ Ats W' ys ds := fun {i H' W' G' xs acc} c => by
    obtain ⟨a', ys, e, hy, t, _⟩ := c.ok.rdL (rx2.keep n2 c.le) (sh i acc G' c.iv).2
    injection e with e
    subst e
    exact ⟨ys, SqL.of hy, t⟩
  refine ⟨fun i m H' => m = ds.length - i ∧ i ≤ ds.length ∧ CP E W2 (wipeG G1 vs) σ Dl (Iv i) i H', ⟨ds.length, rfl, Nat.zero_le _, cp⟩, ?_⟩
  rintro i m H' ⟨rfl, hi, cp⟩
  by_cases hlt : i < ds.length
  · refine .inr ?_
    obtain ⟨W', G', xs, acc, c⟩ := cp
    obtain ⟨ys, sq, t⟩ := rd c
    have hy : i < ys.length := by rw [t.length]; exact hlt
    refine ⟨⟨ys, ys[i], sq, List.getElem?_eq_getElem hy⟩, CP E W2 (wipeG G1 vs) σ Dl (Iv (i + 1)) (i + 1), fun H'' c' => ⟨ds.length - (i + 1), by omega, rfl, hlt, c'⟩, fun y H'' hyl => ?_⟩
    obtain ⟨e, hyl⟩ := hyl
    subst e
    obtain ⟨d, hd', ad⟩ := t.get (hyl ys sq)
    exact comp_turn eL ok3 c (by omega) ap (fun acc G' iv => (sh _ acc G' iv).1) fun E' eL' H'' okw e Q' hQ => by
      subst e
      exact hs i d acc G' hd' c.iv E' eL' W' (wipe σ vs) _ y okw (vR ad) Q' hQ
  · have e : i = ds.length := by omega
    subst e
    refine .inl ⟨?_, ?_⟩
    · obtain ⟨W', G', xs, acc, c⟩ := cp
      obtain ⟨ys, sq, t⟩ := rd c
      exact ⟨ys, sq, by rw [t.length]; exact Nat.le_refl _⟩
    · obtain ⟨W', G', acc, l', ok', la, iv, ro⟩ := cp_end cp ap
      exact q W' H' _ G' _ (l1.trans (l2.trans l')) ok' ro (hd acc G' la iv)
/-- .. in a frozen tuple -/
theorem ae_lcT {K : PySem.W.Frag} {tl : TE} (h : AE L tl G fun r G1 => ∃ ds, fz r = .v (.tup ds) ∧ ds.length ≤ 100000 ∧ ∃ Iv : Nat → List D → List SV → Prop, Iv 0 [] (wipeG G1 vs) ∧
    (∀ n acc G', Iv n acc G' → shp G' = shp (wipeG G1 vs)) ∧ (∀ n d acc G', ds[n]? = some d → Iv n acc G' → AW L vs g (.v d) G' (Ct L vs tt te acc (Iv (n + 1)))) ∧
    ∀ acc G', acc.length ≤ ds.length → Iv ds.length acc G' → k (.o (.lst acc)) G') : AE L (tLc (iTup K tl) g tt te vs) G k := fun E eL W σ H ok Q q => by
  refine h E eL W σ H ok _ fun W1 H1 r1 G1 x l1 ok1 rx ⟨ds, e1, hl, Iv, i0, sh, hs, hd⟩ => ?_
  obtain ⟨W2, l2, ok2, a2⟩ := fz_v ok1 rx e1
  cases a2 with
  | @tup a xs0 _ f t =>
  have sq : ∀ {i : Nat} {H' : Hp} {W' : Wd} {G' : List SV} {xs : List V} {acc : List D} {Dl : Addr}, Cp E W2 (wipeG G1 vs) σ Dl (Iv i) i W' G' xs acc H' → SqT K H' a xs0 := fun c => .inl (c.ok.ex.sub _ _ (c.le.f _ _ f)).rd
  refine ⟨a, rfl, ⟨xs0, .inl (ok2.ex.sub _ _ f).rd⟩, fun Dl hD => ?_⟩
  obtain ⟨ok3, cp, ap⟩ := cp_start (Iv := Iv 0) (vs := vs) ok2 hD i0
  refine ⟨fun i m H' => m = ds.length - i ∧ i ≤ ds.length ∧ CP E W2 (wipeG G1 vs) σ Dl (Iv i) i H', ⟨ds.length, rfl, Nat.zero_le _, cp⟩, ?_⟩
  rintro i m H' ⟨rfl, hi, cp⟩
  by_cases hlt : i < ds.length
  · refine .inr ?_
    obtain ⟨W', G', xs, acc, c⟩ := cp
    have hy : i < xs0.length := by rw [t.length]; exact hlt
    refine ⟨⟨xs0, xs0[i], sq c, List.getElem?_eq_getElem hy⟩, CP E W2 (wipeG G1 vs) σ Dl (Iv (i + 1)) (i + 1), fun H'' c' => ⟨ds.length - (i + 1), by omega, rfl, hlt, c'⟩, fun y H'' hyl => ?_⟩
    obtain ⟨e, hyl⟩ := hyl
    subst e
    obtain ⟨d, hd', ad⟩ := t.get (hyl xs0 (sq c))
    exact comp_turn eL ok3 c (by omega) ap (fun acc G' iv => sh _ acc G' iv) fun E' eL' H'' okw e Q' hQ => by
      subst e
      exact hs i d acc G' hd' c.iv E' eL' W' (wipe σ vs) _ y okw (vR (At.mono c.le _ ad)) Q' hQ
  · have e : i = ds.length := by omega
    subst e
    refine .inl ⟨?_, ?_⟩
    · obtain ⟨W', G', xs, acc, c⟩ := cp
      exact ⟨xs0, sq c, by rw [t.length]; exact Nat.le_refl _⟩
    · obtain ⟨W', G', acc, l', ok', la, iv, ro⟩ := cp_end cp ap
      exact q W' H' _ G' _ (l1.trans (l2.trans l')) ok' ro (hd acc G' la iv)
/-- .. in range(n) -/
theorem ae_lcR {ta : TA} (h : AA L ta G fun rs G1 => ∃ n : Nat, rs = [.v (.raw (.int n))] ∧ n ≤ 100000 ∧ ∃ Iv : Nat → List D → List SV → Prop, Iv 0 [] (wipeG G1 vs) ∧
    (∀ i acc G', Iv i acc G' → shp G' = shp (wipeG G1 vs)) ∧ (∀ i acc G', i < n → Iv i acc G' → AW L vs g (.v (.raw (.int (i : Int)))) G' (Ct L vs tt te acc (Iv (i + 1)))) ∧
    ∀ acc G', acc.length ≤ n → Iv n acc G' → k (.o (.lst acc)) G') : AE L (tLc (iRng1 ta) g tt te vs) G k := fun E eL W σ H ok Q q => by
  refine h E eL W σ H ok _ fun W1 H1 rs G1 xs l1 ok1 rx ⟨n, e1, hn, Iv, i0, sh, hs, hd⟩ => ?_
  subst e1
  cases rx with
  | cons q1 rr =>
  cases rr
  cases At.raw_eq q1
  refine ⟨n, rfl, by omega, by omega, fun Dl hD => ?_⟩
  have en : ((n : Int)).toNat = n := by omega
  rw [en]
  obtain ⟨ok3, cp, ap⟩ := cp_start (Iv := Iv 0) (vs := vs) ok1 hD i0
  refine ⟨fun i m H' => m = n - i ∧ i ≤ n ∧ CP E W1 (wipeG G1 vs) σ Dl (Iv i) i H', ⟨n, rfl, Nat.zero_le _, cp⟩, ?_⟩
  rintro i m H' ⟨rfl, hi, cp⟩
  by_cases hlt : i < n
  · refine .inr ?_
    obtain ⟨W', G', xs, acc, c⟩ := cp
    refine ⟨hlt, CP E W1 (wipeG G1 vs) σ Dl (Iv (i + 1)) (i + 1), fun H'' c' => ⟨n - (i + 1), by omega, rfl, hlt, c'⟩, fun y H'' hyl => ?_⟩
    obtain ⟨e, hyl⟩ := hyl
    subst e hyl
    rw [Int.zero_add]
    exact comp_turn eL ok3 c (by omega) ap (fun acc G' iv => sh _ acc G' iv) fun E' eL' H'' okw e Q' hQ => by
      subst e
      exact hs i acc G' hlt c.iv E' eL' W' (wipe σ vs) _ _ okw rawR Q' hQ
  · have e : i = n := by omega
    subst e
    refine .inl ⟨Nat.le_refl _, ?_⟩
    obtain ⟨W', G', acc, l', ok', la, iv, ro⟩ := cp_end cp ap
    exact q W' H' _ G' _ (l1.trans l') ok' ro (hd acc G' la iv)

/-! ### dicts, locked while they are walked -/
/-- a field that holds a frozen dict -/
theorem fld_at {E : En} {W : Wd} {G : List SV} {σ : L2.St} {H : Hp} {i : Nat} {C : Addr} {f : Str} {ns : List Str} {dd : List D} {ks : List Str} {ds : List D} (ok : Ok E W G σ H) (e : G[i]? = some (.fr (.obj C ns dd))) (hf : lkp ns dd f = some (.dK ks ds)) :
    ∃ a dx fs d kvs, σ[i]? = some (some (.ref a)) ∧ W.F a = some (.ins C dx fs) ∧ fs.lookup f = some (.ref d) ∧ W.F d = some (.dK kvs) ∧ kvs.map (·.1) = ks.map kK ∧ Ats W (kvs.map (·.2)) ds := by
  obtain ⟨s, e1, v, rfl, av⟩ := ok.slot i _ e
  obtain ⟨a, dx, fs, rfl, f1, f2, f3⟩ := av.fields
  obtain ⟨v, f4, a4⟩ := fld_lkp f2 f3 hf
  cases a4 with
  | @dK d kvs _ _ g1 g2 g3 => exact ⟨a, dx, fs, d, kvs, e1, f1, f4, g1, g2, g3⟩
theorem items_get {W : Wd} {kvs : List (Key × V)} {ks : List Str} {ds : List D} (h1 : kvs.map (·.1) = ks.map kK) (h2 : Ats W (kvs.map (·.2)) ds) {j : Nat} {kk : Key} {v : V} (e : kvs[j]? = some (kk, v)) : ∃ t x, ks[j]? = some t ∧ kk = kK t ∧ ds[j]? = some x ∧ At W v x := by
  have e1 : (kvs.map (·.1))[j]? = some kk := by rw [List.getElem?_map, e]; rfl
  have e2 : (kvs.map (·.2))[j]? = some v := by rw [List.getElem?_map, e]; rfl
  rw [h1, List.getElem?_map] at e1
  obtain ⟨x, hx, ax⟩ := h2.get e2
  cases q : ks[j]? with
  | none => rw [q] at e1; cases e1
  | some t =>
    rw [q] at e1
    exact ⟨t, x, rfl, (Option.some.inj e1).symm, hx, ax⟩
theorem kv_len {W : Wd} {kvs : List (Key × V)} {ks : List Str} {ds : List D} (h1 : kvs.map (·.1) = ks.map kK) (h2 : Ats W (kvs.map (·.2)) ds) : kvs.length = ks.length ∧ ks.length = ds.length := by
  have a := congrArg List.length h1
  have b := h2.length
  rw [List.length_map, List.length_map] at a
  rw [List.length_map] at b
  exact ⟨a, a.symm.trans b⟩
theorem as_forI {K : PySem.W.Frag} {Z : Az} {i : Nat} {f : Str} {tb : TS} {C : Addr} {ns : List Str} {dd : List D} {ks : List Str} {ds : List D} (hL : L = none) (e : G[i]? = some (.fr (.obj C ns dd))) (hc : Cls K C) (hn : NoAttr K C f) (hf : lkp ns dd f = some (.dK ks ds))
    (Iv : Nat → List SV → Prop) (h0 : ∃ G', Wk G G' ∧ Iv 0 G')
    (hs : ∀ d j t x G, ks[j]? = some t → ds[j]? = some x → Iv j G → AG (some d) g (.v (.tup [.raw (.str t), x])) G fun G2 => AS (some d) tb G2 ⟨fun G3 => ∃ G', Wk G3 G' ∧ Iv (j + 1) G', fun _ _ => False, fun _ => False, fun G3 => ∃ G', Wk G3 G' ∧ Iv (j + 1) G'⟩)
    (hd : ∀ G, Iv ks.length G → Z.nx G) : AS L (tLock (tFor (iItems (tFld K (tVar i) f)) g tb)) G Z := fun E eL W σ H ok D z => by
  have eL0 : E.L = none := eL.trans hL
  obtain ⟨a, dx, fs, d, kvs, e1, f1, f4, g1, g2, g3⟩ := fld_at ok e hf
  have hd0 : H d = some (.dK kvs) := (ok.ex.sub d _ g1).elim (fun y => y.2) fun y => by rw [eL0] at y; cases y.1
  have ha0 : H a = some (.ins C dx fs) := (ok.ex.sub a _ f1).elim (fun y => y.2) fun y => by rw [eL0] at y; cases y.1
  have nt : ¬ W.T d := fun y => by rw [ok.ex.apart d y] at g1; cases g1
  have ad : a ≠ d := fun y => by rw [y, hd0] at ha0; cases ha0
  refine ⟨d, .dK kvs, hd0, True.intro, fun od => ?_⟩
  have okl := ok.lock od eL0 hd0 (.inl ⟨kvs, rfl⟩) nt fun j g ej ow y => by
    obtain ⟨ff, _⟩ := ok.own_at ej ow y
    rw [g1] at ff; cases ff
  obtain ⟨G0, w0, i0⟩ := h0
  refine ⟨.ref a, e1, a, C, dx, fs, .ref d, rfl, by rw [upd_ne ad]; exact ha0, hc, hn, f4, d, od, kvs, rfl, upd_same, ?_⟩
  have lens := kv_len g2 g3
  refine ⟨fun i m σ' H' => m = kvs.length - i ∧ i ≤ kvs.length ∧ Lp (E.lock W d od (.dK kvs)) W (Iv i) σ' H', ⟨kvs.length, rfl, Nat.zero_le _, W, G0, .rfl, okl.wk w0, i0⟩, ?_⟩
  rintro i m σ' H' ⟨rfl, hi, W', G', l', ok', iv⟩
  obtain ⟨hfz, okU⟩ := ok'.unlock ok eL0 hd0 (.inl ⟨kvs, rfl⟩) nt
  by_cases hlt : i < kvs.length
  · refine .inr ⟨⟨hfz, hlt⟩, Lp (E.lock W d od (.dK kvs)) W (Iv (i + 1)), fun σ2 H2 p => ⟨kvs.length - (i + 1), by omega, rfl, hlt, p⟩, fun x H2 y => ?_⟩
    obtain ⟨T, kk, v, y1, rfl, hT, rfl⟩ := y
    obtain ⟨t, dv, t1, rfl, t3, t4⟩ := items_get g2 g3 y1
    have fr := (ok'.ex.fresh hT).1
    have le := Wd.frz_le (o := .tup [kV (kK t), v]) fr
    refine hs d i t dv G' t1 t3 iv (E.lock W d od (.dK kvs)) rfl (W'.frz T (.tup [kV (kK t), v])) σ' _ _ (ok'.newF hT) (vR (At.newF (o := .tup [kV (kK t), v]) (d := .tup [.raw (.str t), dv]) fr (.cons (.raw _) (.cons (At.mono l' _ t4) .nil)))) _ fun W3 σ3 H3 G3 l3 ok3 h3 => ?_
    refine h3 (E.lock W d od (.dK kvs)) rfl W3 σ3 H3 ok3 _ ⟨fun W4 σ4 H4 G4 l4 ok4 ⟨G5, w5, i5⟩ => ⟨W4, G5, l'.trans (le.trans (l3.trans l4)), ok4.wk w5, i5⟩, fun W4 σ4 H4 G4 r4 x4 l4 ok4 rx4 z4 => z4.elim, fun W4 σ4 H4 G4 l4 ok4 z4 => z4.elim, fun W4 σ4 H4 G4 l4 ok4 ⟨G5, w5, i5⟩ => ⟨W4, G5, l'.trans (le.trans (l3.trans l4)), ok4.wk w5, i5⟩⟩
  · have e : i = kvs.length := by omega
    subst e
    refine .inl ⟨⟨hfz, Nat.le_refl _⟩, hfz, z.nx W' σ' _ G' l' okU (hd G' (by rw [← lens.1]; exact iv))⟩
/-- [x for x in o.f if ..], o.f a frozen dict; the name stands at slot j -/
theorem ae_lcK {K : PySem.W.Frag} {i j : Nat} {f : Str} {C : Addr} {ns : List Str} {dd : List D} {ks : List Str} {ds : List D} (hL : L = none) (e : G[i]? = some (.fr (.obj C ns dd))) (hc : Cls K C) (hn : NoAttr K C f) (hf : lkp ns dd f = some (.dK ks ds)) (hl : ks.length ≤ 100000) (hi : i ∉ vs)
    (Iv : Nat → List D → List SV → Prop) (i0 : Iv 0 [] (wipeG G vs)) (sh : ∀ n acc G', Iv n acc G' → shp G' = shp (wipeG G vs))
    (hs : ∀ d n t x acc G', ks[n]? = some t → ds[n]? = some x → Iv n acc G' → AW (some d) vs g (.v (.raw (.str t))) G' (Ct (some d) vs tt te acc (Iv (n + 1)))) (hd : ∀ acc G', acc.length ≤ ks.length → Iv ks.length acc G' → k (.o (.lst acc)) G') :
    AE L (tLockE (tLc (iKeys (tFld K (tVar i) f)) g tt te vs)) G k := fun E eL W σ H ok Q q => by
  have eL0 : E.L = none := eL.trans hL
  obtain ⟨a, dx, fs, d, kvs, e1, f1, f4, g1, g2, g3⟩ := fld_at ok e hf
  have hd0 : H d = some (.dK kvs) := (ok.ex.sub d _ g1).elim (fun y => y.2) fun y => by rw [eL0] at y; cases y.1
  have ha0 : H a = some (.ins C dx fs) := (ok.ex.sub a _ f1).elim (fun y => y.2) fun y => by rw [eL0] at y; cases y.1
  have nt : ¬ W.T d := fun y => by rw [ok.ex.apart d y] at g1; cases g1
  have ad : a ≠ d := fun y => by rw [y, hd0] at ha0; cases ha0
  refine ⟨d, .dK kvs, hd0, True.intro, fun od => ?_⟩
  have okl := ok.lock od eL0 hd0 (.inl ⟨kvs, rfl⟩) nt fun j g ej ow y => by
    obtain ⟨ff, _⟩ := ok.own_at ej ow y
    rw [g1] at ff; cases ff
  refine ⟨.ref a, e1, a, C, dx, fs, .ref d, rfl, by rw [upd_ne ad]; exact ha0, hc, hn, f4, d, od, rfl, .inl ⟨kvs, upd_same, fun Dl hD => ?_⟩⟩
  have lens := kv_len g2 g3
  obtain ⟨ok3, cp, ap⟩ := cp_start (Iv := Iv 0) (vs := vs) okl hD i0
  refine ⟨fun i m H' => m = kvs.length - i ∧ i ≤ kvs.length ∧ CP (E.lock W d od (.dK kvs)) W (wipeG G vs) σ Dl (Iv i) i H', ⟨kvs.length, rfl, Nat.zero_le _, cp⟩, ?_⟩
  rintro i m H' ⟨rfl, hi, cp⟩
  have hfz : H' d = some (.frz od (.dK kvs)) := by
    obtain ⟨W', G', xs, acc, c⟩ := cp
    exact (c.ok.unlock ok eL0 hd0 (.inl ⟨kvs, rfl⟩) nt).1
  by_cases hlt : i < kvs.length
  · refine .inr ?_
    obtain ⟨W', G', xs, acc, c⟩ := cp
    refine ⟨⟨hfz, hlt⟩, CP (E.lock W d od (.dK kvs)) W (wipeG G vs) σ Dl (Iv (i + 1)) (i + 1), fun H'' c' => ⟨kvs.length - (i + 1), by omega, rfl, hlt, c'⟩, fun y H'' hyl => ?_⟩
    obtain ⟨e, kk, v, hyl, rfl⟩ := hyl
    subst e
    obtain ⟨t, dv, t1, rfl, t3, t4⟩ := items_get g2 g3 hyl
    exact comp_turn (L := some d) rfl ok3 c (by omega) ap (fun acc G' iv => sh _ acc G' iv) fun E' eL' H'' okw e Q' hQ => by
      subst e
      exact hs d i t dv acc G' t1 t3 c.iv E' eL' W' (wipe σ vs) _ _ okw (rawR (v := .str t)) Q' hQ
  · have e : i = kvs.length := by omega
    subst e
    refine .inl ⟨⟨hfz, Nat.le_refl _⟩, hfz, ?_⟩
    obtain ⟨W', G', acc, l', ok', la, iv, ro⟩ := cp_end cp ap
    obtain ⟨_, okU⟩ := ok'.unlock ok eL0 hd0 (.inl ⟨kvs, rfl⟩) nt
    refine q W' _ _ G' _ l' okU ?_ (hd acc G' (by rw [← lens.1]; exact la) (by rw [← lens.1]; exact iv))
    obtain ⟨b, ob, eb, h1, h2, h3, h4, h5, h6⟩ := ro
    have bd : b ≠ d := fun y => by rw [y, hfz] at h1; injection h1 with h1; subst h1; exact h2.nofrz
    refine ⟨b, ob, eb, by rw [upd_ne bd]; exact h1, h2, h3, h4, ?_, h6⟩
    have h5 : upd E.H d _ b = none := h5
    rw [upd_ne bd] at h5
    exact h5
/-- [.. for x in d], d a dict with tuple keys that the caller holds (no container of one's own here); x at slot j -/
theorem ae_lcM {i j : Nat} {ks : List (Str × Str)} {ds : List D} (hL : L = none) (e : G[i]? = some (.rd (.dT ks ds))) (no : ∀ g ∈ G, g.isOwn = false) (hl : ks.length ≤ 100000) (hj : j ∈ vs)
    (Iv : Nat → List D → List SV → Prop) (i0 : Iv 0 [] (wipeG G vs)) (sh : ∀ n acc G', Iv n acc G' → shp G' = shp (wipeG G vs))
    (hs : ∀ d n p acc G', ks[n]? = some p → Iv n acc G' → Ct (some d) vs tt te acc (Iv (n + 1)) (G'.set j (.rd (.tup [.raw (.str p.1), .raw (.str p.2)])))) (hd : ∀ acc G', acc.length ≤ ks.length → Iv ks.length acc G' → k (.o (.lst acc)) G') :
    AE L (tLockE (tLc (iKeys (tVar i)) (gName j) tt te vs)) G k := fun E eL W σ H ok Q q => by
  have eL0 : E.L = none := eL.trans hL
  obtain ⟨s, e1, d, o, rfl, rl, tp, nt⟩ := ok.slot i _ e
  obtain ⟨kvs, rfl, g2, g3⟩ := tp.dT
  have hd0 : H d = some (.dT kvs) := rl.elim (fun y => y.2) fun y => by rw [eL0] at y; cases y.1
  have noo : ∀ (m : Nat) (g : SV), G[m]? = some g → g.isOwn = false := fun m g y => no g (List.mem_of_getElem? y)
  refine ⟨d, .dT kvs, hd0, True.intro, fun od => ?_⟩
  have okl := ok.lock od eL0 hd0 (.inr ⟨kvs, rfl⟩) nt fun j g ej ow y => by rw [noo j g ej] at ow; cases ow
  refine ⟨.ref d, e1, d, od, rfl, .inr ⟨kvs, upd_same, fun Dl hD => ?_⟩⟩
  have len : kvs.length = ks.length := by
    have a := congrArg List.length g2
    rw [List.length_map, List.length_map] at a
    exact a
  obtain ⟨ok3, cp, ap⟩ := cp_start (Iv := Iv 0) (vs := vs) okl hD i0
  refine ⟨fun i m H' => m = kvs.length - i ∧ i ≤ kvs.length ∧ CP (E.lock W d od (.dT kvs)) W (wipeG G vs) σ Dl (Iv i) i H', ⟨kvs.length, rfl, Nat.zero_le _, cp⟩, ?_⟩
  rintro i m H' ⟨rfl, hi, cp⟩
  have hfz : H' d = some (.frz od (.dT kvs)) := by
    obtain ⟨W', G', xs, acc, c⟩ := cp
    exact (c.ok.unlock ok eL0 hd0 (.inr ⟨kvs, rfl⟩) nt).1
  by_cases hlt : i < kvs.length
  · refine .inr ?_
    obtain ⟨W', G', xs, acc, c⟩ := cp
    refine ⟨⟨hfz, hlt⟩, CP (E.lock W d od (.dT kvs)) W (wipeG G vs) σ Dl (Iv (i + 1)) (i + 1), fun H'' c' => ⟨kvs.length - (i + 1), by omega, rfl, hlt, c'⟩, fun y H'' hyl => ?_⟩
    obtain ⟨e, kk, v, q', hyl, rfl, hq⟩ := hyl
    subst e
    have hp : ∃ p, ks[i]? = some p ∧ kk = kT p := by
      have y : (kvs.map (·.1))[i]? = some kk := by rw [List.getElem?_map, hyl]; rfl
      rw [g2, List.getElem?_map] at y
      cases z : ks[i]? with
      | none => rw [z] at y; cases y
      | some p => rw [z] at y; exact ⟨p, rfl, (Option.some.inj y).symm⟩
    obtain ⟨p, hp, rfl⟩ := hp
    have noG' : ∀ (m : Nat) (g : SV), G'[m]? = some g → g.isOwn = false := fun m g y => by
      obtain ⟨g', y1, y2⟩ := shp_get c.sh y
      rcases wipeG_some y1 with ⟨_, rfl⟩ | ⟨_, y1⟩
      · rw [tag_no y2.symm]; rfl
      · have := noo m g' y1
        cases g <;> cases g' <;> first | rfl | (simp [tag] at y2; done) | (cases this; done)
    exact comp_turn (L := some d) rfl ok3 c (by omega) ap (fun acc G' iv => sh _ acc G' iv) fun E' eL' H'' okw e Q' hQ => by
      subst e
      exact aw_rd (L := some d) (ds := [.raw (.str p.1), .raw (.str p.2)]) hj noG' (hs d i p acc G' hp c.iv) E' eL' W' (wipe σ vs) _ q' _ okw hq (.cons (.raw _) (.cons (.raw _) .nil)) Q' hQ
  · have e : i = kvs.length := by omega
    subst e
    refine .inl ⟨⟨hfz, Nat.le_refl _⟩, hfz, ?_⟩
    obtain ⟨W', G', acc, l', ok', la, iv, ro⟩ := cp_end cp ap
    obtain ⟨_, okU⟩ := ok'.unlock ok eL0 hd0 (.inr ⟨kvs, rfl⟩) nt
    refine q W' _ _ G' _ l' okU ?_ (hd acc G' (by rw [← len]; exact la) (by rw [← len]; exact iv))
    obtain ⟨b, ob, eb, h1, h2, h3, h4, h5, h6⟩ := ro
    have bd : b ≠ d := fun y => by rw [y, hfz] at h1; injection h1 with h1; subst h1; exact h2.nofrz
    refine ⟨b, ob, eb, by rw [upd_ne bd]; exact h1, h2, h3, h4, ?_, h6⟩
    have h5 : upd E.H d _ b = none := h5
    rw [upd_ne bd] at h5
    exact h5
end
end Q
-- text Q8
set_option Elab.async false
set_option linter.all false
set_option maxRecDepth 100000
set_option maxHeartbeats 1000000
/-! Layer Q, part 8: built-ins, methods, ==, displays; a def's proof. -/
namespace Q
open PySem PySem.Spec PyProof.Rows L2

section
variable {L : Option Addr} {G : List SV} {k : R → List SV → Prop}
theorem rs1 {E : En} {W : Wd} {σ : L2.St} {H : Hp} {r : R} {xs : List V} (h : RsOk E W G σ H [r] xs) : ∃ x, xs = [x] ∧ ROk E W G σ H r x := by
  cases h with
  | cons a b => cases b; exact ⟨_, rfl, a⟩
theorem rs2 {E : En} {W : Wd} {σ : L2.St} {H : Hp} {r1 r2 : R} {xs : List V} (h : RsOk E W G σ H [r1, r2] xs) : ∃ x y, xs = [x, y] ∧ ROk E W G σ H r1 x ∧ ROk E W G σ H r2 y := by
  cases h with
  | cons a b => cases b with
    | cons c d => cases d; exact ⟨_, _, rfl, a, c⟩
theorem ac_lenL {K : PySem.W.Frag} {r : R} {ds : List D} (c : con G r = some (.lst ds)) (h : k (.v (.raw (.int (ds.length : Nat)))) G) : AC L (fun xs H Q => ∃ p ys, xs = [.ref p] ∧ (SqL K H p ys ∨ SqT K H p ys) ∧ Q (.int ys.length) H) [r] G k := fun E eL W σ H xs ok rx Q q => by
  obtain ⟨x, rfl, rx1⟩ := rs1 rx
  obtain ⟨a, ys, rfl, hx, t, _⟩ := ok.rdL rx1 c
  refine ⟨a, ys, rfl, .inl (SqL.of hx), ?_⟩
  rw [t.length]
  exact q W H _ G _ .rfl ok rawR h
theorem ac_lenT {K : PySem.W.Frag} {r : R} {ds : List D} (c : con G r = some (.tup ds)) (h : k (.v (.raw (.int (ds.length : Nat)))) G) : AC L (fun xs H Q => ∃ p ys, xs = [.ref p] ∧ (SqL K H p ys ∨ SqT K H p ys) ∧ Q (.int ys.length) H) [r] G k := fun E eL W σ H xs ok rx Q q => by
  obtain ⟨x, rfl, rx1⟩ := rs1 rx
  obtain ⟨a, ys, rfl, hx, t, _⟩ := ok.rdT rx1 c
  refine ⟨a, ys, rfl, .inr (SqT.of hx), ?_⟩
  rw [t.length]
  exact q W H _ G _ .rfl ok rawR h
theorem ac_max {K : PySem.W.Frag} {r : R} {ns : List Int} (c : con G r = some (.lst (ns.map fun n => .raw (.int n)))) (hn : 0 < ns.length) (h : ∀ m, m ∈ ns → (∀ y, y ∈ ns → y ≤ m) → k (.v (.raw (.int m))) G) : AC L (rMax K) [r] G k := fun E eL W σ H xs ok rx Q q => by
  obtain ⟨x, rfl, rx1⟩ := rs1 rx
  obtain ⟨a, ys, rfl, hx, t, _⟩ := ok.rdL rx1 c
  have e : ys = ns.map V.int := raws (vs := ns.map V.int) (by rw [List.map_map]; exact t)
  subst e
  exact ⟨a, ns, rfl, SqL.of hx, hn, fun m h1 h2 => q W H _ G _ .rfl ok rawR (h m h1 h2)⟩
theorem ac_all {K : PySem.W.Frag} {r : R} {bs : List Bool} (c : con G r = some (.lst (bs.map fun b => .raw (.bl b)))) (h : k (.v (.raw (.bl (bs.all id)))) G) : AC L (rAll K) [r] G k := fun E eL W σ H xs ok rx Q q => by
  obtain ⟨x, rfl, rx1⟩ := rs1 rx
  obtain ⟨a, ys, rfl, hx, t, _⟩ := ok.rdL rx1 c
  have e : ys = bs.map V.bl := raws (vs := bs.map V.bl) (by rw [List.map_map]; exact t)
  subst e
  exact ⟨a, bs, rfl, SqL.of hx, q W H _ G _ .rfl ok rawR h⟩
/-- tuple(a list) -/
theorem ac_tupL {K : PySem.W.Frag} {r : R} {ds : List D} (c : con G r = some (.lst ds)) (h : k (.v (.tup ds)) G) : AC L (fun xs H Q => ∃ p ys, xs = [.ref p] ∧ ((SqL K H p ys ∧ ∀ l, H l = none → Q (.ref l) (upd H l (.tup ys))) ∨ (SqT K H p ys ∧ Q (.ref p) H))) [r] G k := fun E eL W σ H xs ok rx Q q => by
  obtain ⟨x, rfl, rx1⟩ := rs1 rx
  obtain ⟨a, ys, rfl, hx, t, _⟩ := ok.rdL rx1 c
  refine ⟨a, ys, rfl, .inl ⟨SqL.of hx, fun p hp => ?_⟩⟩
  have f := (ok.ex.fresh hp).1
  exact q (W.frz p (.tup ys)) _ _ G _ (Wd.frz_le f) (ok.newF hp) (vR (At.newF (d := .tup ds) (o := .tup ys) f t)) h
/-- list(a list) -/
theorem ac_lstL {K : PySem.W.Frag} {r : R} {ds : List D} (c : con G r = some (.lst ds)) (h : k (.o (.lst ds)) G) : AC L (fun xs H Q => ∃ p ys, xs = [.ref p] ∧ (SqL K H p ys ∨ SqT K H p ys) ∧ ∀ l, H l = none → Q (.ref l) (upd H l (.lst ys))) [r] G k := fun E eL W σ H xs ok rx Q q => by
  obtain ⟨x, rfl, rx1⟩ := rs1 rx
  obtain ⟨a, ys, rfl, hx, t, _⟩ := ok.rdL rx1 c
  exact ⟨a, ys, rfl, .inl (SqL.of hx), fun p hp => q W _ _ G _ .rfl (ok.new hp) (ok.freshR (ob := .lst ys) (d := .lst ds) hp t) h⟩
/-- dict(a dict with text keys) -/
def rDcp : List V → Hp → VK → Prop := fun xs H Q => ∃ a kvs, xs = [.ref a] ∧ Rd H a (.dK kvs) ∧ ∀ p, H p = none → Q (.ref p) (upd H p (.dK kvs))
theorem call_dcp {X : Cx} : CallR X (.type "dict") rDcp := by
  intro pins s σ H xs us Q I r h
  obtain ⟨a, kvs, rfl, hr, q⟩ := h
  obtain ⟨u, rfl, rx⟩ := vals1 r
  cases rx
  exact d_copyOf I hr fun p s' hp I' => ⟨.ref p, _, I', rfl, q p hp⟩
theorem ac_dcp {r : R} {ks : List Str} {ds : List D} (c : con G r = some (.dK ks ds)) (h : k (.o (.dK ks ds)) G) : AC L rDcp [r] G k := fun E eL W σ H xs ok rx Q q => by
  obtain ⟨x, rfl, rx1⟩ := rs1 rx
  obtain ⟨a, kvs, rfl, hr, t1, t2, _, _⟩ := ok.rdK rx1 c
  exact ⟨a, kvs, rfl, hr, fun p hp => q W _ _ G _ .rfl (ok.new hp) (ok.freshR (ob := .dK kvs) (d := .dK ks ds) hp ⟨t1, t2⟩) h⟩
/-- dict(a list of pairs), no word twice -/
def prD (ks : List Str) (ds : List D) : List D := (ks.zip ds).map fun p => .tup [.raw (.str p.1), p.2]
theorem prs_at {K : PySem.W.Frag} {E : En} {W : Wd} {σ : L2.St} {H : Hp} (ok : Ok E W G σ H) : ∀ {ks : List Str} {ds : List D} {xs : List V}, ks.length = ds.length → Ats W xs (prD ks ds) → ∃ (ps : List Addr) (kvs : List (Key × V)), xs = ps.map V.ref ∧ Paired (fun p kv => SqT K H p [kV kv.1, kv.2]) ps kvs ∧ kvs.map (·.1) = ks.map kK ∧ Ats W (kvs.map (·.2)) ds
  | [], [], _, _, .nil => ⟨[], [], rfl, .nil, rfl, .nil⟩
  | [], _ :: _, _, hl, _ => by simp at hl
  | _ :: _, [], _, hl, _ => by simp at hl
  | t :: ks, d :: ds, _, hl, .cons a b => by
    obtain ⟨ps, kvs, rfl, h1, h2, h3⟩ := prs_at ok (by simpa using hl) b
    obtain ⟨p, ys, rfl, hx, ta, _⟩ := ok.rdT (r := .v _) (vR a) rfl
    cases ta with
    | cons a1 ta =>
      cases ta with
      | cons a2 ta =>
        cases ta
        cases At.raw_eq a1
        rename_i v
        refine ⟨p :: ps, (kK t, v) :: kvs, rfl, .cons (SqT.of hx) h1, ?_, .cons a2 h3⟩
        show kK t :: kvs.map (·.1) = kK t :: ks.map kK
        rw [h2]
theorem merge_nd : ∀ {more acc : List (Key × V)}, ((acc ++ more).map (·.1)).Nodup → mergeK acc more = acc ++ more
  | [], acc, _ => by simp [mergeK]
  | p :: more, acc, h => by
    have e : putK acc p.1 p.2 = acc ++ [p] := by
      refine putK_new _ ?_
      cases q : valV acc p.1 with
      | none => rfl
      | some v =>
        exfalso
        rw [List.map_append] at h
        exact (List.nodup_append.mp h).2.2 _ (valV_in q) _ (List.mem_cons_self ..) rfl
    show mergeK (putK acc p.1 p.2) more = _
    rw [e, merge_nd (by simpa using h)]
    simp
theorem ac_dpairs {K : PySem.W.Frag} {r : R} {ks : List Str} {ds : List D} (hl : ks.length = ds.length) (nd : ks.Nodup) (c : con G r = some (.lst (prD ks ds))) (h : k (.o (.dK ks ds)) G) :
    AC L (fun xs H Q => ∃ (a : Addr) (ps : List Addr) (kvs : List (Key × V)), xs = [.ref a] ∧ SqL K H a (ps.map V.ref) ∧ Paired (fun p kv => SqT K H p [kV kv.1, kv.2]) ps kvs ∧ ∀ p, H p = none → Q (.ref p) (upd H p (.dK (mergeK [] kvs)))) [r] G k := fun E eL W σ H xs ok rx Q q => by
  obtain ⟨x, rfl, rx1⟩ := rs1 rx
  obtain ⟨a, ys, rfl, hx, t, _⟩ := ok.rdL rx1 c
  obtain ⟨ps, kvs, rfl, h1, h2, h3⟩ := prs_at (K := K) ok hl t
  have e : mergeK [] kvs = kvs := by
    rw [merge_nd]
    · rfl
    · rw [List.nil_append, h2]
      exact List.Pairwise.map kK (fun a b hab z => hab (kK_inj z)) nd
  refine ⟨a, ps, kvs, rfl, SqL.of hx, h1, fun p hp => ?_⟩
  rw [e]
  exact q W _ _ G _ .rfl (ok.new hp) (ok.freshR (ob := .dK kvs) (d := .dK ks ds) hp ⟨h2, h3⟩) h

/-! isinstance -/
def tyD : D → Option Value
  | .raw (.int _) => some (.type "int")
  | .raw (.str _) => some (.type "str")
  | .raw (.bl _) => some (.type "bool")
  | .raw .non => some (.type "NoneType")
  | .tup _ => some (.type "tuple")
  | .lst _ => some (.type "list")
  | .dK _ _ => some (.type "dict")
  | .dT _ _ => some (.type "dict")
  | _ => none
theorem ty_at {K : PySem.W.Frag} {E : En} {W : Wd} {σ : L2.St} {H : Hp} {x : V} {d : D} {t : Value} (ok : Ok E W G σ H) (eL : E.L = none) (h : At W x d) (e : tyD d = some t) : TyX K H x t := by
  have str : ∀ {b : Addr} {o : HO}, W.F b = some o → H b = some o := fun q => (ok.ex.sub _ _ q).elim (fun z => z.2) fun z => by rw [eL] at z; cases z.1
  cases h with
  | raw => cases x <;> first | (cases e; done) | (have e := Option.some.inj e; subst e; first | exact .base (.int _) | exact .base (.str _) | exact .base (.bl _) | exact .base .non)
  | tup f r => have e := Option.some.inj e; subst e; exact .base (.tup (str f))
  | lst f r => have e := Option.some.inj e; subst e; exact .base (.lst (str f))
  | dK f a r => have e := Option.some.inj e; subst e; exact .base (.dK (str f))
  | dT f a r => have e := Option.some.inj e; subst e; exact .base (.dT (str f))
  | obj f a r => cases e
  | deal f => cases e
  | scr f => cases e
theorem ac_isi {K : PySem.W.Frag} {d : D} {c : V} {t u : Value} {b : Bool} (hL : L = none) (ht : tyD d = some t) (hc : ClsV c u) (hk : PySem.W.kitOne K t u = some b) (h : k (.v (.raw (.bl b))) G) : AC L (rIsi K) [.v d, .v (.raw c)] G k := fun E eL W σ H xs ok rx Q q => by
  obtain ⟨x, y, rfl, r1, r2⟩ := rs2 rx
  cases At.raw_eq r2
  exact ⟨x, c, t, u, b, rfl, hc, ty_at ok (eL.trans hL) r1 ht, hk, q W H _ G _ .rfl ok rawR h⟩
/-- .. of an instance -/
structure InsTy (K : PySem.W.Frag) (C : Addr) : Prop where
  cl : Cls K C
  ha : PySem.W.findIn K (.ref C) "__class__" = some (some (.builtin "object.__class__"))
  hn : PySem.W.specialIn K (.builtin "object.__class__") "__get__" = some (some (.builtin "getset_descriptor.__get__"))
  htk : PySem.W.takesIn K (.builtin "object.__class__") = some true
  hm : PySem.W.mroIn K C (.type "object") = some true
theorem ac_isiO {K : PySem.W.Frag} {C : Addr} {ns : List Str} {ds : List D} {c : V} {u : Value} {b : Bool} (hi : InsTy K C) (hc : ClsV c u) (hk : PySem.W.kitOne K (.ref C) u = some b) (h : k (.v (.raw (.bl b))) G) : AC L (rIsi K) [.v (.obj C ns ds), .v (.raw c)] G k := fun E eL W σ H xs ok rx Q q => by
  obtain ⟨x, y, rfl, r1, r2⟩ := rs2 rx
  cases At.raw_eq r2
  obtain ⟨a, dx, fs, rfl, hx, _⟩ := ok.rdO r1 rfl
  exact ⟨_, c, _, u, b, rfl, hc, .base (.ins hx hi.cl hi.ha hi.hn hi.htk hi.hm), hk, q W H _ G _ .rfl ok rawR h⟩

/-! == of data -/
mutual
def pyD : D → Option PyData
  | .raw .non => some .none
  | .raw (.bl b) => some (.bool b)
  | .raw (.int i) => some (.int i)
  | .raw (.str x) => some (.str x)
  | .tup ds => (pyDs ds).map .tuple
  | .lst ds => (pyDs ds).map .list
  | _ => none
def pyDs : List D → Option (List PyData)
  | [] => some []
  | d :: ds => match pyD d, pyDs ds with
    | some p, some ps => some (p :: ps)
    | _, _ => none
end
mutual
theorem dp_at {K : PySem.W.Frag} {W : Wd} {H : Hp} (str : ∀ b o, W.F b = some o → Rd H b o) : ∀ (d : D) {x : V} {p : PyData}, At W x d → pyD d = some p → Dp K H x p
  | .raw v, _, _, h, e => by
    cases h
    cases v <;> simp [pyD] at e <;> subst e
    · exact .non
    · exact .bl _
    · exact .int _
    · exact .str _
  | .tup ds, _, _, h, e => by
    cases h with
    | tup f r =>
      cases q : pyDs ds with
      | none => simp [pyD, q] at e
      | some ps => simp [pyD, q] at e; subst e; exact .tup (.inl (str _ _ f)) (dps_at str ds r q)
  | .lst ds, _, _, h, e => by
    cases h with
    | lst f r =>
      cases q : pyDs ds with
      | none => simp [pyD, q] at e
      | some ps => simp [pyD, q] at e; subst e; exact .lst (.inl (str _ _ f)) (dps_at str ds r q)
  | .dK _ _, _, _, h, e => by simp [pyD] at e
  | .dT _ _, _, _, h, e => by simp [pyD] at e
  | .obj _ _ _, _, _, h, e => by simp [pyD] at e
  | .deal, _, _, h, e => by simp [pyD] at e
  | .scr _ _, _, _, h, e => by simp [pyD] at e
theorem dps_at {K : PySem.W.Frag} {W : Wd} {H : Hp} (str : ∀ b o, W.F b = some o → Rd H b o) : ∀ (ds : List D) {xs : List V} {ps : List PyData}, Ats W xs ds → pyDs ds = some ps → DpAll K H xs ps
  | [], _, _, h, e => by
    cases h
    simp [pyDs] at e
    subst e
    exact .nil
  | d :: ds, _, _, h, e => by
    cases h with
    | cons a b =>
      cases q1 : pyD d with
      | none => simp [pyDs, q1] at e
      | some p =>
        cases q2 : pyDs ds with
        | none => simp [pyDs, q1, q2] at e
        | some ps => simp [pyDs, q1, q2] at e; subst e; exact .cons (dp_at str d a q1) (dps_at str ds b q2)
end
theorem Ok.dp {K : PySem.W.Frag} {E : En} {W : Wd} {σ : L2.St} {H : Hp} {x : V} {d : D} {p : PyData} (ok : Ok E W G σ H) (h : At W x d) (e : pyD d = some p) : Dp K H x p := dp_at (fun b o f => (ok.ex.sub b o f).rd) d h e
theorem ar_eqD {K : PySem.W.Frag} {d e : D} {p q : PyData} (h1 : pyD d = some p) (h2 : pyD e = some q) (s1 : SeqAt.shaped p = true) (s2 : SeqAt.shaped q = true) (h : k (.v (.raw (.bl (PyData.eqv p q)))) G) : AR L (rEqD K) (.v d) (.v e) G k := fun E eL W σ H x y ok rx ry Q qq =>
  ⟨p, q, ok.dp rx h1, ok.dp ry h2, s1, s2, qq W H _ G _ .rfl ok rawR h⟩
theorem ar_neD {K : PySem.W.Frag} {d e : D} {p q : PyData} (h1 : pyD d = some p) (h2 : pyD e = some q) (s1 : SeqAt.shaped p = true) (s2 : SeqAt.shaped q = true) (h : k (.v (.raw (.bl (!PyData.eqv p q)))) G) : AR L (rNeD K) (.v d) (.v e) G k := fun E eL W σ H x y ok rx ry Q qq =>
  ⟨p, q, ok.dp rx h1, ok.dp ry h2, s1, s2, qq W H _ G _ .rfl ok rawR h⟩
/-- a list (a place) as data -/
theorem Ok.dpL {K : PySem.W.Frag} {E : En} {W : Wd} {σ : L2.St} {H : Hp} {x : V} {r : R} {ds : List D} {ps : List PyData} (ok : Ok E W G σ H) (h : ROk E W G σ H r x) (c : con G r = some (.lst ds)) (e : pyDs ds = some ps) : Dp K H x (.list ps) := by
  obtain ⟨a, ys, rfl, hx, t, _⟩ := ok.rdL h c
  exact .lst (SqL.of hx) (dps_at (fun b o f => (ok.ex.sub b o f).rd) ds t e)
theorem ar_notInD {K : PySem.W.Frag} {d : D} {r : R} {ds : List D} {p : PyData} {ps : List PyData} (h1 : pyD d = some p) (c : con G r = some (.lst ds)) (h2 : pyDs ds = some ps) (s1 : SeqAt.shaped p = true) (s2 : SeqAt.shaped (.list ps) = true)
    (h : k (.v (.raw (.bl (!ps.any fun z => PyData.eqv z p)))) G) : AR L (rNotInD K) (.v d) r G k := fun E eL W σ H x y ok rx ry Q qq =>
  ⟨p, ps, ok.dp rx h1, ok.dpL ry c h2, s1, s2, qq W H _ G _ .rfl ok rawR h⟩

/-! methods of lists and texts -/
/-- xs.append(e) -/
theorem ae_app {K : PySem.W.Frag} {to te : TE} (h : AE L to G fun r G1 => ∃ i, r = .p i ∧ (∃ ds, con G1 (.p i) = some (.lst ds)) ∧ AE L te G1 fun r2 G2 => ∃ g ds d, fz r2 = .v d ∧ G2[i]? = some g ∧ g.isOwn = true ∧ g.con = some (.lst ds) ∧ ds.length < 100000 ∧ k (.v (.raw .non)) (G2.set i (g.put (.lst (ds ++ [d]))))) :
    AE L (tBM K "list" rAppend to (tCons te tNil)) G k := fun E eL W σ H ok Q q => by
  refine h E eL W σ H ok _ fun W1 H1 r G1 x l1 ok1 rx ⟨i, e, ⟨ds0, c0⟩, k1⟩ => ?_
  subst e
  obtain ⟨a, ys, rfl, hx, _, _⟩ := ok1.rdL rx c0
  refine ⟨.inl ⟨rfl, _, .inl (.inl hx)⟩, k1 E eL W1 σ H1 ok1 _ fun W2 H2 r2 G2 y l2 ok2 ry ⟨g, ds, d, ed, eg, ow, ec, hl, k2⟩ => ?_⟩
  obtain ⟨W3, l3, ok3, ay⟩ := fz_v ok2 ry ed
  have rx3 : σ[i]? = some (some (.ref a)) := rx
  obtain ⟨_, _, _, hc⟩ := ok3.own_at eg ow rx3
  obtain ⟨o, ho, to⟩ := hc _ ec
  obtain ⟨zs, rfl, tz⟩ := to.lst
  refine ⟨a, zs, y, rfl, rfl, ho, by rw [tz.length]; exact Nat.lt_trans hl (by decide), ?_⟩
  exact q W3 _ _ _ _ (l1.trans (l2.trans l3)) (ok3.write (o' := .lst (zs ++ [y])) (d := .lst (ds ++ [d])) eg ow rx3 (tz.append (.cons ay .nil))) rawR k2
/-- xs.insert(n, e) -/
def rInsert : V → List V → Hp → VK → Prop := fun x vs H Q => ∃ (l : Addr) (xs : List V) (i : Int) (y : V), x = .ref l ∧ vs = [.int i, y] ∧ H l = some (.lst xs) ∧ xs.length < sizeLine ∧ 0 ≤ i ∧ i < 2 ^ 63 ∧
    Q .non (upd H l (.lst (xs.take i.toNat ++ [y] ++ xs.drop i.toNat)))
theorem mt_insertQ {X : Cx} : MtR X "list.insert" rInsert := mt_insert
theorem ae_ins {K : PySem.W.Frag} {to : TE} {ta : TA} (h : AE L to G fun r G1 => ∃ i, r = .p i ∧ (∃ ds, con G1 (.p i) = some (.lst ds)) ∧ AA L ta G1 fun rs G2 => ∃ g ds d n, rs = [.v (.raw (.int (n : Nat))), .v d] ∧ n < 100000 ∧ G2[i]? = some g ∧ g.isOwn = true ∧ g.con = some (.lst ds) ∧ ds.length < 100000 ∧ k (.v (.raw .non)) (G2.set i (g.put (.lst (ds.take n ++ [d] ++ ds.drop n))))) :
    AE L (tBM K "list" rInsert to ta) G k := fun E eL W σ H ok Q q => by
  refine h E eL W σ H ok _ fun W1 H1 r G1 x l1 ok1 rx ⟨i, e, ⟨ds0, c0⟩, k1⟩ => ?_
  subst e
  obtain ⟨a, ys, rfl, hx, _, _⟩ := ok1.rdL rx c0
  refine ⟨.inl ⟨rfl, _, .inl (.inl hx)⟩, k1 E eL W1 σ H1 ok1 _ fun W2 H2 rs G2 xs l2 ok2 rxs ⟨g, ds, d, n, ed, hn, eg, ow, ec, hl, k2⟩ => ?_⟩
  subst ed
  obtain ⟨y1, y2, rfl, r1, r2⟩ := rs2 rxs
  cases At.raw_eq r1
  have rx3 : σ[i]? = some (some (.ref a)) := rx
  obtain ⟨_, _, _, hc⟩ := ok2.own_at eg ow rx3
  obtain ⟨o, ho, to⟩ := hc _ ec
  obtain ⟨zs, rfl, tz⟩ := to.lst
  refine ⟨a, zs, n, y2, rfl, rfl, ho, by rw [tz.length]; exact Nat.lt_trans hl (by decide), by omega, by omega, ?_⟩
  have en : ((n : Int)).toNat = n := by omega
  rw [en]
  exact q W2 _ _ _ _ (l1.trans l2) (ok2.write (d := .lst (ds.take n ++ [d] ++ ds.drop n)) (o' := .lst (zs.take n ++ [y2] ++ zs.drop n)) eg ow rx3 (((tz.take n).append (.cons r2 .nil)).append (tz.drop n))) rawR k2
/-- xs * n -/
theorem ar_rep {r : R} {ds : List D} {n : Nat} (c : con G r = some (.lst ds)) (hn : n ≤ 1000) (hl : ds.length * n ≤ 100000) (h : k (.o (.lst (List.replicate n ds).flatten)) G) : AR L rRep r (.v (.raw (.int (n : Nat)))) G k := fun E eL W σ H x y ok rx ry Q q => by
  cases At.raw_eq ry
  obtain ⟨a, ys, rfl, hx, t, _⟩ := ok.rdL rx c
  have en : ((n : Int)).toNat = n := by omega
  refine ⟨a, n, ys, rfl, rfl, hx, by omega, by omega, by rw [en, t.length]; exact Nat.le_trans hl (by decide), fun p hp => ?_⟩
  rw [en]
  have rep : ∀ m : Nat, Ats W (List.replicate m ys).flatten (List.replicate m ds).flatten := fun m => by
    induction m with
    | zero => exact .nil
    | succ m ih => exact t.append ih
  exact q W _ _ G _ .rfl (ok.new hp) (ok.freshR (ob := .lst (List.replicate n ys).flatten) (d := .lst (List.replicate n ds).flatten) hp (rep n)) h
/-- deal[1] = n -/
theorem as_deal {Z : Az} {to ti te : TE} (h : AE L te G fun r1 G1 => ∃ n, r1 = .v (.raw (.int n)) ∧ DealOk n ∧ AE L to G1 fun r2 G2 => r2 = .v .deal ∧ AE L ti G2 fun r3 G3 => r3 = .v (.raw (.int 1)) ∧ Z.nx G3) : AS L (tAsg te (gSub to ti rSetL)) G Z := fun E eL W σ H ok D z => by
  refine h E eL W σ H ok _ fun W1 H1 r1 G1 x l1 ok1 rx ⟨n, e1, hn, k1⟩ => ?_
  subst e1
  cases At.raw_eq rx
  refine k1 E eL W1 σ H1 ok1 _ fun W2 H2 r2 G2 y l2 ok2 ry ⟨e2, k2⟩ => ?_
  subst e2
  obtain ⟨a, rfl, ta⟩ : ∃ a, y = .ref a ∧ W2.T a := by
    cases (show At W2 y .deal from ry) with | deal e => exact ⟨_, rfl, e⟩
  refine k2 E eL W2 σ H2 ok2 _ fun W3 H3 r3 G3 w l3 ok3 rw3 ⟨e3, k3⟩ => ?_
  subst e3
  cases At.raw_eq rw3
  have ta3 := l3.t _ ta
  obtain ⟨f, m, e, _⟩ := ok3.ex.deal a ta3
  refine ⟨a, [.int f, .int m], 1, 1, rfl, rfl, e, rfl, ?_⟩
  exact z.nx W3 σ _ G3 (l1.trans (l2.trans l3)) (ok3.turn (f := f) ta3 hn) k3
end

/-! ### a def's proof -/
/-- the caller's containers behind a def: their new contents -/
def Mts (av : Nat → Addr) (G' : List SV) : Nat → List Pm → List D → Prop
  | _, [], ds => ds = []
  | i, .fr _ :: ps, ds => Mts av G' (i + 1) ps ds
  | i, .rd _ :: ps, ds => Mts av G' (i + 1) ps ds
  | _, .mt _ :: _, [] => False
  | i, .mt _ :: ps, d :: ds => G'[i]? = some (.mt (av i) d) ∧ Mts av G' (i + 1) ps ds
def fzs : R → Option R
  | .v d => some (.v d)
  | .o d => some (.o d)
  | .p _ => none
/-- what a body is to reach -/
def Zf (ps : List Pm) (av : Nat → Addr) (kk : R → List D → Prop) : Az :=
  ⟨fun G' => ∃ ds, Mts av G' 0 ps ds ∧ kk (.v (.raw .non)) ds, fun r G' => ∃ ds, fzs r = some r ∧ Mts av G' 0 ps ds ∧ kk r ds, fun _ => False, fun _ => False⟩
theorem mts_pair {E : En} {W : Wd} {G' : List SV} {σ : L2.St} {H : Hp} (ok : Ok E W G' σ H) (av : Nat → Addr) : ∀ (ps : List Pm) (i : Nat) (ds : List D), Mts av G' i ps ds → Paired (MtAt W H) (mads ps fun j => av (i + j)) ds
  | [], i, ds, h => by
    have h : ds = [] := h
    subst h
    exact .nil
  | .fr _ :: ps, i, ds, h => by
    have := mts_pair ok av ps (i + 1) ds h
    have e : (fun j => av (i + 1 + j)) = fun j => av (i + (j + 1)) := by funext j; congr 1; omega
    rw [e] at this
    exact this
  | .rd _ :: ps, i, ds, h => by
    have := mts_pair ok av ps (i + 1) ds h
    have e : (fun j => av (i + 1 + j)) = fun j => av (i + (j + 1)) := by funext j; congr 1; omega
    rw [e] at this
    exact this
  | .mt _ :: ps, i, [], h => h.elim
  | .mt _ :: ps, i, d :: ds, h => by
    have := mts_pair ok av ps (i + 1) ds h.2
    have e : (fun j => av (i + 1 + j)) = fun j => av (i + (j + 1)) := by funext j; congr 1; omega
    rw [e] at this
    refine .cons ?_ this
    obtain ⟨s, e1, es, y, f, nt, _⟩ := ok.slot i _ h.1
    obtain ⟨o, y1, y2⟩ := y (by simp)
    exact ⟨o, y1, y2, f, nt⟩
section
variable {P : Program} {w : World} {K : PySem.W.Frag} {mg : Str → Option Value} {base : Heap}
theorem body_of {l : Bool} {S : Spec} {N : List Str} {ps0 : List Str} {t : TS} (hN : ps0.length ≤ N.length)
    (hlen : ∀ pm k, S pm k → pm.length = ps0.length)
    (h : ∀ (L : Option Addr), (l = true → L = none) → ∀ (pm : List Pm) (av : Nat → Addr) (kk : R → List D → Prop), S pm kk → AS L t (svs pm av ++ List.replicate (N.length - ps0.length) .no) (Zf pm av kk))
    {vs : List V} {H : Hp} {Q : VK} {X : XK} (hs : spOf l S vs H Q X) : t { nx := fun _ H' => Q .non H', rt := Q } (L2.start N vs) H := by
  obtain ⟨E, pm, k, av, eH, hl, hlv, ok, eM, hS, hQ⟩ := hs
  have e0 := hlen pm k hS
  have ok' : Ok E E.W (svs pm av ++ List.replicate (N.length - ps0.length) .no) (L2.start N vs) H := by
    have es : L2.start N vs = vs.map some ++ List.replicate (N.length - ps0.length) none := by
      unfold L2.start
      rw [← hlv, e0]
    rw [es]
    have ll : (vs.map some).length = (svs pm av).length := ok.len
    refine ⟨ok.ex, by rw [List.length_append, List.length_append, ll, List.length_replicate, List.length_replicate], fun i g e => ?_, fun i j gi gj a ne e1 o1 e2 p2 s1 s2 => ?_⟩
    · by_cases hi : i < (svs pm av).length
      · rw [List.getElem?_append_left hi] at e
        obtain ⟨s, q1, q2⟩ := ok.slot i g e
        exact ⟨s, by rw [List.getElem?_append_left (by rw [ll]; exact hi)]; exact q1, q2⟩
      · have hi := Nat.le_of_not_lt hi
        rw [List.getElem?_append_right hi] at e
        have hr := (List.getElem?_eq_some_iff.mp e).1
        rw [List.length_replicate] at hr
        have eg : g = .no := by
          rw [List.getElem?_replicate, if_pos hr] at e
          exact (Option.some.inj e).symm
        subst eg
        exact ⟨none, by rw [List.getElem?_append_right (by rw [ll]; exact hi), List.getElem?_replicate, if_pos (by rw [ll]; exact hr)], True.intro⟩
    · have lt : ∀ {m : Nat} {g : SV}, (svs pm av ++ List.replicate (N.length - ps0.length) .no)[m]? = some g → g.isPl = true → m < (svs pm av).length ∧ (svs pm av)[m]? = some g := fun {m g} e p => by
        by_cases hi : m < (svs pm av).length
        · rw [List.getElem?_append_left hi] at e
          exact ⟨hi, e⟩
        · have hi := Nat.le_of_not_lt hi
          rw [List.getElem?_append_right hi, List.getElem?_replicate] at e
          split at e
          · have := Option.some.inj e
            subst this
            cases p
          · cases e
      obtain ⟨l1, e1⟩ := lt e1 (own_pl o1)
      obtain ⟨l2, e2⟩ := lt e2 p2
      rw [List.getElem?_append_left (by rw [ll]; exact l1)] at s1
      rw [List.getElem?_append_left (by rw [ll]; exact l2)] at s2
      exact ok.dis i j gi gj a ne e1 o1 e2 p2 s1 s2
  have mt : ∀ {W' : Wd} {G' : List SV} {σ' : L2.St} {H' : Hp} {ds : List D}, Ok E W' G' σ' H' → Mts av G' 0 pm ds → Paired (MtAt W' H') E.M ds := fun ok2 m => by
    rw [eM]
    have := mts_pair ok2 av pm 0 _ m
    have e : (fun j => av (0 + j)) = av := by funext j; rw [Nat.zero_add]
    rw [e] at this
    exact this
  refine h E.L hl pm av k hS E rfl E.W (L2.start N vs) H ok' _ ⟨fun W' σ' H' G' _ ok2 ⟨ds, m, kk⟩ => ?_, fun W' σ' H' G' r x _ ok2 rx ⟨ds, e, m, kk⟩ => ?_, fun W' σ' H' G' _ _ z => z.elim, fun W' σ' H' G' _ _ z => z.elim⟩
  · exact hQ W' H' (.v (.raw .non)) _ ds ok2.ex (At.raw .non) (mt ok2 m) kk
  · refine hQ W' H' r x ds ok2.ex ?_ (mt ok2 m) kk
    cases r with
    | v d => exact rx
    | o d =>
      obtain ⟨a, ob, h1, h2, h3, h4, h5, h6, _⟩ := rx
      exact ⟨a, ob, h1, h2, h3, h4, h5, h6⟩
    | p i => cases e
theorem sp_len {l : Bool} {S : Spec} {n : Nat} (hlen : ∀ pm k, S pm k → pm.length = n) : ∀ vs H Q E, spOf l S vs H Q E → vs.length = n := fun vs H Q E ⟨_, pm, k, av, _, _, e, _, _, hS, _⟩ => e.symm.trans (hlen pm k hS)
/-- THE RULE for a def without defaults -/
theorem fun_ok {x qual : Str} {st : Stmt} {f : Addr} {fd : FuncData} {N ps : List Str} {k : Nat} {l : Bool} {S : Spec} (F : Fun K x qual st f fd) (Sc : FnScope N ps (defScope st)) (hN : ps.length ≤ N.length) (hlen : ∀ pm k, S pm k → pm.length = ps.length)
    (body : ∀ (cdv : Value) (A : Around) (outer : List Env) (s : Shared) (H : Hp) (X : XK), Room k (A.deeper (envOfC qual (defScope st) s.heap.objs.size f cdv)) →
      ∃ t, PSs (cxOf CX0 P w K mg base N qual (defScope st) f cdv A outer s H X).nox (defBody st) t ∧
        ∀ (L : Option Addr), (l = true → L = none) → ∀ (pm : List Pm) (av : Nat → Addr) (kk : R → List D → Prop), S pm kk → AS L t (svs pm av ++ List.replicate (N.length - ps.length) .no) (Zf pm av kk)) :
    FnOk P w K mg base CX0 (k + 1) f fd ps (spOf l S) :=
  F.ok Sc (sp_len hlen) fun cdv A outer s H vs Q X hr hs => by
    obtain ⟨t, h1, h2⟩ := body cdv A outer s H X hr
    exact ⟨t, h1, body_of hN hlen h2 hs⟩
theorem fun_okD {x qual : Str} {st : Stmt} {f : Addr} {fd : FuncData} {N ps : List Str} {k : Nat} {l : Bool} {S : Spec} {dvs : List V} (F : FunD K x qual (defArgs st) (defBody st) (defScope st) dvs [] f fd) (Sc : FnScope N ps (defScope st)) (hN : ps.length ≤ N.length) (hlen : ∀ pm k, S pm k → pm.length = ps.length)
    (body : ∀ (cdv : Value) (A : Around) (outer : List Env) (s : Shared) (H : Hp) (X : XK), Room k (A.deeper (envOfC qual (defScope st) s.heap.objs.size f cdv)) →
      ∃ t, PSs (cxOf CX0 P w K mg base N qual (defScope st) f cdv A outer s H X).nox (defBody st) t ∧
        ∀ (L : Option Addr), (l = true → L = none) → ∀ (pm : List Pm) (av : Nat → Addr) (kk : R → List D → Prop), S pm kk → AS L t (svs pm av ++ List.replicate (N.length - ps.length) .no) (Zf pm av kk)) :
    FnOk P w K mg base CX0 (k + 1) f fd ps (spOf l S) :=
  F.ok Sc (sp_len hlen) fun cdv A outer s H vs Q X hr hs => by
    obtain ⟨t, h1, h2⟩ := body cdv A outer s H X hr
    exact ⟨t, h1.nox, body_of hN hlen h2 hs⟩
end
end Q
-- text Q9
set_option Elab.async false
set_option linter.all false
set_option maxRecDepth 100000
set_option maxHeartbeats 1000000
/-! Layer Q, part 9: callees, instances. -/
namespace Q
open PySem PySem.Spec PyProof.Rows L2

/-- a def that stands behind the top and keeps its promise -/
structure Callee (P : Program) (w : World) (K : PySem.W.Frag) (mg : Str → Option Value) (base : Heap) (k : Nat) (x : Str) (ps : List Str) (dvs : List V) (l : Bool) (S : Spec) where
  f : Addr
  fd : FuncData
  ds : List Value
  ok : FnOk P w K mg base CX0 k f fd ps (spOf l S)
  at_ : mg x = some (.ref f)
  kp : PySem.W.keepIn K (.ref f) = true
  hd : Vals dvs ds
  b : Binds K fd ps ds
/-- a method -/
structure CalleeM (P : Program) (w : World) (K : PySem.W.Frag) (mg : Str → Option Value) (base : Heap) (k : Nat) (C : Addr) (m : Str) (ps : List Str) (dvs : List V) (l : Bool) (S : Spec) where
  f : Addr
  fd : FuncData
  ds : List Value
  ok : FnOk P w K mg base CX0 k f fd ps (spOf l S)
  cl : Cls K C
  at_ : Meth K C m f
  hd : Vals dvs ds
  b : Binds K fd ps ds
section
variable {X : Cx} {k : Nat} {x m : Str} {C : Addr} {ps : List Str} {dvs : List V} {l : Bool} {S : Spec} {p pos apos : Pos} {e o : Expr} {es : List Expr} {t : TA} {ta : TE}
theorem pe_cal (c : Callee X.prog X.w X.K X.mg X.base k x ps dvs l S) (hr : Room k X.A) (hg : Gl X x) (ha : PA X (e :: es) t) (hdb : (x == ("__debug__" : Str)) = false := by decide) (he : starEach (e :: es) X.env = (false, eval e X.env) :: starEach es X.env := by rfl)
    (hpl : (backTo pos (starEach es X.env)).any (·.1) = false := by rfl) : PE X (.Call (.Name x p) (e :: es) [] pos) (tCall (spOf l S) dvs E0 t) := pe_call c.ok hr hg c.at_ c.kp c.b c.hd pass0 ha hdb he hpl
theorem pe_calM {pl : Sem Bool} (he : PE X o ta) (c : CalleeM X.prog X.w X.K X.mg X.base k C m ps dvs l S) (hr : Room k X.A) (ha : PA X (e :: es) t)
    (hst : starEach (e :: es) X.env = (false, eval e X.env) :: starEach es X.env := by rfl) (hpl : (backTo pos (starEach es X.env)).any (·.1) = false := by rfl)
    (ht : eval (.Call (.Attribute o m apos) (e :: es) [] pos) X.env = (do
      let ov ← eval o X.env
      standAt apos.atName
      let (f, first) ← holding [ov] (getMethod ov m pl)
      callWith pos f first (backTo pos (starEach (e :: es) X.env)) (backToKw pos (keywordEach [] X.env))) := by rfl) : PE X (.Call (.Attribute o m apos) (e :: es) [] pos) (tMeth C m (spOf l S) dvs E0 ta t) :=
  pe_meth (pl := pl) he c.cl c.at_ c.ok hr c.b c.hd pass0 ha hst hpl ht
theorem pe_calM0 {pl : Sem Bool} (he : PE X o ta) (c : CalleeM X.prog X.w X.K X.mg X.base k C m ps dvs l S) (hr : Room k X.A)
    (ht : eval (.Call (.Attribute o m apos) [] [] pos) X.env = (do
      let ov ← eval o X.env
      standAt apos.atName
      let (f, first) ← holding [ov] (getMethod ov m pl)
      callWith pos f first (backTo pos (starEach [] X.env)) (backToKw pos (keywordEach [] X.env))) := by rfl) : PE X (.Call (.Attribute o m apos) [] [] pos) (tMeth C m (spOf l S) dvs E0 ta tNil) :=
  pe_meth0 (pl := pl) he c.cl c.at_ c.ok hr c.b c.hd pass0 ht
end
theorem aa_none {L : Option Addr} {G : List SV} {k : List R → List SV → Prop} (h : k [] G) : AA L tNil G k := aa_nil h

/-! ### instances made -/
/-- __init__ of Face: two dicts copied -/
def spFace (C : Addr) : Sp := fun vs H Q _ => ∃ (p dx a1 a2 : Addr) (k1 k2 : List (Key × V)), vs = [.ref p, .ref a1, .ref a2] ∧ H p = some (.ins C dx []) ∧ Rd H a1 (.dK k1) ∧ Rd H a2 (.dK k2) ∧
  ∀ (H' : Hp) (p1 p2 : Addr), (∀ b o, H b = some o → b ≠ p → H' b = some o) → H' p = some (.ins C dx [("kinds", .ref p1), ("funs", .ref p2)]) → H p1 = none → H p2 = none → H' p1 = some (.dK k1) → H' p2 = some (.dK k2) → Q .non H'
/-- __init__ of Maker: a list copied, a thing kept -/
def spMaker (K : PySem.W.Frag) (C : Addr) : Sp := fun vs H Q _ => ∃ (p dx a1 : Addr) (x2 : V) (xs : List V), vs = [.ref p, .ref a1, x2] ∧ H p = some (.ins C dx []) ∧ SqL K H a1 xs ∧
  ∀ (H' : Hp) (p1 : Addr), (∀ b o, H b = some o → b ≠ p → H' b = some o) → H' p = some (.ins C dx [("formals", .ref p1), ("result", x2)]) → H p1 = none → H' p1 = some (.lst xs) → Q .non H'
section
variable {L : Option Addr} {G : List SV} {k : R → List SV → Prop}
theorem Ok.many {E : En} {W : Wd} {G : List SV} {σ : L2.St} {H H' : Hp} (ok : Ok E W G σ H) (hs : ∀ b o, H b = some o → H' b = some o) (N : Hp) (hN : ∀ b o, N b = some o → H b = none ∧ H' b = some o) :
    ∃ W', W.le W' ∧ Ok E W' G σ H' ∧ ∀ b o, N b = some o → W'.F b = some o := by
  have nF : ∀ b o, N b = some o → W.F b = none := fun b o e => (ok.ex.fresh (hN b o e).1).1
  refine ⟨⟨fun b => match N b with | some o => some o | none => W.F b, W.T⟩, ⟨fun b o e => ?_, fun b e => e⟩, ok.ext hs ⟨fun b o e => ?_, fun b e => e⟩ (fun b o e => ?_) (fun b e => .inl e) (fun b e => ?_), fun b o e => ?_⟩
  · show (match N b with | some o => some o | none => W.F b) = some o
    cases q : N b with
    | none => exact e
    | some u => rw [nF b u q] at e; cases e
  · show (match N b with | some o => some o | none => W.F b) = some o
    cases q : N b with
    | none => exact e
    | some u => rw [nF b u q] at e; cases e
  · have e : (match N b with | some o => some o | none => W.F b) = some o := e
    cases q : N b with
    | none => rw [q] at e; exact .inl e
    | some u =>
      rw [q] at e
      injection e with e
      subst e
      exact .inr (hN b u q)
  · show (match N b with | some o => some o | none => W.F b) = none
    cases q : N b with
    | none => exact ok.ex.apart b e
    | some u =>
      obtain ⟨f, n, y, _⟩ := ok.ex.deal b e
      rw [(hN b u q).1] at y; cases y
  · show (match N b with | some o => some o | none => W.F b) = some o
    rw [e]
theorem ae_face {C : Addr} {X : XK} {ta : TA} (h : AA L ta G fun rs G1 => ∃ r1 r2 ks ds fs es, rs = [r1, r2] ∧ con G1 r1 = some (.dK ks ds) ∧ con G1 r2 = some (.dK fs es) ∧ k (.v (.obj C ["kinds", "funs"] [.dK ks ds, .dK fs es])) G1) : AE L (tMake C (spFace C) [] X ta) G k := fun E eL W σ H ok Q q => by
  refine h E eL W σ H ok _ fun W1 H1 rs G1 xs l1 ok1 rx ⟨r1, r2, ks, ds, fs, es, e, c1, c2, k1⟩ => ?_
  subst e
  obtain ⟨x, y, rfl, q1, q2⟩ := rs2 rx
  obtain ⟨a1, kv1, rfl, h1, t1, t2, _, _⟩ := ok1.rdK q1 c1
  obtain ⟨a2, kv2, rfl, h2, u1, u2, _, _⟩ := ok1.rdK q2 c2
  intro p dx np nd ne
  have up : ∀ b o, H1 b = some o → upd (upd H1 dx (.own p)) p (.ins C dx []) b = some o := fun b o e => by rw [upd_ne (ne_of_none e np), upd_ne (ne_of_none e nd)]; exact e
  refine ⟨p, dx, a1, a2, kv1, kv2, rfl, upd_same, h1.elim (fun z => .inl (up _ _ z)) (fun ⟨o, z⟩ => .inr ⟨o, up _ _ z⟩), h2.elim (fun z => .inl (up _ _ z)) (fun ⟨o, z⟩ => .inr ⟨o, up _ _ z⟩), fun H' p1 p2 hs e0 n1 n2 e1 e2 => ⟨rfl, ?_⟩⟩
  have hs' : ∀ b o, H1 b = some o → H' b = some o := fun b o e => hs b o (up b o e) (ne_of_none e np)
  have n1' : H1 p1 = none := by
    cases z : H1 p1 with
    | none => rfl
    | some o => rw [up _ _ z] at n1; cases n1
  have n2' : H1 p2 = none := by
    cases z : H1 p2 with
    | none => rfl
    | some o => rw [up _ _ z] at n2; cases n2
  have d1 : p1 ≠ p := fun z => by rw [z, upd_same] at n1; cases n1
  have d2 : p2 ≠ p := fun z => by rw [z, upd_same] at n2; cases n2
  obtain ⟨W2, l2, ok2, f2⟩ := ok1.many hs' (fun b => if b = p ∨ b = p1 ∨ b = p2 then H' b else none) fun b o e => by
    by_cases z : b = p ∨ b = p1 ∨ b = p2
    · have e : (if b = p ∨ b = p1 ∨ b = p2 then H' b else none) = some o := e
      rw [if_pos z] at e
      refine ⟨?_, e⟩
      rcases z with z | z | z <;> rw [z] <;> assumption
    · have e : (if b = p ∨ b = p1 ∨ b = p2 then H' b else none) = some o := e
      rw [if_neg z] at e; cases e
  have g0 : W2.F p = some (.ins C dx [("kinds", .ref p1), ("funs", .ref p2)]) := f2 p _ (by show (if p = p ∨ p = p1 ∨ p = p2 then H' p else none) = _; rw [if_pos (.inl rfl)]; exact e0)
  have g1 : W2.F p1 = some (.dK kv1) := f2 p1 _ (by show (if p1 = p ∨ p1 = p1 ∨ p1 = p2 then H' p1 else none) = _; rw [if_pos (.inr (.inl rfl))]; exact e1)
  have g2 : W2.F p2 = some (.dK kv2) := f2 p2 _ (by show (if p2 = p ∨ p2 = p1 ∨ p2 = p2 then H' p2 else none) = _; rw [if_pos (.inr (.inr rfl))]; exact e2)
  exact q W2 H' _ G1 _ (l1.trans l2) ok2 (vR (.obj g0 rfl (.cons (.dK g1 t1 (Ats.mono l2 _ t2)) (.cons (.dK g2 u1 (Ats.mono l2 _ u2)) .nil)))) k1
theorem ae_maker {K : PySem.W.Frag} {C : Addr} {X : XK} {ta : TA} (h : AA L ta G fun rs G1 => ∃ r1 ds d2, rs = [r1, .v d2] ∧ con G1 r1 = some (.lst ds) ∧ k (.v (.obj C ["formals", "result"] [.lst ds, d2])) G1) : AE L (tMake C (spMaker K C) [] X ta) G k := fun E eL W σ H ok Q q => by
  refine h E eL W σ H ok _ fun W1 H1 rs G1 xs l1 ok1 rx ⟨r1, ds, d2, e, c1, k1⟩ => ?_
  subst e
  obtain ⟨x, y, rfl, q1, q2⟩ := rs2 rx
  obtain ⟨a1, ys, rfl, h1, t1, _⟩ := ok1.rdL q1 c1
  intro p dx np nd ne
  have up : ∀ b o, H1 b = some o → upd (upd H1 dx (.own p)) p (.ins C dx []) b = some o := fun b o e => by rw [upd_ne (ne_of_none e np), upd_ne (ne_of_none e nd)]; exact e
  refine ⟨p, dx, a1, y, ys, rfl, upd_same, SqL.of (up _ _ h1), fun H' p1 hs e0 n1 e1 => ⟨rfl, ?_⟩⟩
  have hs' : ∀ b o, H1 b = some o → H' b = some o := fun b o e => hs b o (up b o e) (ne_of_none e np)
  have n1' : H1 p1 = none := by
    cases z : H1 p1 with
    | none => rfl
    | some o => rw [up _ _ z] at n1; cases n1
  obtain ⟨W2, l2, ok2, f2⟩ := ok1.many hs' (fun b => if b = p ∨ b = p1 then H' b else none) fun b o e => by
    by_cases z : b = p ∨ b = p1
    · have e : (if b = p ∨ b = p1 then H' b else none) = some o := e
      rw [if_pos z] at e
      refine ⟨?_, e⟩
      rcases z with z | z <;> rw [z] <;> assumption
    · have e : (if b = p ∨ b = p1 then H' b else none) = some o := e
      rw [if_neg z] at e; cases e
  have g0 : W2.F p = some (.ins C dx [("formals", .ref p1), ("result", y)]) := f2 p _ (by show (if p = p ∨ p = p1 then H' p else none) = _; rw [if_pos (.inl rfl)]; exact e0)
  have g1 : W2.F p1 = some (.lst ys) := f2 p1 _ (by show (if p1 = p ∨ p1 = p1 then H' p1 else none) = _; rw [if_pos (.inr rfl)]; exact e1)
  exact q W2 H' _ G1 _ (l1.trans l2) ok2 (vR (.obj g0 rfl (.cons (.lst g1 (Ats.mono l2 _ t1)) (.cons (At.mono l2 _ q2) .nil)))) k1
end

/-! ### classes called -/
structure MakeC (P : Program) (w : World) (K : PySem.W.Frag) (mg : Str → Option Value) (base : Heap) (k : Nat) (x : Str) (C : Addr) (ps : List Str) (sp : Sp) where
  f : Addr
  fd : FuncData
  M : Mk K C f
  ok : FnOk P w K mg base CX0 k f fd ps sp
  at_ : mg x = some (.ref C)
  b : Binds K fd ps []
theorem pe_mk {X : Cx} {k : Nat} {x : Str} {C : Addr} {ps : List Str} {sp : Sp} {p pos : Pos} {e : Expr} {es : List Expr} {t : TA} (c : MakeC X.prog X.w X.K X.mg X.base k x C ps sp) (hr : Room (k + 1) X.A) (hg : Gl X x) (ha : PA X (e :: es) t) (hdb : (x == ("__debug__" : Str)) = false := by decide)
    (he : starEach (e :: es) X.env = (false, eval e X.env) :: starEach es X.env := by rfl) (hpl : (backTo pos (starEach es X.env)).any (·.1) = false := by rfl) : PE X (.Call (.Name x p) (e :: es) [] pos) (tMake C sp [] E0 t) := pe_make c.M c.ok hr hg c.at_ c.b .nil pass0 ha hdb he hpl

/-! ### {(a, b): v} -/
def tDispT (trs : List (TE × TE)) : TE := fun σ H Q => ∀ p, H p = none → tPairs trs σ (upd H p (.dT [])) fun ps H2 => H2 p = some (.dT []) ∧ ∃ (b : Addr) (k : List Key) (v : V), ps = [(.ref b, v)] ∧ H2 b = some (.tup (k.map kV)) ∧ Q (.ref p) (upd H2 p (.dT [(k, v)]))
theorem pe_dispT {X : Cx} {pos : Pos} {k v : Expr} {tk tv : TE} (hu : X.A.units + 2 < cLine) (hk : PE X k tk) (hv : PE X v tv) : PE X (.Dict [some k] [v] pos) (tDispT [(tk, tv)]) := by
  refine ⟨fun pins s σ H Q I q => ?_⟩
  have hn := I.hok.fresh (Nat.le_refl s.heap.objs.size)
  have I1 := I.laid (a := s.heap.objs.size) (o := .dT []) (h' := s.heap.push { cls := .type "dict", data := .dict #[] }) (t' := s.toks) (fun _ _ q => Heap.get?_push_of_some _ q) (Nat.le_refl _) (dt_empty s.heap I.big)
  have pp : PPs X pos [some k] [v] [(tk, tv)] := pps_cons hk hv pps_nil
  have hp := pairTrees_length [some k] [v] X.env pos rfl rfl
  have h0 : pairTrees [some k] [v] X.env pos ≠ [] := by intro z; rw [z] at hp; cases hp
  have hl : (pairTrees [some k] [v] X.env pos).length ≤ 15 := by rw [hp]; exact Nat.le_of_ble_eq_true rfl
  rw [arm_eval_Dict, zip_pairTrees [some k] [v] X.env pos rfl rfl, dictDisplay_pairs _ h0 (by omega)]
  refine wpAny_bind (wpAny_standAt (wpAny_bind ?_))
  refine wpAny_subDictH (knd := tupleKind (mixKind X.prog X.w)) (by show X.A.units < cLine; omega) hl ?_
  refine thn (pp.run pins _ σ _ _ I1 (q _ hn)) fun ws s2 ⟨ps, H2, I2, rel, e, b, kk, x, ep, hb, q2⟩ => ?_
  subst ep
  cases rel with
  | @cons p0 uw ps0 us0 r1 r2 =>
    cases r2
    obtain ⟨u, y⟩ := uw
    obtain ⟨ru, ry⟩ := r1
    have ru : u = .ref b := ru
    subst ru
    obtain ⟨z, hd, xs, r0, dd⟩ := dt_of I2.hok e
    cases r0
    refine ⟨[(kk, b, y)], ⟨rfl, rfl, key_of I2.hok hb, True.intro⟩, dd, fun h' tk' dk hs => wpAny_pure ⟨.ref s.heap.objs.size, _, ?_, rfl, q2⟩⟩
    obtain ⟨q, es, ep, hq, h2, h3, h4, h4', h5⟩ := dk
    refine d_write (t' := tk') I2 (by rw [e]; exact True.intro) hs ⟨q, hq⟩ ⟨Nat.le_of_ble_eq_true rfl, hd, [(kk, b, y)], .cons ⟨rfl, ?_, ry⟩ .nil, q, es, ep, hq, h2, h3, h4, h5⟩
    rw [upd_ne (ne_of hb e (fun z => nomatch z))]
    exact hb
theorem ae_disp1 {L : Option Addr} {G : List SV} {k : R → List SV → Prop} {s t : Str} {i j : Nat} {d : D} (e1 : G[i]? = some (.fr (.raw (.str t)))) (e2 : G[j]? = some (.fr d)) (h : k (.o (.dT [(s, t)] [d])) G) :
    AE L (tDispT [(tTup (tCons (tC (.str s)) (tCons (tVar i) tNil)), tVar j)]) G k := fun E eL W σ H ok Q q => by
  obtain ⟨s1, f1, v1, rfl, a1⟩ := ok.slot i _ e1
  obtain ⟨s2, f2, v2, rfl, a2⟩ := ok.slot j _ e2
  cases At.raw_eq a1
  intro p hp
  refine ⟨.str t, f1, Nat.le_of_ble_eq_true rfl, fun b hb => ⟨v2, f2, ?_, b, kT (s, t), v2, rfl, upd_same, ?_⟩⟩
  · have ne : p ≠ b := fun z => by rw [z, upd_same] at hb; cases hb
    rw [upd_ne ne, upd_same]
  · have ne : b ≠ p := fun z => by rw [z, upd_same] at hb; cases hb
    have hb' : H b = none := by rw [upd_ne ne] at hb; exact hb
    have e : upd (upd (upd H p (.dT [])) b (.tup [.str s, .str t])) p (.dT [(kT (s, t), v2)]) = upd (upd H b (.tup [.str s, .str t])) p (.dT [(kT (s, t), v2)]) := by
      funext c
      by_cases h1 : c = p
      · subst h1; rw [upd_same, upd_same]
      · rw [upd_ne h1, upd_ne h1]
        by_cases h2 : c = b
        · subst h2; rw [upd_same, upd_same]
        · rw [upd_ne h2, upd_ne h2, upd_ne h1]
    rw [e]
    have ok1 : Ok E W G σ (upd H b (.tup [.str s, .str t])) := ok.new hb'
    have hp1 : upd H b (.tup [.str s, .str t]) p = none := by rw [upd_ne (fun z => ne z.symm)]; exact hp
    exact q W _ _ G _ .rfl (ok1.new hp1) (ok1.freshR (ob := .dT [(kT (s, t), v2)]) (d := .dT [(s, t)] [d]) hp1 ⟨rfl, .cons a2 .nil⟩) h
end Q
-- text QA
set_option Elab.async false
set_option linter.all false
/-! Layer Q, part 10: rules whose frame is told. -/
namespace Q
open PySem PySem.Spec PyProof.Rows L2
section
variable {X : Cx} {K : PySem.W.Frag}
theorem op_eqDk (hK : X.K = K) (hu : X.A.units + 64 < cLine) : OpR X (compareOp .Eq) (rEqD K) := by subst hK; exact op_eqD hu
theorem op_neDk (hK : X.K = K) (hu : X.A.units + 64 < cLine) : OpR X (compareOp .NotEq) (rNeD K) := by subst hK; exact op_neD hu
theorem op_in_seqk (hK : X.K = K) : OpR X (compareOp .In) (rIn K false) := by subst hK; exact op_in_seq
theorem op_notIn_seqk (hK : X.K = K) : OpR X (compareOp .NotIn) (rIn K true) := by subst hK; exact op_notIn_seq
theorem ix_listk (hK : X.K = K) : IxR X (rIxL K) := by subst hK; exact ix_list
theorem ix_tupk (hK : X.K = K) : IxR X (rIxT K) := by subst hK; exact ix_tup
theorem pe_fldk {e : Expr} {f : Str} {pos : Pos} {ta : TE} (hK : X.K = K) (he : PE X e ta) (hb : attributeBase e f X.env (eval e X.env) = eval e X.env) : PE X (.Attribute e f pos) (tFld K ta f) := by subst hK; exact pe_fld he hb
end
theorem hu2_of {A : Around} {k : Nat} (hr : Room k A) : A.units + 2 < cLine := by have := hr.un; omega
end Q
-- text QB
set_option Elab.async false
set_option linter.all false
set_option maxRecDepth 100000
set_option maxHeartbeats 1000000
/-! Layer Q, part 11: the script, deals, texts. -/
namespace Q
open PySem PySem.Spec PyProof.Rows L2
section
variable {L : Option Addr} {G : List SV} {k : R → List SV → Prop} {Z : Az}
/-- a new list of two ints becomes a deal -/
theorem Ok.mkDeal {E : En} {W : Wd} {G : List SV} {σ : L2.St} {H : Hp} {f n : Int} {x : V} (h : Ok E W G σ H) (r : ROk E W G σ H (.o (.lst [.raw (.int f), .raw (.int n)])) x) (hn : DealOk n) : ∃ W', W.le W' ∧ Ok E W' G σ H ∧ At W' x .deal := by
  obtain ⟨a, ob, rfl, e, t, fF, nt, n0, ap⟩ := r
  obtain ⟨ys, rfl, ty⟩ := t.lst
  have e1 : ys = [.int f, .int n] := raws (vs := [.int f, .int n]) ty
  subst e1
  have le : W.le ⟨W.F, fun b => W.T b ∨ b = a⟩ := ⟨fun b o q => q, fun b q => .inl q⟩
  refine ⟨⟨W.F, fun b => W.T b ∨ b = a⟩, le, ⟨?_, h.len, fun i g eg => ?_, h.dis⟩, .deal (.inr rfl)⟩
  · have x := h.ex
    refine ⟨x.leW.trans le, x.newF, fun b q => ?_, fun b q => ?_, x.sub, fun b q => ?_, x.frm, x.dom, x.lk⟩
    · rcases q with q | rfl
      · exact x.newT b q
      · exact .inr n0
    · rcases q with q | rfl
      · exact x.apart b q
      · exact fF
    · rcases q with q | rfl
      · exact x.deal b q
      · exact ⟨f, n, e, hn⟩
  · obtain ⟨s, e1, e2⟩ := h.slot i g eg
    refine ⟨s, e1, ?_⟩
    have nT : ∀ {c : Addr}, g.isPl = true → s = some (.ref c) → ¬ W.T c → ¬ (W.T c ∨ c = a) := fun {c} pl es nc q => by
      rcases q with q | rfl
      · exact nc q
      · exact ap i g eg pl (by rw [e1, es])
    cases g with
    | no => exact True.intro
    | fr d => obtain ⟨v, e, r⟩ := e2; exact ⟨v, e, At.mono le _ r⟩
    | own d => obtain ⟨c, e, r, f', t', n', k⟩ := e2; exact ⟨c, e, fun z => let ⟨o, y1, y2⟩ := r z; ⟨o, y1, y2.mono le⟩, f', nT rfl e t', n', k⟩
    | mt c d => obtain ⟨e, r, f', t', n', k⟩ := e2; exact ⟨e, fun z => let ⟨o, y1, y2⟩ := r z; ⟨o, y1, y2.mono le⟩, f', nT rfl e t', n', k⟩
    | rd d => obtain ⟨c, o, e, r, t', n'⟩ := e2; exact ⟨c, o, e, r, t'.mono le, nT rfl e n'⟩
theorem as_retDeal {te : TE} (h : AE L te G fun r G1 => ∃ f n : Int, r = .o (.lst [.raw (.int f), .raw (.int n)]) ∧ DealOk n ∧ Z.rt (.v .deal) G1) : AS L (tRet te) G Z := fun E eL W σ H ok D z =>
  h E eL W σ H ok _ fun W1 H1 r1 G1 x l1 ok1 rx ⟨f, n, e, hn, k1⟩ => by
    subst e
    obtain ⟨W2, l2, ok2, a2⟩ := ok1.mkDeal rx hn
    exact z.rt W2 σ H1 G1 (.v .deal) x (l1.trans l2) ok2 a2 k1
theorem scr_at {K : PySem.W.Frag} {E : En} {W : Wd} {G : List SV} {σ : L2.St} {H : Hp} {ns : List Int} {x : V} (ok : Ok E W G σ H) (eL : E.L = none) (h : At W x (.scr K ns)) : ∃ a, x = .ref a ∧ SqL K H a (ns.map V.int) := by
  cases h with
  | scr f =>
    refine ⟨_, rfl, f H fun o e => ?_⟩
    rcases ok.ex.sub _ o e with z | z
    · exact z.2
    · rw [eL] at z; cases z.1
theorem ac_lenS {K : PySem.W.Frag} {ns : List Int} (hL : L = none) (h : k (.v (.raw (.int (ns.length : Nat)))) G) : AC L (fun xs H Q => ∃ p ys, xs = [.ref p] ∧ (SqL K H p ys ∨ SqT K H p ys) ∧ Q (.int ys.length) H) [.v (.scr K ns)] G k := fun E eL W σ H xs ok rx Q q => by
  obtain ⟨x, rfl, rx1⟩ := rs1 rx
  obtain ⟨a, rfl, hx⟩ := scr_at ok (eL.trans hL) rx1
  refine ⟨a, _, rfl, .inl hx, ?_⟩
  rw [List.length_map]
  exact q W H _ G _ .rfl ok rawR h
theorem ar_ixC {K : PySem.W.Frag} {ns : List Int} {i n : Int} (hL : L = none) (e : atI ns i = some n) (h : k (.v (.raw (.int n))) G) : AR L (rIxL K) (.v (.scr K ns)) (.v (.raw (.int i))) G k := fun E eL W σ H x y ok rx ry Q q => by
  cases At.raw_eq ry
  obtain ⟨a, rfl, hx⟩ := scr_at ok (eL.trans hL) rx
  refine ⟨a, _, i, .int n, rfl, rfl, hx, ?_, q W H _ G _ .rfl ok rawR h⟩
  unfold atI at e ⊢
  rw [List.length_map]
  cases z : ixN ns.length i with
  | none => rw [z] at e; cases e
  | some j =>
    rw [z] at e
    have e : ns[j]? = some n := e
    show (ns.map V.int)[j]? = some (V.int n)
    rw [List.getElem?_map, e]; rfl
theorem ac_min2 {i j : Int} (h : k (.v (.raw (.int (if j < i then j else i)))) G) : AC L (fun xs H Q => ∃ i j, xs = [.int i, .int j] ∧ Q (.int (if j < i then j else i)) H) [.v (.raw (.int i)), .v (.raw (.int j))] G k := fun E eL W σ H xs ok rx Q q => by
  obtain ⟨x, y, rfl, r1, r2⟩ := rs2 rx
  cases At.raw_eq r1
  cases At.raw_eq r2
  exact ⟨i, j, rfl, q W H _ G _ .rfl ok rawR h⟩
theorem ac_intB {b : Bool} (h : k (.v (.raw (.int (if b then 1 else 0)))) G) : AC L (fun xs H Q => (∃ i, xs = [.int i] ∧ Q (.int i) H) ∨ ∃ k, xs = [.bl k] ∧ Q (.int (if k then 1 else 0)) H) [.v (.raw (.bl b))] G k := fun E eL W σ H xs ok rx Q q => by
  obtain ⟨x, rfl, rx1⟩ := rs1 rx
  cases At.raw_eq rx1
  exact .inr ⟨b, rfl, q W H _ G _ .rfl ok rawR h⟩
theorem as_forR3 {ta : TA} {g : TG} {tb : TS} (h : AA L ta G fun rs G1 => ∃ (i j c : Int) (n : Nat), rs = [.v (.raw (.int i)), .v (.raw (.int j)), .v (.raw (.int c))] ∧ RgC i j c n ∧ ∃ Iv : Nat → List SV → Prop, (∃ G', Wk G1 G' ∧ Iv 0 G') ∧
    (∀ m G, m < n → Iv m G → AG L g (.v (.raw (.int (i + (m : Int) * c)))) G fun G2 => AS L tb G2 (Lz Z (Iv (m + 1)))) ∧ ∀ G, Iv n G → Z.nx G) : AS L (tFor (iRng3 ta) g tb) G Z := fun E eL W σ H ok D z => by
  refine h E eL W σ H ok _ fun W1 H1 rs G1 xs l1 ok1 rx ⟨i, j, c, n, e, hn, Iv, ⟨G1', w1, i0⟩, hs, hd⟩ => ?_
  subst e
  cases rx with
  | cons q1 rr =>
    obtain ⟨y2, y3, rfl, q2, q3⟩ := rs2 rr
    cases At.raw_eq q1
    cases At.raw_eq q2
    cases At.raw_eq q3
    refine ⟨i, j, c, n, rfl, hn, ?_⟩
    exact for_rangeC (lo := i) (n := n) (fun i => Lp E W1 (Iv i)) ⟨W1, G1', .rfl, ok1.wk w1, i0⟩ (fun m σ' H' hi ⟨W', G', l', ok', iv⟩ => loop_turn eL z l1 l' (hs m G' hi iv) ok' rawR) fun σ' H' ⟨W', G', l', ok', iv⟩ => z.nx W' σ' H' G' (l1.trans l') ok' (hd G' iv)
theorem rg17 : ∀ a : Fin 40, ∀ b : Fin 64, Builtin.Range.small (a.val : Int) (b.val : Int) 17 = true ∧ (Builtin.Range.rangeSize (a.val : Int) (b.val : Int) 17).toNat ≤ 4 ∧ ∀ i : Fin 4, i.val < (Builtin.Range.rangeSize (a.val : Int) (b.val : Int) 17).toNat → (a.val : Int) + (i.val : Int) * 17 < (b.val : Int) := by decide +kernel
theorem rgc17 {a b : Nat} (ha : a < 40) (hb : b < 64) : ∃ n : Nat, RgC (a : Int) (b : Int) 17 n ∧ n ≤ 4 ∧ ∀ i, i < n → (a : Int) + (i : Int) * 17 < (b : Int) := by
  obtain ⟨h1, h2, h3⟩ := rg17 ⟨a, ha⟩ ⟨b, hb⟩
  refine ⟨(Builtin.Range.rangeSize (a : Int) (b : Int) 17).toNat, ⟨by decide, by decide, h1, rangeSize_toNat _ _ _⟩, h2, fun i hi => h3 ⟨i, Nat.lt_of_lt_of_le hi h2⟩ hi⟩
/-- ''.join(list) -/
theorem ae_join {K : PySem.W.Frag} {to te : TE} (h : AE L to G fun r1 G1 => ∃ a : Str, r1 = .v (.raw (.str a)) ∧ AE L te G1 fun r2 G2 => ∃ ys : List Str, con G2 r2 = some (.lst ((ys.map V.str).map .raw)) ∧ (ys.map (·.length)).sum + ys.length * a.length ≤ 16777216 ∧ k (.v (.raw (.str (Txt.join a ys)))) G2) :
    AE L (tM1 (fun x xs H Q => ∃ a p, ∃ ys : List Str, x = .str a ∧ xs = [.ref p] ∧ (SqL K H p (ys.map V.str) ∨ SqT K H p (ys.map V.str)) ∧ (ys.map (·.length)).sum + ys.length * a.length ≤ 16777216 ∧ Q (.str (Txt.join a ys)) H) to te) G k := fun E eL W σ H ok Q q => by
  refine h E eL W σ H ok _ fun W1 H1 r1 G1 x l1 ok1 rx ⟨a, e, k1⟩ => ?_
  subst e
  cases At.raw_eq rx
  refine ⟨⟨a, rfl⟩, k1 E eL W1 σ H1 ok1 _ fun W2 H2 r2 G2 y l2 ok2 ry ⟨ys, c, hl, k2⟩ => ?_⟩
  obtain ⟨b, xs, rfl, hx, t, _⟩ := ok2.rdL ry c
  have e := raws t
  subst e
  exact ⟨a, b, ys, rfl, rfl, .inl (SqL.of hx), hl, q W2 H2 _ G2 _ (l1.trans l2) ok2 rawR k2⟩
/-- letters.index(sign) -/
theorem ae_index {K : PySem.W.Frag} {to : TE} {ta : TA} (h : AE L to G fun r1 G1 => ∃ a : Str, r1 = .v (.raw (.str a)) ∧ AA L ta G1 fun rs G2 => ∃ (b : Str) (i : Nat) (rest : List Nat), rs = [.v (.raw (.str b))] ∧ Builtin.Str.occurrences a b 0 a.length 1 = i :: rest ∧ k (.v (.raw (.int (i : Nat)))) G2) :
    AE L (tBM K "str" (fun x xs H Q => ∃ a b i rest, x = .str a ∧ xs = [.str b] ∧ Builtin.Str.occurrences a b 0 a.length 1 = i :: rest ∧ Q (.int (i : Nat)) H) to ta) G k := fun E eL W σ H ok Q q => by
  refine h E eL W σ H ok _ fun W1 H1 r1 G1 x l1 ok1 rx ⟨a, e, k1⟩ => ?_
  subst e
  cases At.raw_eq rx
  refine ⟨rfl, k1 E eL W1 σ H1 ok1 _ fun W2 H2 rs G2 xs l2 ok2 rxs ⟨b, i, rest, e, ho, k2⟩ => ?_⟩
  subst e
  obtain ⟨y, rfl, ry⟩ := rs1 rxs
  cases At.raw_eq ry
  exact ⟨a, b, i, rest, rfl, rfl, ho, q W2 H2 _ G2 _ (l1.trans l2) ok2 rawR k2⟩
/-- word[1:] -/
theorem ae_from1 {te : TE} (h : AE L te G fun r1 G1 => ∃ z : Str, r1 = .v (.raw (.str z)) ∧ z.length ≤ 100000 ∧ k (.v (.raw (.str (cutS z (some 1) none)))) G1) : AE L (tSl rSlS te (tPart (tC (.int 1))) tNoPart) G k := fun E eL W σ H ok Q q => by
  refine h E eL W σ H ok _ fun W1 H1 r1 G1 x l1 ok1 rx ⟨z, e, hz, k1⟩ => ?_
  subst e
  cases At.raw_eq rx
  exact ⟨1, rfl, z, rfl, Nat.le_trans hz (by decide), q W1 H1 _ G1 _ l1 ok1 rawR k1⟩
end
theorem occ26 : ∀ c : Fin 26, Builtin.Str.occurrences "abcdefghijklmnopqrstuvwxyz" ⟨#[97 + c.val]⟩ 0 26 1 = [c.val] := by decide +kernel
end Q
-- text M1
set_option Elab.async false
/-! The mathematics, part 1: kinds, faces. -/
namespace Q
open PySem

inductive Kd where
  | num (n : Int)
  | pair (a b : Kd)
  | nm (q t : Str)
  deriving DecidableEq
abbrev Gv := List ((Str × Str) × Kd)
/-- an association list's first value -/
def look {κ α : Type} [DecidableEq κ] : List (κ × α) → κ → Option α
  | [], _ => none
  | (k, v) :: r, t => if k = t then some v else look r t
def Kd.words : Kd → Nat
  | .pair a b => 1 + a.words + b.words
  | _ => 1
def Kd.dep : Kd → Nat
  | .pair a b => 1 + max a.dep b.dep
  | _ => 0
def Kd.put (g : Gv) : Kd → Kd
  | .pair a b => .pair (a.put g) (b.put g)
  | .nm q t => (look g (q, t)).getD (.nm q t)
  | .num n => .num n
/-- a function's kinds -/
abbrev Sg := List Kd × Kd
def Sg.put (g : Gv) (s : Sg) : Sg := (s.1.map (Kd.put g), s.2.put g)
structure Fc where
  kinds : List (Str × Kd)
  funs : List (Str × Sg)
def Fc.put (g : Gv) (f : Fc) : Fc := ⟨f.kinds.map fun p => (p.1, p.2.put g), f.funs.map fun p => (p.1, Sg.put g p.2)⟩
/-- texts that the data may hold -/
def okS (s : Str) : Bool := s.cps.all (· < 0x110000) && decide (s.length ≤ 1000)
def Kd.ok : Kd → Bool
  | .pair a b => a.ok && b.ok
  | .nm q t => okS q && okS t
  | .num _ => true
theorem Kd.dep_le : ∀ k : Kd, k.dep < k.words
  | .num _ => Nat.zero_lt_one
  | .nm _ _ => Nat.zero_lt_one
  | .pair a b => by
    have h1 := a.dep_le
    have h2 := b.dep_le
    show 1 + max a.dep b.dep < 1 + a.words + b.words
    omega
/-- the names of a kind, noted behind those that are there -/
def noteN : Kd → List (Str × Str) → List (Str × Str)
  | .pair a b, fs => noteN b (noteN a fs)
  | .nm q t, fs => if (q, t) ∈ fs then fs else fs ++ [(q, t)]
  | .num _, fs => fs
def namesK (k : Kd) : List (Str × Str) := noteN k []
/-- kinds put in for all names -/
def Kd.sub (φ : Str → Str → Kd) : Kd → Kd
  | .pair a b => .pair (a.sub φ) (b.sub φ)
  | .nm q t => φ q t
  | .num n => .num n
/-- all names are such -/
def Kd.All (p : Str → Str → Prop) : Kd → Prop
  | .pair a b => a.All p ∧ b.All p
  | .nm q t => p q t
  | .num _ => True
theorem noteN_len : ∀ (k : Kd) (fs : List (Str × Str)), (noteN k fs).length ≤ fs.length + k.words
  | .pair a b, fs => by
    have h1 := noteN_len a fs
    have h2 := noteN_len b (noteN a fs)
    show (noteN b (noteN a fs)).length ≤ fs.length + (1 + a.words + b.words)
    omega
  | .nm q t, fs => by
    show (if (q, t) ∈ fs then fs else fs ++ [(q, t)]).length ≤ fs.length + 1
    split
    · omega
    · simp
  | .num _, fs => Nat.le_add_right _ _
theorem noteN_mem : ∀ (k : Kd) (fs : List (Str × Str)) (p : Str × Str), p ∈ noteN k fs → p ∈ fs ∨ (∀ P : Str → Str → Prop, k.All P → P p.1 p.2)
  | .pair a b, fs, p, h => by
    rcases noteN_mem b (noteN a fs) p h with h | h
    · rcases noteN_mem a fs p h with h | h
      · exact .inl h
      · exact .inr fun P q => h P q.1
    · exact .inr fun P q => h P q.2
  | .nm q t, fs, p, h => by
    have h : p ∈ (if (q, t) ∈ fs then fs else fs ++ [(q, t)]) := h
    split at h
    · exact .inl h
    · rcases List.mem_append.mp h with h | h
      · exact .inl h
      · have e := List.mem_singleton.mp h
        subst e
        exact .inr fun P q => q
  | .num _, fs, p, h => .inl h
theorem noteN_sub : ∀ (k : Kd) (fs : List (Str × Str)) (p : Str × Str), p ∈ fs → p ∈ noteN k fs
  | .pair a b, fs, p, h => noteN_sub b _ p (noteN_sub a fs p h)
  | .nm q t, fs, p, h => by
    show p ∈ (if (q, t) ∈ fs then fs else fs ++ [(q, t)])
    split
    · exact h
    · exact List.mem_append.mpr (.inl h)
  | .num _, fs, p, h => h
theorem noteN_nd : ∀ (k : Kd) (fs : List (Str × Str)), fs.Nodup → (noteN k fs).Nodup
  | .pair a b, fs, h => noteN_nd b _ (noteN_nd a fs h)
  | .nm q t, fs, h => by
    show (if (q, t) ∈ fs then fs else fs ++ [(q, t)]).Nodup
    split
    · exact h
    · rename_i n
      refine List.nodup_append.mpr ⟨h, by simp, fun a ha b hb => ?_⟩
      have hb := List.mem_singleton.mp hb
      rintro rfl
      exact n (by rw [← hb]; exact ha)
  | .num _, fs, h => h
theorem noteN_all : ∀ (k : Kd) (fs : List (Str × Str)), k.All fun q t => (q, t) ∈ noteN k fs
  | .pair a b, fs => by
    have mono : ∀ (k : Kd) {p q : Str → Str → Prop}, (∀ x y, p x y → q x y) → k.All p → k.All q := fun k => by
      induction k with
      | num => intro p q _ h; exact h
      | nm => intro p q f h; exact f _ _ h
      | pair a b iha ihb => intro p q f h; exact ⟨iha f h.1, ihb f h.2⟩
    exact ⟨mono a (fun x y h => noteN_sub b _ (x, y) h) (noteN_all a fs), noteN_all b (noteN a fs)⟩
  | .nm q t, fs => by
    show (q, t) ∈ (if (q, t) ∈ fs then fs else fs ++ [(q, t)])
    split
    · assumption
    · exact List.mem_append.mpr (.inr (List.mem_singleton.mpr rfl))
  | .num _, _ => True.intro
theorem Kd.All.mono : ∀ (k : Kd) {p q : Str → Str → Prop}, (∀ x y, p x y → q x y) → k.All p → k.All q
  | .num _, _, _, _, h => h
  | .nm _ _, _, _, f, h => f _ _ h
  | .pair a b, _, _, f, h => ⟨Kd.All.mono a f h.1, Kd.All.mono b f h.2⟩
theorem Kd.All.and : ∀ (k : Kd) {p q : Str → Str → Prop}, k.All p → k.All q → k.All fun x y => p x y ∧ q x y
  | .num _, _, _, _, _ => True.intro
  | .nm _ _, _, _, h, g => ⟨h, g⟩
  | .pair a b, _, _, h, g => ⟨Kd.All.and a h.1 g.1, Kd.All.and b h.2 g.2⟩
theorem Kd.sub_congr : ∀ (k : Kd) {φ ψ : Str → Str → Kd}, k.All (fun q t => φ q t = ψ q t) → k.sub φ = k.sub ψ
  | .num _, _, _, _ => rfl
  | .nm _ _, _, _, h => h
  | .pair a b, _, _, h => by
    show Kd.pair _ _ = Kd.pair _ _
    rw [Kd.sub_congr a h.1, Kd.sub_congr b h.2]
theorem Kd.put_sub : ∀ (k : Kd) (g : Gv), k.put g = k.sub fun q t => (look g (q, t)).getD (.nm q t)
  | .num _, _ => rfl
  | .nm _ _, _ => rfl
  | .pair a b, g => by
    show Kd.pair _ _ = Kd.pair _ _
    rw [Kd.put_sub a g, Kd.put_sub b g]
theorem look_map {κ α : Type} [DecidableEq κ] (f : κ → α) : ∀ (l : List κ) (t : κ), look (l.map fun x => (x, f x)) t = if t ∈ l then some (f t) else none
  | [], t => by simp [look]
  | x :: l, t => by
    show (if x = t then some (f x) else look (l.map fun x => (x, f x)) t) = _
    by_cases h : x = t
    · subst h; simp
    · rw [if_neg h, look_map f l t]
      by_cases m : t ∈ l
      · rw [if_pos m, if_pos (List.mem_cons_of_mem _ m)]
      · rw [if_neg m, if_neg (fun z => (List.mem_cons.mp z).elim (fun e => h e.symm) m)]
/-- the names' values, as a dict built name by name -/
def gOf (φ : Str → Str → Kd) (ns : List (Str × Str)) : Gv := ns.map fun p => (p, φ p.1 p.2)
theorem put_gOf (k : Kd) (φ : Str → Str → Kd) : k.put (gOf φ (namesK k)) = k.sub φ := by
  rw [Kd.put_sub]
  refine Kd.sub_congr k (Kd.All.mono k (fun q t h => ?_) (noteN_all k []))
  have e := look_map (fun p : Str × Str => φ p.1 p.2) (namesK k) (q, t)
  have h : (q, t) ∈ namesK k := h
  rw [if_pos h] at e
  show (look (gOf φ (namesK k)) (q, t)).getD (.nm q t) = φ q t
  unfold gOf
  rw [e]
  rfl
/-- what a name is, by own kinds and by parts -/
def lkN (own : List (Str × Kd)) (parts : List (Str × Fc)) (q t : Str) : Option Kd := if q = "" then look own t else (look parts q).bind fun f => look f.kinds t
def nφ (own : List (Str × Kd)) (parts : List (Str × Fc)) (q t : Str) : Kd := (lkN own parts q t).getD (.nm q t)
theorem map_get {α β : Type} {f : α → β} {l : List α} {i : Nat} {d : β} (h : (l.map f)[i]? = some d) : ∃ x, l[i]? = some x ∧ d = f x := by
  rw [List.getElem?_map] at h
  cases e : l[i]? with
  | none => rw [e] at h; cases h
  | some x => rw [e] at h; exact ⟨x, rfl, (Option.some.inj h).symm⟩
theorem take_more {α : Type} {l : List α} {i : Nat} {x : α} (h : l[i]? = some x) : l.take (i + 1) = l.take i ++ [x] := by
  rw [List.take_add_one, h]
  rfl
theorem look_mem {κ α : Type} [DecidableEq κ] : ∀ {l : List (κ × α)} {t : κ} {v : α}, look l t = some v → (t, v) ∈ l
  | [], _, _, h => by cases h
  | (k, w) :: l, t, v, h => by
    have h : (if k = t then some w else look l t) = some v := h
    by_cases e : k = t
    · subst e
      rw [if_pos rfl] at h
      injection h with h
      subst h
      exact List.mem_cons_self ..
    · rw [if_neg e] at h
      exact List.mem_cons_of_mem _ (look_mem h)
theorem look_key {κ α : Type} [DecidableEq κ] {l : List (κ × α)} {t : κ} {v : α} (h : look l t = some v) : t ∈ l.map (·.1) := List.mem_map.mpr ⟨_, look_mem h, rfl⟩
theorem look_none {κ α : Type} [DecidableEq κ] : ∀ {l : List (κ × α)} {t : κ}, t ∉ l.map (·.1) → look l t = none
  | [], _, _ => rfl
  | (k, w) :: l, t, h => by
    show (if k = t then some w else look l t) = none
    rw [if_neg (fun e => h (by rw [← e]; exact List.mem_cons_self ..))]
    exact look_none fun m => h (List.mem_cons_of_mem _ m)
theorem nd_take {α : Type} {l : List α} (h : l.Nodup) {i : Nat} {x : α} (e : l[i]? = some x) : x ∉ l.take i := fun m => by
  have e2 : l = l.take i ++ (x :: l.drop (i + 1)) := by
    have hl := (List.getElem?_eq_some_iff.mp e)
    obtain ⟨hi, hx⟩ := hl
    rw [← hx, ← List.drop_eq_getElem_cons hi, List.take_append_drop]
  rw [e2] at h
  exact (List.nodup_append.mp h).2.2 _ m _ (List.mem_cons_self ..) rfl
theorem Kd.ok_all : ∀ (k : Kd), k.ok = true → k.All fun q t => okS q = true ∧ okS t = true
  | .num _, _ => True.intro
  | .nm q t, h => by
    have h : (okS q && okS t) = true := h
    rw [Bool.and_eq_true] at h
    exact h
  | .pair a b, h => by
    have h : (a.ok && b.ok) = true := h
    rw [Bool.and_eq_true] at h
    exact ⟨a.ok_all h.1, b.ok_all h.2⟩
end Q
-- text M2
set_option Elab.async false
set_option linter.all false
/-! The mathematics, part 2: what the program's functions compute. -/
namespace Q
open PySem
def Kd.B (k : Kd) : Prop := k.words ≤ 40 ∧ k.ok = true
structure Fc.B (f : Fc) : Prop where
  nk : (f.kinds.map (·.1)).Nodup
  nf : (f.funs.map (·.1)).Nodup
  lk : f.kinds.length ≤ 1000
  lf : f.funs.length ≤ 1000
  k : ∀ p ∈ f.kinds, okS p.1 = true ∧ p.2.B
  f : ∀ p ∈ f.funs, p.2.1.length ≤ 1000 ∧ (∀ a ∈ p.2.1, a.B) ∧ p.2.2.B
theorem Kd.B.dep {k : Kd} (h : k.B) : k.dep < 100 := by have := k.dep_le; have := h.1; omega
def hidK (l : List (Str × Kd)) : List Str := (l.filter fun p => decide (p.2 = .nm "" p.1)).map (·.1)
def putK (g : Gv) (l : List (Str × Kd)) : List (Str × Kd) := l.map fun p => (p.1, p.2.put g)
def putF (g : Gv) (l : List (Str × Sg)) : List (Str × Sg) := l.map fun p => (p.1, Sg.put g p.2)
theorem Fc.put_def (g : Gv) (f : Fc) : f.put g = ⟨putK g f.kinds, putF g f.funs⟩ := rfl
theorem putK_keys (g : Gv) (l : List (Str × Kd)) : (putK g l).map (·.1) = l.map (·.1) := by unfold putK; rw [List.map_map]; rfl
theorem putF_keys (g : Gv) (l : List (Str × Sg)) : (putF g l).map (·.1) = l.map (·.1) := by unfold putF; rw [List.map_map]; rfl
theorem putK_more {g : Gv} {l : List (Str × Kd)} {i : Nat} {t : Str} {k : Kd} (h : l[i]? = some (t, k)) : putK g (l.take (i + 1)) = putK g (l.take i) ++ [(t, k.put g)] := by
  rw [take_more h]; unfold putK; rw [List.map_append]; rfl
theorem putF_more {g : Gv} {l : List (Str × Sg)} {i : Nat} {t : Str} {s : Sg} (h : l[i]? = some (t, s)) : putF g (l.take (i + 1)) = putF g (l.take i) ++ [(t, Sg.put g s)] := by
  rw [take_more h]; unfold putF; rw [List.map_append]; rfl
theorem key_take {α : Type} {l : List (Str × α)} (h : (l.map (·.1)).Nodup) {i : Nat} {t : Str} {x : α} (e : l[i]? = some (t, x)) : t ∉ (l.take i).map (·.1) := by
  have e2 : (l.map (·.1))[i]? = some t := by rw [List.getElem?_map, e]; rfl
  have := nd_take h e2
  rw [List.map_take]; exact this
theorem look_nd {κ α : Type} [DecidableEq κ] : ∀ {l : List (κ × α)} (h : (l.map (·.1)).Nodup) {t : κ} {v : α}, (t, v) ∈ l → look l t = some v
  | [], _, _, _, m => by cases m
  | (k, w) :: l, h, t, v, m => by
    show (if k = t then some w else look l t) = some v
    have h' : (k :: l.map (·.1)).Nodup := h
    rw [List.nodup_cons] at h'
    rcases List.mem_cons.mp m with e | e
    · injection e with e1 e2
      subst e1; subst e2
      rw [if_pos rfl]
    · rw [if_neg]
      · exact look_nd h'.2 e
      · rintro rfl
        exact h'.1 (List.mem_map.mpr ⟨_, e, rfl⟩)
theorem hidK_more {l : List (Str × Kd)} {i : Nat} {t : Str} {k : Kd} (h : l[i]? = some (t, k)) : hidK (l.take (i + 1)) = if k = .nm "" t then hidK (l.take i) ++ [t] else hidK (l.take i) := by
  rw [take_more h]
  unfold hidK
  rw [List.filter_append, List.map_append]
  by_cases e : k = .nm "" t
  · rw [if_pos e]
    have : ([(t, k)] : List (Str × Kd)).filter (fun p => decide (p.2 = .nm "" p.1)) = [(t, k)] := by simp [e]
    rw [this]; rfl
  · rw [if_neg e]
    have : ([(t, k)] : List (Str × Kd)).filter (fun p => decide (p.2 = .nm "" p.1)) = [] := by simp [e]
    rw [this]; simp
theorem hidK_len (l : List (Str × Kd)) : (hidK l).length ≤ l.length := by unfold hidK; rw [List.length_map]; exact List.length_filter_le ..
theorem hidK_mem {l : List (Str × Kd)} {t : Str} : t ∈ hidK l ↔ (t, .nm "" t) ∈ l := by
  unfold hidK
  constructor
  · intro h
    obtain ⟨p, hp, rfl⟩ := List.mem_map.mp h
    obtain ⟨h1, h2⟩ := List.mem_filter.mp hp
    have h2 := of_decide_eq_true h2
    obtain ⟨a, b⟩ := p
    have h2 : b = .nm "" a := h2
    subst h2
    exact h1
  · intro h
    exact List.mem_map.mpr ⟨_, List.mem_filter.mpr ⟨h, decide_eq_true rfl⟩, rfl⟩
theorem hidK_nd {l : List (Str × Kd)} (h : (l.map (·.1)).Nodup) : (hidK l).Nodup := by
  unfold hidK
  exact (List.Sublist.map _ (List.filter_sublist)).nodup h
def hideG (q : Str) (f : Fc) : Gv := (hidK f.kinds).map fun t => (("", t), .nm q t)
def hidF (q : Str) (f : Fc) : Fc := f.put (hideG q f)
def refN (f : Fc) (ws : List (Str × Kd)) : Fc := ws.foldl (fun f p => f.put [(("", p.1), p.2)]) f
theorem refN_more {f : Fc} {ws : List (Str × Kd)} {i : Nat} {t : Str} {k : Kd} (h : ws[i]? = some (t, k)) : refN f (ws.take (i + 1)) = (refN f (ws.take i)).put [(("", t), k)] := by
  rw [take_more h]; unfold refN; rw [List.foldl_append]; rfl
structure RefOk (f : Fc) (ws : List (Str × Kd)) : Prop where
  b : f.B
  s : ∀ i t k, ws[i]? = some (t, k) → t ∈ hidK (refN f (ws.take i)).kinds ∧ (refN f (ws.take (i + 1))).B
theorem RefOk.at {f : Fc} {ws : List (Str × Kd)} (h : RefOk f ws) : ∀ i, i ≤ ws.length → (refN f (ws.take i)).B
  | 0, _ => by rw [List.take_zero]; exact h.b
  | i + 1, hi => by
    have e : ws[i]? = some ws[i] := List.getElem?_eq_getElem (by omega)
    exact (h.s i _ _ e).2
def fitG (had want : Fc) : Gv := (hidK want.kinds).map fun t => (("", t), (look had.kinds t).getD (.num 0))
structure Fits (had want : Fc) : Prop where
  k : ∀ p ∈ want.kinds, look had.kinds p.1 = some (p.2.put (fitG had want))
  f : ∀ p ∈ want.funs, look had.funs p.1 = some (Sg.put (fitG had want) p.2)
def Fc.app (f g : Fc) : Fc := ⟨f.kinds ++ g.kinds, f.funs ++ g.funs⟩
inductive It where
  | kind (t : Str) (k : Kd)
  | opn (x : Str)
  | fn (t : Str) (ps : List (Str × Kd)) (r : Kd)
abbrev Parts := List (Str × Fc)
structure NOk (k : Kd) (own : List (Str × Kd)) (parts : Parts) : Prop where
  b : k.B
  all : k.All fun q t => (lkN own parts q t).isSome = true
  r : (k.sub (nφ own parts)).B
def itN (parts : Parts) (f : Fc) : It → Fc
  | .kind t k => ⟨f.kinds ++ [(t, k.sub (nφ f.kinds parts))], f.funs⟩
  | .opn x => f.app ((look parts x).getD ⟨[], []⟩)
  | .fn t ps r => ⟨f.kinds, f.funs ++ [(t, (ps.map fun p => p.2.sub (nφ f.kinds parts), r.sub (nφ f.kinds parts)))]⟩
def itOk (parts : Parts) (f : Fc) : It → Prop
  | .kind t k => t ∉ f.kinds.map (·.1) ∧ NOk k f.kinds parts
  | .opn x => ∃ g, look parts x = some g ∧ ((f.kinds ++ g.kinds).map (·.1)).Nodup ∧ ((f.funs ++ g.funs).map (·.1)).Nodup ∧ g.kinds.length ≤ 1000 ∧ g.funs.length ≤ 1000
  | .fn t ps r => t ∉ f.funs.map (·.1) ∧ ps.length ≤ 1000 ∧ (∀ p ∈ ps, NOk p.2 f.kinds parts) ∧ NOk r f.kinds parts
def fullN (parts : Parts) (its : List It) : Fc := its.foldl (itN parts) ⟨[], []⟩
theorem fullN_more {parts : Parts} {its : List It} {i : Nat} {it : It} (h : its[i]? = some it) : fullN parts (its.take (i + 1)) = itN parts (fullN parts (its.take i)) it := by
  rw [take_more h]; unfold fullN; rw [List.foldl_append]; rfl
structure FullOk (parts : Parts) (its : List It) : Prop where
  s : ∀ i it, its[i]? = some it → itOk parts (fullN parts (its.take i)) it
  l : ∀ i, (fullN parts (its.take i)).kinds.length ≤ 1000 ∧ (fullN parts (its.take i)).funs.length ≤ 1000
abbrev Sl := Option (Str × List (Str × Kd))
def norK (own : List (Str × Kd)) (parts : Parts) (l : List (Str × Kd)) : List (Str × Kd) := l.map fun p => (p.1, p.2.sub (nφ own parts))
theorem norK_more {own : List (Str × Kd)} {parts : Parts} {l : List (Str × Kd)} {i : Nat} {t : Str} {k : Kd} (h : l[i]? = some (t, k)) : norK own parts (l.take (i + 1)) = norK own parts (l.take i) ++ [(t, k.sub (nφ own parts))] := by
  rw [take_more h]; unfold norK; rw [List.map_append]; rfl
/-- what `wanted` answers -/
def wantN (faces parts : Parts) : Sl → Option Fc
  | none => none
  | some (w, ws) => (look faces w).map fun f => refN f (norK [] parts ws)
def WantOk (faces parts : Parts) : Sl → Prop
  | none => True
  | some (w, ws) => ws.length ≤ 1000 ∧ (∀ p ∈ ws, NOk p.2 [] parts) ∧ ∃ f, look faces w = some f ∧ RefOk f (norK [] parts ws)
/-- what `seen_face` answers -/
def seenN (full : Fc) (want : Option Fc) (part : Str) : Fc := match want with
  | none => full
  | some w => hidF part w
def SeenOk (full : Fc) (want : Option Fc) (part : Str) : Prop := match want with
  | none => True
  | some w => w.B ∧ Fits full w ∧ (hidF part w).B
/-- `maker_of` -/
def stepM (faces : Parts) (known : Parts) (s : Sl) : Fc := (wantN faces known s).getD ⟨[], []⟩
def mkS (faces : Parts) (st : Parts × List (Str × Fc)) (r : Str × Sl) : Parts × List (Str × Fc) := (st.1 ++ [(r.1, hidF r.1 (stepM faces st.1 r.2))], st.2 ++ [(r.1, stepM faces st.1 r.2)])
def mkN (faces parts : Parts) (rows : List (Str × Sl)) : Parts × List (Str × Fc) := rows.foldl (mkS faces) (parts, [])
theorem mkN_more {faces parts : Parts} {rows : List (Str × Sl)} {i : Nat} {r : Str × Sl} (h : rows[i]? = some r) : mkN faces parts (rows.take (i + 1)) = mkS faces (mkN faces parts (rows.take i)) r := by
  rw [take_more h]; unfold mkN; rw [List.foldl_append]; rfl
/-- `made_face` -/
def mdS (known : Gv) (p : (Str × Fc) × Fc) : Gv := known ++ (hidK p.1.2.kinds).map fun t => ((p.1.1, t), (look (fitG p.2 (p.1.2.put known)) ("", t)).getD (.num 0))
def mdN (ps : List ((Str × Fc) × Fc)) : Gv := ps.foldl mdS []
theorem mdN_more {ps : List ((Str × Fc) × Fc)} {i : Nat} {p : (Str × Fc) × Fc} (h : ps[i]? = some p) : mdN (ps.take (i + 1)) = mdS (mdN (ps.take i)) p := by
  rw [take_more h]; unfold mdN; rw [List.foldl_append]; rfl
end Q
-- text QC
set_option Elab.async false
set_option linter.all false
set_option maxRecDepth 100000
set_option maxHeartbeats 2000000
/-! Layer Q, part 12: tuple(d.items()), list(d.items()). -/
namespace Q
open PySem PySem.Spec PyProof.Rows L2 PySem.Calls
section
variable {prog : Program} {w : World} {K : Type} [DecidableEq K] {knd : KeyKind prog w K}
theorem meets_tuple_items {r d : Addr} {kvs : List (K × Value)} {ep : Nat} : MeetsIn prog w (Builtin.«tuple.__new__» ⟨[.type "tuple", .ref r], []⟩) (fun A R s => A.handled = none ∧ s.heap.IsItemsView r d ∧ s.heap.DictAt knd d kvs ep ∧ kvs.length ≤ sizeLine ∧
    ∀ (h' : Heap) (tk : Nat) (as : List Addr), (∀ b o, s.heap.get? b = some o → h'.get? b = some o) → as.length = kvs.length → PySem.W.KdxG knd kvs s.heap.objs.size h' as → R (.ok (.ret (.ref h'.objs.size))) { s with heap := h'.push { cls := .type "tuple", data := .seq (as.map Value.ref).toArray }, toks := tk }) :=
  .of_wp fun A R s h => by
    obtain ⟨hp, g, dr, tk, os⟩ := s
    obtain ⟨hh, hv, hm, hn, h⟩ := h
    have hsub := sub_tuple_self
    have hinit := init_tuple_lookup
    have hmh := madeHere_tuple
    obtain ⟨o, ho, hc, hd⟩ := id hv
    have hT : Shared.TypeIs ⟨hp, g, dr, tk, os⟩ (.ref r) "dict_items" := ⟨o, ho, hc⟩
    have hh' : A.in1.handled = none := hh
    wp_walk using AutoSeq1.wpAny_loadPart' ho, wpAny_typeOf hT, PySem.W.kdx_collect (knd := knd) hh' hv hm hn
    intro h' tk' as k1 k2 k3
    show wpAny _ _ (Builtin.Tuple.tupleExact (as.map Value.ref).toArray >>= fun v => ret v) _ _ _
    unfold Builtin.Tuple.tupleExact
    refine wpAny_bind (wpAny_newObj_type ?_ (by show (as.map Value.ref).toArray.size ≤ sizeLine; simp; omega))
    exact wpAny_pure ⟨_, rfl, h h' tk' as k1 k2 k3⟩
theorem call_tuple_items {A : Around} {E : Value → Shared → Prop} {s : Shared} {Q : Value → Shared → Prop} {r d : Addr} {kvs : List (K × Value)} {ep : Nat} (hh : A.handled = none) (hv : s.heap.IsItemsView r d) (hm : s.heap.DictAt knd d kvs ep) (hn : kvs.length ≤ sizeLine)
    (h : ∀ (h' : Heap) (tk : Nat) (as : List Addr), (∀ b o, s.heap.get? b = some o → h'.get? b = some o) → as.length = kvs.length → PySem.W.KdxG knd kvs s.heap.objs.size h' as → Q (.ref h'.objs.size) { s with heap := h'.push { cls := .type "tuple", data := .seq (as.map Value.ref).toArray }, toks := tk }) :
    wpAny (model prog w) A (call (.type "tuple") [.ref r]) Q E s :=
  callType_newIn F.called_tuple (by decide) (F.typeCall_tuple_1 _) (F.newCall_tuple_1 _) (fun obj => F.args_object_init_2 obj _) F.entry_tuple_new meets_tuple_items
    ⟨hh, hv, hm, hn, fun h' tk as k1 k2 k3 => ⟨⟨_, Heap.get?_push_size _ rfl, rfl⟩, h h' tk as k1 k2 k3⟩⟩
end
section
variable {X : Cx} {e : Expr} {te : TE} {p apos cpos pos : Pos}
theorem items_laid2 {pins : List (Addr × Obj)} {σ : L2.St} {H : Hp} {s : Shared} {h' : Heap} {tk : Nat} {kvs : List (L2.Key × V)} {vs : List (L2.Key × Value)} {as : List Addr} (I : Inv X pins σ H s) (kv : KV kvs vs)
    (hk : ∀ b o, s.heap.get? b = some o → h'.get? b = some o) (hl : as.length = vs.length) (hG : PySem.W.KdxG (mixKind X.prog X.w) vs s.heap.objs.size h' as) :
    ∃ H' : Hp, (∀ b o, H b = some o → H' b = some o) ∧ (∀ t ∈ as, H t = none) ∧ (∀ b, s.heap.objs.size ≤ b → b ∉ as → H' b = none) ∧ Paired (fun (t : Addr) (q : L2.Key × V) => H' t = some (.tup [kV q.1, q.2])) as kvs ∧ Inv X pins σ H' { s with heap := h', toks := tk } := by
  have lk : kvs.length = vs.length := Paired.length kv
  have nd : as.Nodup := List.Pairwise.imp (fun {a b} (h : a < b) => Nat.ne_of_lt h) hG.rise
  have new : ∀ t ∈ as, H t = none := fun t ht => I.hok.fresh (Nat.le_of_lt (hG.above t ht))
  have atP := LiI.putT_at as kvs H (by omega) nd
  have off : ∀ b, b ∉ as → LiI.putT H as kvs b = H b := fun b h1 => LiI.putT_off as kvs _ h1
  have low : ∀ b o, s.heap.get? b = some o → b ∉ as := fun b o e z => absurd (Heap.lt_size e) (Nat.not_lt.mpr (Nat.le_of_lt (hG.above b z)))
  have kp : ∀ b u, H b = some u → (LiI.putT H as kvs) b = some u := fun b u e => by
    rw [off b (fun z => by rw [new b z] at e; cases e)]
    exact e
  refine ⟨LiI.putT H as kvs, kp, new, fun b hb nb => by rw [off b nb]; exact I.hok.fresh hb, atP, ?_⟩
  refine I.call' (ch := []) rfl ⟨fun b o q _ _ _ => hk b o q, fun b o q _ _ _ => ⟨o.slots, hk b o q⟩, fun b o q n _ => ?_, fun b o q _ => ⟨o, hk b o q⟩, fun b xs q => kp b _ q, fun b o u q => kp b _ q, fun b ps q => ⟨#[], by rw [kp b _ q]; simp⟩⟩ (fun b u q => ?_) I.bare fun b z => by simp at z
  · rw [off b (low b o q)]
    exact n
  · by_cases hb : b ∈ as
    · obtain ⟨j, pk, e1, e2, e3⟩ := LiI.paired_ix atP hb
      rw [e3] at q
      cases q
      obtain ⟨key, k, x, f1, f2, f3⟩ := hG.pairs j b e1
      obtain ⟨qv, g1, g2, g3⟩ := LiI.paired_get kv e2
      rw [f1] at g1
      cases g1
      have rk : RelV (kV pk.1) key := by
        rw [g2]
        exact relV_key (show keyIs k key = true from f2)
      exact ⟨by show 2 ≤ sizeLine; decide, [key, x], .cons rk (.cons g3 .nil), ⟨_, f3, rfl, _, rfl⟩⟩
    · rw [off b hb] at q
      exact (I.hok b u q).stay (fun d v _ y => hk d v y) (fun d y => kp d _ y) fun d xs y => kp d _ y
/-- a sequence of a dict's entries, new -/
def rItemsS (o : List V → HO) : V → Hp → VK → Prop := fun x H Q => ∃ (d : Addr) (kvs : List (L2.Key × V)), x = .ref d ∧ H d = some (.dK kvs) ∧
  ∀ (H' : Hp) (p : Addr) (ts : List Addr), (∀ b o, H b = some o → H' b = some o) → H p = none → (∀ t ∈ ts, H t = none) → p ∉ ts → H' p = some (o (ts.map V.ref)) → Paired (fun (t : Addr) (q : L2.Key × V) => H' t = some (.tup [kV q.1, q.2])) ts kvs → Q (.ref p) H'
def tItemsS (o : List V → HO) (te : TE) : TE := fun σ H Q => te σ H fun x H1 => rItemsS o x H1 Q
theorem pe_tupleItems (hc : X.calm = true) (he : PE X e te) (hg : Gl X "tuple") (hm : X.mg "tuple" = none) (hv : bootBuiltins "tuple" = some (.type "tuple")) (hbase : attributeBase e "items" X.env (eval e X.env) = eval e X.env := by rfl) (hline : (apos.endLine == cpos.line) = true := by rfl)
    (hs : starEach [.Call (.Attribute e "items" apos) [] [] cpos] X.env = (false, eval (.Call (.Attribute e "items" apos) [] [] cpos) X.env) :: starEach [] X.env := by rfl) :
    PE X (.Call (.Name "tuple" p) [.Call (.Attribute e "items" apos) [] [] cpos] [] pos) (tItemsS .tup te) := by
  refine ⟨fun pins s σ H Q I hq => ?_⟩
  refine wpAny_Call_Name_kw (ld_blt I hg hm hv ?_)
  refine PyProof.Rows.callWith_type1 ?_ hs rfl
  rw [hs]
  show wpAny _ _ (spliced ((false, eval (.Call (.Attribute e "items" apos) [] [] cpos) X.env) :: backTo pos (starEach [] X.env))) _ _ s
  refine Calls.spliced_cons ?_
  refine wpAny_Call_method (T := "dict") (id := "dict.items") hbase rfl hline F.plainAttrs_dict F.slot_dict_items F.type_dict_items (thn (he.run pins s σ H _ I hq) fun u s1 ⟨x, H1, I1, rx, d, kvs, ex, hd, q⟩ => ?_)
  subst ex
  obtain rfl : u = Value.ref d := rx
  obtain ⟨hz, hs0, vs, kv, hdo⟩ := I1.hok d _ hd
  obtain ⟨ep, hat⟩ := hdo.dictAt
  have lk : kvs.length = vs.length := Paired.length kv
  have I2 : Inv X pins σ H1 { s1 with heap := s1.heap.push { cls := .type "dict_items", data := .fields #[.ref d] } } := I1.kept (t' := s1.toks) fun b ob q => Heap.get?_push_of_some _ q
  refine ⟨hdo.typeIs, hdo.mapOf.noDict, ?_⟩
  show wpAny _ _ (callWith cpos (.builtin "dict.items") [.ref d] [] []) _ X.xe s1
  refine method_meetsIn F.slot_dict_items F.entry_dict_items rfl (PySem.evalArgs_none ⟨rfl, hdo.typeIs, F.args_dict_items_1 _, _, meets_dict_items (mixKind X.prog X.w) d hs0, ⟨vs, hdo⟩, ?_⟩)
  refine Calls.spliced_nil ?_
  refine call_tuple_items (knd := mixKind X.prog X.w) (kvs := vs) (ep := ep) (I1.ok.hd hc) ⟨_, Heap.get?_push_size _ rfl, rfl, rfl⟩ (hat.push _) (by omega) fun h' tk as hk hl hG => ?_
  obtain ⟨H', k1, k3, k4, k6, J⟩ := items_laid2 (tk := tk) I2 kv hk hl hG
  have le : (s1.heap.push { cls := .type "dict_items", data := .fields #[.ref d] }).objs.size ≤ h'.objs.size := by
    have h1 : s1.heap.objs.size < h'.objs.size := Heap.lt_size (hk _ _ (Heap.get?_push_size _ rfl))
    rw [Heap.size_push]
    exact h1
  have nas : h'.objs.size ∉ as := fun z => absurd (hG.there z) (Nat.lt_irrefl _)
  have hn' : H' h'.objs.size = none := k4 _ le nas
  have hn1 : H1 h'.objs.size = none := by
    cases z : H1 h'.objs.size with
    | none => rfl
    | some o => rw [k1 _ _ z] at hn'; cases hn'
  have J2 := J.laid (a := h'.objs.size) (o := .tup (as.map V.ref)) (h' := h'.push { cls := .type "tuple", data := .seq (as.map Value.ref).toArray }) (t' := tk) (fun _ _ q => Heap.get?_push_of_some _ q) (Nat.le_refl _)
    ⟨by rw [List.length_map]; omega, as.map Value.ref, LiI.vals_refs as, ⟨_, Heap.get?_push_size _ rfl, rfl, _, rfl⟩⟩
  refine ⟨.ref _, _, J2, rfl, q _ h'.objs.size as (fun b o eb => ?_) hn1 k3 nas upd_same ?_⟩
  · rw [upd_ne (fun z => by rw [z, hn1] at eb; cases eb)]
    exact k1 b o eb
  · have : ∀ {ts : List Addr} {ks : List (L2.Key × V)}, (∀ t ∈ ts, t ∈ as) → Paired (fun (t : Addr) (q : L2.Key × V) => H' t = some (.tup [kV q.1, q.2])) ts ks → Paired (fun (t : Addr) (q : L2.Key × V) => upd H' h'.objs.size (.tup (as.map V.ref)) t = some (.tup [kV q.1, q.2])) ts ks := by
      intro ts ks hin h
      induction h with
      | nil => exact .nil
      | cons r t ih => exact .cons (by rw [upd_ne (fun z => nas (by rw [← z]; exact hin _ (List.mem_cons_self ..)))]; exact r) (ih fun t ht => hin t (List.mem_cons_of_mem _ ht))
    exact this (fun t h => h) k6
theorem tListItems_eq (te : TE) : LiI.tListItems te = tItemsS .lst te := rfl
end
section
variable {L : Option Addr} {G : List SV} {k : R → List SV → Prop}
theorem pairs_at {W : Wd} : ∀ {ts : List Addr} {kvs : List (L2.Key × V)} {ks : List Str} {ds : List D}, Paired (fun (t : Addr) (q : L2.Key × V) => W.F t = some (.tup [kV q.1, q.2])) ts kvs → kvs.map (·.1) = ks.map kK → Ats W (kvs.map (·.2)) ds → Ats W (ts.map V.ref) (prD ks ds)
  | [], [], [], [], .nil, _, .nil => .nil
  | t :: ts, kv :: kvs, k :: ks, d :: ds, .cons r h, e, .cons a b => by
    rw [List.map_cons, List.map_cons] at e
    injection e with e1 e2
    have r : W.F t = some (.tup [kV kv.1, kv.2]) := r
    rw [e1] at r
    exact .cons (.tup r (.cons (.raw _) (.cons a .nil))) (pairs_at h e2 b)
theorem ae_itemsS {o : List V → HO} {c : List D → D} (ho : ∀ (W : Wd) (a : Addr) (xs : List V) (ds : List D), W.F a = some (o xs) → Ats W xs ds → At W (.ref a) (c ds)) {te : TE} (hL : L = none)
    (h : AE L te G fun r G1 => ∃ ks ds, con G1 r = some (.dK ks ds) ∧ k (.v (c (prD ks ds))) G1) : AE L (tItemsS o te) G k := fun E eL W σ H ok Q q => by
  refine h E eL W σ H ok _ fun W1 H1 r G1 x l1 ok1 rx ⟨ks, ds, c1, k1⟩ => ?_
  obtain ⟨a, kvs, rfl, h1, t1, t2, t3, _⟩ := ok1.rdK rx c1
  refine ⟨a, kvs, rfl, t3 (eL.trans hL), fun H' p ts hs n1 n2 n3 e1 e2 => ?_⟩
  obtain ⟨W2, l2, ok2, f2⟩ := ok1.many hs (fun b => if b = p ∨ b ∈ ts then H' b else none) fun b u e => by
    by_cases z : b = p ∨ b ∈ ts
    · have e : (if b = p ∨ b ∈ ts then H' b else none) = some u := e
      rw [if_pos z] at e
      refine ⟨?_, e⟩
      rcases z with z | z
      · rw [z]; exact n1
      · exact n2 b z
    · have e : (if b = p ∨ b ∈ ts then H' b else none) = some u := e
      rw [if_neg z] at e; cases e
  have g0 : W2.F p = some (o (ts.map V.ref)) := f2 p _ (by show (if p = p ∨ p ∈ ts then H' p else none) = _; rw [if_pos (.inl rfl)]; exact e1)
  have g1 : Paired (fun (t : Addr) (q : L2.Key × V) => W2.F t = some (.tup [kV q.1, q.2])) ts kvs := by
    have : ∀ {ts' : List Addr} {ks' : List (L2.Key × V)}, (∀ t ∈ ts', t ∈ ts) → Paired (fun (t : Addr) (q : L2.Key × V) => H' t = some (.tup [kV q.1, q.2])) ts' ks' → Paired (fun (t : Addr) (q : L2.Key × V) => W2.F t = some (.tup [kV q.1, q.2])) ts' ks' := by
      intro ts' ks' hin h
      induction h with
      | nil => exact .nil
      | @cons t' q' _ _ r t ih =>
        refine .cons (f2 t' _ ?_) (ih fun t ht => hin t (List.mem_cons_of_mem _ ht))
        show (if t' = p ∨ t' ∈ ts then H' t' else none) = _
        rw [if_pos (.inr (hin _ (List.mem_cons_self ..)))]
        exact r
    exact this (fun t h => h) e2
  exact q W2 H' (.v (c (prD ks ds))) G1 _ (l1.trans l2) ok2 (ho W2 p _ _ g0 (pairs_at g1 t1 (Ats.mono l2 _ t2))) k1
theorem ae_tupI {te : TE} (hL : L = none) (h : AE L te G fun r G1 => ∃ ks ds, con G1 r = some (.dK ks ds) ∧ k (.v (.tup (prD ks ds))) G1) : AE L (tItemsS .tup te) G k := ae_itemsS (c := .tup) (fun _ _ _ _ e a => .tup e a) hL h
theorem ae_lstI {te : TE} (hL : L = none) (h : AE L te G fun r G1 => ∃ ks ds, con G1 r = some (.dK ks ds) ∧ k (.v (.lst (prD ks ds))) G1) : AE L (LiI.tListItems te) G k := ae_itemsS (c := .lst) (fun _ _ _ _ e a => .lst e a) hL h
end
end Q
-- text QD
set_option Elab.async false
set_option linter.all false
set_option maxRecDepth 100000
set_option maxHeartbeats 1000000
/-! Layer Q, part 13: {word: v, ..}. -/
namespace Q
open PySem PySem.Spec PyProof.Rows L2
theorem Ok.scratchO {E : En} {W : Wd} {G : List SV} {σ : L2.St} {H : Hp} {D : Addr} {o o' : HO} (h : Ok E W G σ H) (e : H D = some o) (nf : ∀ od u, o ≠ .frz od u) (f : W.F D = none) (t : ¬ W.T D) (n : E.H D = none)
    (ap : ∀ (j : Nat) (g : SV), G[j]? = some g → g.isPl = true → σ[j]? ≠ some (some (.ref D))) : Ok E W G σ (upd H D o') := by
  have x := h.ex
  have nl : E.L ≠ some D := x.nolk e nf
  have rdl : ∀ {b : Addr} {u : HO}, b ≠ D → RdL E.L H b u → RdL E.L (upd H D o') b u := fun {b u} ne q => by
    rcases q with q | ⟨q, od, q2⟩
    · exact .inl ⟨q.1, by rw [upd_ne ne]; exact q.2⟩
    · exact .inr ⟨q, od, by rw [upd_ne ne]; exact q2⟩
  refine ⟨⟨x.leW, x.newF, x.newT, x.apart, fun b u q => rdl (fun z => by rw [z, f] at q; cases q) (x.sub b u q), fun b q => ?_, fun b u q h1 h2 => ?_, fun b u q => ?_, fun b q => ?_⟩, h.len, fun j gj ej => ?_, h.dis⟩
  · obtain ⟨p, m, y, w⟩ := x.deal b q
    exact ⟨p, m, by rw [upd_ne (fun z => t (by rw [← z]; exact q))]; exact y, w⟩
  · rw [upd_ne (fun z => by rw [z, n] at q; cases q)]
    exact x.frm b u q h1 h2
  · rw [upd_ne (fun z => by rw [z, n] at q; cases q)]
    exact x.dom b u q
  · obtain ⟨od, u, y, z⟩ := x.lk b q
    exact ⟨od, u, by rw [upd_ne (fun w => nl (by rw [q, w]))]; exact y, z⟩
  · obtain ⟨s, q1, q2⟩ := h.slot j gj ej
    refine ⟨s, q1, ?_⟩
    have na : ∀ {c : Addr}, gj.isPl = true → s = some (.ref c) → c ≠ D := fun {c} pl es z => ap j gj ej pl (by rw [q1, es, z])
    cases gj with
    | no => exact True.intro
    | fr => exact q2
    | own d1 =>
      obtain ⟨c, es, y, f', nt', n', o1, k⟩ := q2
      have nc := na rfl es
      exact ⟨c, es, fun _ => let ⟨o, y1, y2⟩ := y (by simp); ⟨o, by rw [upd_ne nc]; exact y1, y2⟩, f', nt', n', o1, by rw [upd_ne nc]; exact k⟩
    | mt c d1 =>
      obtain ⟨es, y, f', nt', n', o1, k⟩ := q2
      have nc := na rfl es
      exact ⟨es, fun _ => let ⟨o, y1, y2⟩ := y (by simp); ⟨o, by rw [upd_ne nc]; exact y1, y2⟩, f', nt', n', o1, by rw [upd_ne nc]; exact k⟩
    | rd d1 =>
      obtain ⟨c, o1, es, y, t1, n'⟩ := q2
      exact ⟨c, o1, es, rdl (na rfl es) y, t1, n'⟩
/-- the pairs of a display: words, frozen values -/
def AP (L : Option Addr) : List (TE × TE) → List SV → (List Str → List D → List SV → Prop) → Prop
  | [], G, k => k [] [] G
  | (tk, tv) :: r, G, k => AE L tk G fun r1 G1 => ∃ s, r1 = .v (.raw (.str s)) ∧ AE L tv G1 fun r2 G2 => ∃ d, fz r2 = .v d ∧ AP L r G2 fun ks ds G3 => k (s :: ks) (d :: ds) G3
theorem ap_run {L : Option Addr} : ∀ (trs : List (TE × TE)) (G : List SV) (k : List Str → List D → List SV → Prop), AP L trs G k → ∀ (E : En), E.L = L → ∀ (W : Wd) (σ : L2.St) (H : Hp), Ok E W G σ H → ∀ (Q : List (V × V) → Hp → Prop),
    (∀ (W' : Wd) (H' : Hp) (kvs : List (Key × V)) (ks : List Str) (ds : List D) (G' : List SV), W.le W' → Ok E W' G' σ H' → kvs.map (·.1) = ks.map kK → Ats W' (kvs.map (·.2)) ds → k ks ds G' → Q (kvs.map fun kv => (kV kv.1, kv.2)) H') → tPairs trs σ H Q
  | [], G, k, h, E, eL, W, σ, H, ok, Q, q => q W H [] [] [] G .rfl ok rfl .nil h
  | (tk, tv) :: r, G, k, h, E, eL, W, σ, H, ok, Q, q => by
    have h : AE L tk G _ := h
    refine h E eL W σ H ok _ fun W1 H1 r1 G1 x l1 ok1 rx ⟨s, e1, h2⟩ => ?_
    subst e1
    cases At.raw_eq rx
    refine h2 E eL W1 σ H1 ok1 _ fun W2 H2 r2 G2 y l2 ok2 ry ⟨d, ed, h3⟩ => ?_
    obtain ⟨W3, l3, ok3, az⟩ := fz_v ok2 ry ed
    refine ap_run r G2 _ h3 E eL W3 σ H2 ok3 _ fun W4 H4 kvs ks ds G4 l4 ok4 ek ts hk => ?_
    have := q W4 H4 ((kK s, y) :: kvs) (s :: ks) (d :: ds) G4 (l1.trans (l2.trans (l3.trans l4))) ok4 (by rw [List.map_cons, List.map_cons, ek]) (.cons (At.mono l4 _ az) ts) hk
    exact this
theorem ae_disp {L : Option Addr} {G : List SV} {k : R → List SV → Prop} {trs : List (TE × TE)} (h : AP L trs G fun ks ds G' => shp G' = shp G ∧ ks.Nodup ∧ ks.length ≤ 15 ∧ k (.o (.dK ks ds)) G') : AE L (tDisp trs) G k := fun E eL W σ H ok Q q => by
  intro p hp
  obtain ⟨f, t⟩ := ok.ex.fresh hp
  have ok1 : Ok E W G σ (upd H p (.dK [])) := ok.new hp
  have ap : ∀ (j : Nat) (g : SV), G[j]? = some g → g.isPl = true → σ[j]? ≠ some (some (.ref p)) := fun j g e pl z => by
    obtain ⟨a, o, e1, e2, _⟩ := ok.place e pl
    rw [e1] at z
    injection z with z
    injection z with z
    injection z with z
    rw [z, hp] at e2
    cases e2
  have okp := ok1.pin upd_same f t ap
  refine ap_run trs G _ h (E.pin p (.dK [])) eL W σ _ okp _ fun W' H' kvs ks ds G' l ok' ek ts ⟨sh, nd, l15, hk⟩ => ?_
  obtain ⟨ok8, h8, f8, t8⟩ := ok'.unpin (ok.ex.newH hp) f t ok.ex.leW
  have ap' : ∀ (j : Nat) (g : SV), G'[j]? = some g → g.isPl = true → σ[j]? ≠ some (some (.ref p)) := fun j g e pl => by
    obtain ⟨g', e', t'⟩ := shp_get sh e
    exact ap j g' e' (tag_pl t' pl)
  have em : mergeK [] kvs = kvs := by
    rw [merge_nd]
    · rfl
    · rw [List.nil_append, ek]
      exact List.Pairwise.map kK (fun a b hab z => hab (kK_inj z)) nd
  refine ⟨h8, kvs, rfl, ?_, ?_⟩
  · have := congrArg List.length ek
    rw [List.length_map, List.length_map] at this
    omega
  · rw [em]
    have ok9 : Ok E W' G' σ (upd H' p (.dK kvs)) := ok8.scratchO h8 (fun od u z => nomatch z) f8 t8 (ok.ex.newH hp) ap'
    have rr : ROk E W' G' σ (upd H' p (.dK kvs)) (.o (.dK ks ds)) (.ref p) := ⟨p, .dK kvs, rfl, upd_same, ⟨ek, ts⟩, f8, t8, ok.ex.newH hp, ap'⟩
    exact q W' _ _ G' _ l ok9 rr hk
theorem ap_nil {L : Option Addr} {G : List SV} {k : List Str → List D → List SV → Prop} (h : k [] [] G) : AP L [] G k := h
theorem ap_cons {L : Option Addr} {G : List SV} {k : List Str → List D → List SV → Prop} {tk tv : TE} {r : List (TE × TE)} (h : AE L tk G fun r1 G1 => ∃ s, r1 = .v (.raw (.str s)) ∧ AE L tv G1 fun r2 G2 => ∃ d, fz r2 = .v d ∧ AP L r G2 fun ks ds G3 => k (s :: ks) (d :: ds) G3) : AP L ((tk, tv) :: r) G k := h
end Q
-- text B0
set_option Elab.async false
set_option linter.all false
set_option maxRecDepth 100000
set_option maxHeartbeats 2000000
/-! The text by places; kinds and faces as deep values. -/
namespace Q
open PySem PySem.Spec PyProof.Rows L2
def topS (i : Nat) : Stmt := PySem.Challenge.pw_sealhouse_k47_whole_made_as_written_out.main.body.getD i (.Pass ⟨0, 0, 0, 0⟩)
theorem hu65 {A : Around} {k : Nat} (hr : Room k A) : A.units + 65 < cLine := by have := hr.un; omega

def Kd.d : Kd → D
  | .num n => .tup [.raw (.str "num"), .raw (.int n)]
  | .pair a b => .tup [.raw (.str "pair"), a.d, b.d]
  | .nm q t => .tup [.raw (.str "name"), .raw (.str q), .raw (.str t)]
abbrev tD (t : Str) : D := .raw (.str t)
/-- a pair of a word and a thing -/
abbrev prd (t : Str) (d : D) : D := .tup [.raw (.str t), d]
def Sg.d (s : Sg) : D := .tup [.tup (s.1.map Kd.d), s.2.d]
/-- the law's face: a pair of lists -/
def Fc.l (f : Fc) : D := .tup [.lst (f.kinds.map fun p => prd p.1 p.2.d), .lst (f.funs.map fun p => prd p.1 (Sg.d p.2))]
/-- the program's face -/
def Fc.o (C : Addr) (f : Fc) : D := .obj C ["kinds", "funs"] [.dK (f.kinds.map (·.1)) (f.kinds.map fun p => p.2.d), .dK (f.funs.map (·.1)) (f.funs.map fun p => Sg.d p.2)]
def gD (g : Gv) : D := .dT (g.map (·.1)) (g.map fun p => p.2.d)
/-- what a look-up in such a dict finds -/
theorem lkp_look {κ α : Type} [DecidableEq κ] (f : α → D) : ∀ (l : List (κ × α)) (t : κ), lkp (l.map (·.1)) (l.map fun p => f p.2) t = (look l t).map f
  | [], _ => by unfold look lkp; rfl
  | (k, v) :: r, t => by
    show (if k = t then some (f v) else lkp (r.map (·.1)) (r.map fun p => f p.2) t) = (if k = t then some v else look r t).map f
    by_cases h : k = t
    · rw [if_pos h, if_pos h]; rfl
    · rw [if_neg h, if_neg h]; exact lkp_look f r t
theorem lk_some {κ α : Type} [DecidableEq κ] {f : α → D} {l : List (κ × α)} {t : κ} {v : α} (h : look l t = some v) : lkp (l.map (·.1)) (l.map fun p => f p.2) t = some (f v) := by rw [lkp_look, h]; rfl
theorem lk_none {κ α : Type} [DecidableEq κ] {f : α → D} {l : List (κ × α)} {t : κ} (h : look l t = none) : lkp (l.map (·.1)) (l.map fun p => f p.2) t = none := by rw [lkp_look, h]; rfl
theorem str_ne {a b : Str} (h : (a == b) = false) : ¬ (V.str a = V.str b) := fun e => by
  injection e with e
  rw [e] at h
  simp at h
theorem itT {c A B : Prop} [Decidable c] (h : c) (a : A) : if c then A else B := by rw [if_pos h]; exact a
theorem itF {c A B : Prop} [Decidable c] (h : ¬ c) (b : B) : if c then A else B := by rw [if_neg h]; exact b
theorem itD {c A B : Prop} [Decidable c] (a : c → A) (b : ¬ c → B) : if c then A else B := by
  by_cases h : c
  · rw [if_pos h]; exact a h
  · rw [if_neg h]; exact b h
theorem nl {L : Option Addr} : (false = true → L = none) := fun h => Bool.noConfusion h
section
variable {L : Option Addr} {G : List SV} {k : R → List SV → Prop} {l : Bool} {S : Spec} {rs : List R} {ps : List Pm}
theorem cq0 (m : Mch G rs ps) (hl : l = true → L = none) (hS : S ps fun r ds => k r (updG G rs ps ds)) (e : mis rs ps = [] := by rfl) : CallQ L l S rs G k :=
  ⟨ps, m, by rw [e]; exact List.nodup_nil, (by rw [e]; intro m h; cases h), hl, hS⟩
theorem cqm (ms ns : List Nat) (m : Mch G rs ps) (hl : l = true → L = none) (hS : S ps fun r ds => k r (updG G rs ps ds)) (e1 : mis rs ps = ms := by rfl) (e2 : ris rs ps = ns := by rfl) (h1 : ms.Nodup := by decide) (h2 : ∀ m ∈ ms, m ∉ ns := by decide) : CallQ L l S rs G k :=
  ⟨ps, m, (by rw [e1]; exact h1), (by rw [e1, e2]; exact h2), hl, hS⟩
theorem DLk.T' {r : R} {ks : List (Str × Str)} {ds : List D} {p q : Str} {d : D} (c : con G r = some (.dT ks ds)) (h : lkp ks ds (p, q) = some d) : DLk G r (.v (.tup [.raw (.str p), .raw (.str q)])) (some d) := by rw [← h]; exact .T c
theorem DLk.K' {r : R} {ks : List Str} {ds : List D} {t : Str} {d : D} (c : con G r = some (.dK ks ds)) (h : lkp ks ds t = some d) : DLk G r (.v (.raw (.str t))) (some d) := by rw [← h]; exact .K c
theorem ae_rd {i : Nat} {d : D} (e : G[i]? = some (.rd d)) (h : k (.p i) G) : AE L (tVar i) G k := ae_pl e rfl h
theorem ae_mt {i : Nat} {a : Addr} {d : D} (e : G[i]? = some (.mt a d)) (h : k (.p i) G) : AE L (tVar i) G k := ae_pl e rfl h
end
/-- what stands at the top: built-ins' names, the classes -/
structure Txt (K : PySem.W.Frag) (mg : Str → Option Value) where
  z_len : mg "len" = none
  z_max : mg "max" = none
  z_min : mg "min" = none
  z_all : mg "all" = none
  z_isinstance : mg "isinstance" = none
  z_int : mg "int" = none
  z_str : mg "str" = none
  z_bool : mg "bool" = none
  z_tuple : mg "tuple" = none
  z_list : mg "list" = none
  z_dict : mg "dict" = none
  z_range : mg "range" = none
  z_zip : mg "zip" = none
  C_Face : Addr
  C_Maker : Addr
  g_Face : mg "Face" = some (.ref C_Face)
  g_Maker : mg "Maker" = some (.ref C_Maker)
  cl_Face : Cls K C_Face
  cl_Maker : Cls K C_Maker
  n_kinds : NoAttr K C_Face "kinds"
  n_funs : NoAttr K C_Face "funs"
  n_formals : NoAttr K C_Maker "formals"
  n_result : NoAttr K C_Maker "result"
  ty_Face : InsTy K C_Face
  kt_Face : PySem.W.kitOne K (.ref C_Face) (.ref C_Face) = some true
end Q
-- text B1
set_option Elab.async false
set_option linter.all false
set_option maxRecDepth 100000
set_option maxHeartbeats 4000000
namespace Q
open PySem PySem.Spec PyProof.Rows L2
local macro_rules | `(tactic| walk_at "q") => `(tactic| (first
  | with_reducible refine as_seq ?_ | with_reducible refine as_ret ?_ | with_reducible refine as_if ?_ | with_reducible refine as_deal ?_ | with_reducible refine as_asg ?_ | with_reducible refine as_drop ?_ | with_reducible refine as_dput ?_
  | with_reducible refine at_test ?_ | with_reducible refine at_B ?_ | with_reducible refine at_not ?_ | with_reducible refine at_and ?_ | with_reducible refine at_or ?_
  | with_reducible refine ae_op ?_ | with_reducible refine ae_c ?_ | with_reducible refine ae_andV ?_ | with_reducible refine ae_notV ?_ | with_reducible refine ae_join ?_ | with_reducible refine ae_index ?_ | with_reducible refine ae_from1 ?_ | refine ae_un (i := 0) ?_ | refine ae_var rfl ?_ | refine ae_rd rfl ?_ | refine ae_mt rfl ?_ | with_reducible refine ae_call ?_ | with_reducible refine ae_tup ?_ | with_reducible refine ae_fld ?_ | with_reducible refine ae_cb ?_
  | with_reducible refine aa_nil ?_ | with_reducible refine aa_cons ?_
  | with_reducible refine ae_dget ?_ | with_reducible refine ae_dget2 ?_ | with_reducible refine ae_dget1 ?_ | with_reducible refine ae_din ?_ | with_reducible refine ae_dnotin ?_ | with_reducible refine ae_newK ?_ | with_reducible refine ae_newT ?_ | with_reducible refine ae_lst ?_
  | with_reducible refine ae_meth ?_ | with_reducible refine ct_yes ?_ | with_reducible refine ct_if ?_
  | refine ar_ixT rfl rfl ?_ | refine ar_ixL rfl rfl ?_ | refine ar_II ?_ | refine ar_eq rfl ?_
  | refine itT (by decide +kernel) ?_ | refine itF (by decide +kernel) ?_ | refine itF Bool.false_ne_true ?_ | refine itT rfl ?_
  | refine ⟨.inr ⟨_, _, rfl⟩, ?_⟩ | refine ⟨.inl ⟨_, _, rfl⟩, ?_⟩ | refine ⟨_, _, .T rfl, rfl, ?_⟩ | refine ⟨_, rfl, ?_⟩ | refine ⟨[_, _], rfl, Nat.le_of_ble_eq_true rfl, ?_⟩ | refine ⟨[_, _, _], rfl, Nat.le_of_ble_eq_true rfl, ?_⟩ | refine ⟨[], rfl, Nat.le_of_ble_eq_true rfl, ?_⟩ | refine ⟨[_], rfl, Nat.le_of_ble_eq_true rfl, ?_⟩
  | with_reducible refine as_forL ?_ | with_reducible refine as_forT ?_ | with_reducible refine as_forR ?_ | refine ae_app (ae_pl rfl rfl ⟨_, rfl, ⟨_, rfl⟩, ?_⟩) | refine ae_ins (ae_pl rfl rfl ⟨_, rfl, ⟨_, rfl⟩, ?_⟩) | refine ag_rd rfl ?_ | refine ag_name ?_ | refine ag_own ?_ | refine ag_tup rfl (ags_cons (ags_cons (ags_nil ?_))) | with_reducible refine as_next ?_))
abbrev s_words_in : Stmt := topS 9
abbrev n_words_in : List Str := ["kind"]
abbrev p_words_in : List Str := ["kind"]
theorem sc_words_in : FnScope n_words_in p_words_in (defScope s_words_in) := ⟨rfl, rfl, rfl, by decide +kernel, rfl, by decide +kernel, by decide +kernel⟩
abbrev s_put : Stmt := topS 12
abbrev n_put : List Str := ["kind", "given"]
abbrev p_put : List Str := ["kind", "given"]
theorem sc_put : FnScope n_put p_put (defScope s_put) := ⟨rfl, rfl, rfl, by decide +kernel, rfl, by decide +kernel, by decide +kernel⟩
abbrev s_bounded : Stmt := topS 14
abbrev n_bounded : List Str := ["kind", "most"]
abbrev p_bounded : List Str := ["kind", "most"]
theorem sc_bounded : FnScope n_bounded p_bounded (defScope s_bounded) := ⟨rfl, rfl, rfl, by decide +kernel, rfl, by decide +kernel, by decide +kernel⟩
def S_words (n : Nat) : Spec := fun pm kk => ∃ k : Kd, pm = [.fr k.d] ∧ k.dep < n ∧ kk (.v (.raw (.int (k.words : Nat)))) []
def S_put (n : Nat) : Spec := fun pm kk => ∃ (k : Kd) (g : Gv), pm = [.fr k.d, .rd (gD g)] ∧ k.dep < n ∧ kk (.v (k.put g).d) []
def S_bounded : Spec := fun pm kk => ∃ (k : Kd) (m : Int), pm = [.fr k.d, .fr (.raw (.int m))] ∧ k.dep < 100 ∧ (k.words : Int) ≤ m ∧ kk (.v k.d) []
section
variable {P : Program} {w : World} {K : PySem.W.Frag} {mg : Str → Option Value} {base : Heap}
theorem ok_words {n : Nat} {f : Addr} {fd : FuncData} (F : Fun K "words_in" "words_in" s_words_in f fd) (c_words_in : Callee P w K mg base n "words_in" p_words_in [] false (S_words n)) :
    FnOk P w K mg base CX0 (n + 1) f fd p_words_in (spOf false (S_words (n + 1))) := by
  refine fun_ok F sc_words_in (by decide) (fun pm k h => by obtain ⟨k, rfl, _⟩ := h; rfl) (fun cdv A outer s H X hr => ⟨_, (pss_cons (ps_if (pt_cmpR op_eq (pe_ix ix_tup (pv 0) pe_int (fun _ _ => rfl)) pe_str (nomark _))
    (pss_one (ps_ret (pe_op op_add (pe_op op_add pe_int (pe_cal c_words_in (hr.mono (by omega)) (by rfl) (pa_cons (pe_ix ix_tup (pv 0) pe_int (fun _ _ => rfl)) pa_nil))) (pe_cal c_words_in (hr.mono (by omega)) (by rfl) (pa_cons (pe_ix ix_tup (pv 0) pe_int (fun _ _ => rfl)) pa_nil)))))
    pss_nil)
    (pss_one (ps_ret pe_int))), ?_⟩)
  rintro L hL pm av kk ⟨k, rfl, hd, hk⟩
  cases k with
  | pair a b =>
    have hd : 1 + max a.dep b.dep < n + 1 := hd
    repeat walk_at "q"
    refine cq0 (.fr .nil) nl ⟨a, rfl, by omega, ?_⟩
    repeat walk_at "q"
    refine cq0 (.fr .nil) nl ⟨b, rfl, by omega, ?_⟩
    repeat walk_at "q"
    refine ⟨[], rfl, rfl, ?_⟩
    have e : ((Kd.pair a b).words : Int) = (1 + (a.words : Int)) + (b.words : Int) := by show ((1 + a.words + b.words : Nat) : Int) = _; omega
    rw [e] at hk
    exact hk
  | num n =>
    repeat walk_at "q"
    exact ⟨[], rfl, rfl, hk⟩
  | nm q t =>
    repeat walk_at "q"
    exact ⟨[], rfl, rfl, hk⟩
theorem ok_put {n : Nat} {f : Addr} {fd : FuncData} (F : Fun K "put" "put" s_put f fd) (c_put_kinds : Callee P w K mg base n "put_kinds" p_put [] false (S_put n)) :
    FnOk P w K mg base CX0 (n + 1) f fd p_put (spOf false (S_put (n + 1))) := by
  refine fun_ok F sc_put (by decide) (fun pm k h => by obtain ⟨k, g, rfl, _⟩ := h; rfl) (fun cdv A outer s H X hr => ⟨_, (pss_cons (ps_if (pt_cmpR op_eq (pe_ix ix_tup (pv 0) pe_int (fun _ _ => rfl)) pe_str (nomark _))
    (pss_one (ps_ret (pe_tup (pa_cons pe_str (pa_cons (pe_cal c_put_kinds (hr.mono (by omega)) (by rfl) (pa_cons (pe_ix ix_tup (pv 0) pe_int (fun _ _ => rfl)) (pa_cons (pv 1) pa_nil))) (pa_cons (pe_cal c_put_kinds (hr.mono (by omega)) (by rfl) (pa_cons (pe_ix ix_tup (pv 0) pe_int (fun _ _ => rfl)) (pa_cons (pv 1) pa_nil))) pa_nil))))))
    pss_nil)
    (pss_cons (ps_if (pt_cmpR op_eq (pe_ix ix_tup (pv 0) pe_int (fun _ _ => rfl)) pe_str (nomark _))
    (pss_one (ps_ret (pe_dget2 (hu_of hr) (pv 1) (pe_tup (pa_cons (pe_ix ix_tup (pv 0) pe_int (fun _ _ => rfl)) (pa_cons (pe_ix ix_tup (pv 0) pe_int (fun _ _ => rfl)) pa_nil))) (pv 0) ⟨by rfl, by rfl, by rfl, by rfl⟩)))
    pss_nil)
    (pss_one (ps_ret (pv 0))))), ?_⟩)
  rintro L hL pm av kk ⟨k, g, rfl, hd, hk⟩
  cases k with
  | pair a b =>
    have hd : 1 + max a.dep b.dep < n + 1 := hd
    repeat walk_at "q"
    refine cq0 (.fr (.rdp rfl rfl .nil)) nl ⟨a, g, rfl, by omega, ?_⟩
    repeat walk_at "q"
    refine cq0 (.fr (.rdp rfl rfl .nil)) nl ⟨b, g, rfl, by omega, ?_⟩
    repeat walk_at "q"
    exact ⟨[], rfl, rfl, hk⟩
  | num n =>
    repeat walk_at "q"
    exact ⟨[], rfl, rfl, hk⟩
  | nm q t =>
    repeat walk_at "q"
    refine ⟨[], rfl, rfl, ?_⟩
    have e : (lkp (g.map (·.1)) (g.map fun p => p.2.d) (q, t)).getD (Kd.nm q t).d = ((Kd.nm q t).put g).d := by
      rw [lkp_look Kd.d g (q, t)]
      show ((look g (q, t)).map Kd.d).getD (Kd.nm q t).d = ((look g (q, t)).getD (Kd.nm q t)).d
      cases look g (q, t) <;> rfl
    rw [← e] at hk
    exact hk
theorem ok_bounded {f : Addr} {fd : FuncData} (F : Fun K "bounded" "bounded" s_bounded f fd) (c_words_in : Callee P w K mg base 100 "words_in" p_words_in [] false (S_words 100)) :
    FnOk P w K mg base CX0 101 f fd p_bounded (spOf false S_bounded) := by
  refine fun_ok F sc_bounded (by decide) (fun pm k h => by obtain ⟨k, m, rfl, _⟩ := h; rfl) (fun cdv A outer s H X hr => ⟨_, (pss_cons (ps_if (pt_cmpR op_gt (pe_cal c_words_in (hr.mono (by omega)) (by rfl) (pa_cons (pv 0) pa_nil)) (pv 1) (nomark _))
    (pss_one ps_never)
    pss_nil)
    (pss_one (ps_ret (pv 0)))), ?_⟩)
  rintro L hL pm av kk ⟨k, m, rfl, hd, hw, hk⟩
  repeat walk_at "q"
  refine cq0 (.fr .nil) nl ⟨k, rfl, hd, ?_⟩
  repeat walk_at "q"
  refine itF (by simp; omega) ?_
  repeat walk_at "q"
  exact ⟨[], rfl, rfl, hk⟩
/-! the law's own -/
abbrev s_l_size : Stmt := topS 36
abbrev n_l_size : List Str := ["_law_kind_here"]
abbrev p_l_size : List Str := ["_law_kind_here"]
theorem sc_l_size : FnScope n_l_size p_l_size (defScope s_l_size) := ⟨rfl, rfl, rfl, by decide +kernel, rfl, by decide +kernel, by decide +kernel⟩
abbrev s_l_put : Stmt := topS 38
abbrev n_l_put : List Str := ["_law_kind_here", "_law_given_here"]
abbrev p_l_put : List Str := ["_law_kind_here", "_law_given_here"]
theorem sc_l_put : FnScope n_l_put p_l_put (defScope s_l_put) := ⟨rfl, rfl, rfl, by decide +kernel, rfl, by decide +kernel, by decide +kernel⟩
theorem ok_size {n : Nat} {f : Addr} {fd : FuncData} (F : Fun K "_law_size" "_law_size" s_l_size f fd) (c_l_size : Callee P w K mg base n "_law_size" p_l_size [] false (S_words n)) :
    FnOk P w K mg base CX0 (n + 1) f fd p_l_size (spOf false (S_words (n + 1))) := by
  refine fun_ok F sc_l_size (by decide) (fun pm k h => by obtain ⟨k, rfl, _⟩ := h; rfl) (fun cdv A outer s H X hr => ⟨_, (pss_cons (ps_if (pt_cmpR op_eq (pe_ix ix_tup (pv 0) pe_int (fun _ _ => rfl)) pe_str (nomark _))
    (pss_one (ps_ret (pe_op op_add (pe_op op_add pe_int (pe_cal c_l_size (hr.mono (by omega)) (by rfl) (pa_cons (pe_ix ix_tup (pv 0) pe_int (fun _ _ => rfl)) pa_nil))) (pe_cal c_l_size (hr.mono (by omega)) (by rfl) (pa_cons (pe_ix ix_tup (pv 0) pe_int (fun _ _ => rfl)) pa_nil)))))
    pss_nil)
    (pss_one (ps_ret pe_int))), ?_⟩)
  rintro L hL pm av kk ⟨k, rfl, hd, hk⟩
  cases k with
  | pair a b =>
    have hd : 1 + max a.dep b.dep < n + 1 := hd
    repeat walk_at "q"
    refine cq0 (.fr .nil) nl ⟨a, rfl, by omega, ?_⟩
    repeat walk_at "q"
    refine cq0 (.fr .nil) nl ⟨b, rfl, by omega, ?_⟩
    repeat walk_at "q"
    refine ⟨[], rfl, rfl, ?_⟩
    have e : ((Kd.pair a b).words : Int) = (1 + (a.words : Int)) + (b.words : Int) := by show ((1 + a.words + b.words : Nat) : Int) = _; omega
    rw [e] at hk
    exact hk
  | num n =>
    repeat walk_at "q"
    exact ⟨[], rfl, rfl, hk⟩
  | nm q t =>
    repeat walk_at "q"
    exact ⟨[], rfl, rfl, hk⟩
theorem ok_lput {n : Nat} {f : Addr} {fd : FuncData} (F : Fun K "_law_put" "_law_put" s_l_put f fd) (c_l_put : Callee P w K mg base n "_law_put" p_l_put [] false (S_put n)) :
    FnOk P w K mg base CX0 (n + 1) f fd p_l_put (spOf false (S_put (n + 1))) := by
  refine fun_ok F sc_l_put (by decide) (fun pm k h => by obtain ⟨k, g, rfl, _⟩ := h; rfl) (fun cdv A outer s H X hr => ⟨_, (pss_cons (ps_if (pt_cmpR op_eq (pe_ix ix_tup (pv 0) pe_int (fun _ _ => rfl)) pe_str (nomark _))
    (pss_one (ps_ret (pe_tup (pa_cons pe_str (pa_cons (pe_cal c_l_put (hr.mono (by omega)) (by rfl) (pa_cons (pe_ix ix_tup (pv 0) pe_int (fun _ _ => rfl)) (pa_cons (pv 1) pa_nil))) (pa_cons (pe_cal c_l_put (hr.mono (by omega)) (by rfl) (pa_cons (pe_ix ix_tup (pv 0) pe_int (fun _ _ => rfl)) (pa_cons (pv 1) pa_nil))) pa_nil))))))
    pss_nil)
    (pss_cons (ps_if (PW.pt (pw_and (pt_cmpR op_eq (pe_ix ix_tup (pv 0) pe_int (fun _ _ => rfl)) pe_str (nomark _)) (pw_and1 (pt_cmp (pc_din (hu_of hr) (pe_tup (pa_cons (pe_ix ix_tup (pv 0) pe_int (fun _ _ => rfl)) (pa_cons (pe_ix ix_tup (pv 0) pe_int (fun _ _ => rfl)) pa_nil))) (pv 1))))))
    (pss_one (ps_ret (pe_dget (hu_of hr) (pv 1) (pe_tup (pa_cons (pe_ix ix_tup (pv 0) pe_int (fun _ _ => rfl)) (pa_cons (pe_ix ix_tup (pv 0) pe_int (fun _ _ => rfl)) pa_nil))) (fun _ _ => rfl))))
    pss_nil)
    (pss_one (ps_ret (pv 0))))), ?_⟩)
  rintro L hL pm av kk ⟨k, g, rfl, hd, hk⟩
  cases k with
  | pair a b =>
    have hd : 1 + max a.dep b.dep < n + 1 := hd
    repeat walk_at "q"
    refine cq0 (.fr (.rdp rfl rfl .nil)) nl ⟨a, g, rfl, by omega, ?_⟩
    repeat walk_at "q"
    refine cq0 (.fr (.rdp rfl rfl .nil)) nl ⟨b, g, rfl, by omega, ?_⟩
    repeat walk_at "q"
    exact ⟨[], rfl, rfl, hk⟩
  | num n =>
    repeat walk_at "q"
    exact ⟨[], rfl, rfl, hk⟩
  | nm q t =>
    repeat walk_at "q"
    have hv : (Kd.nm q t).put g = (look g (q, t)).getD (Kd.nm q t) := rfl
    rw [hv] at hk
    refine ⟨_, .T rfl, _, rfl, ?_⟩
    cases hl : look g (q, t) with
    | none =>
      rw [hl] at hk
      rw [lk_none (f := Kd.d) hl]
      refine itF (by decide) ?_
      repeat walk_at "q"
      exact ⟨[], rfl, rfl, hk⟩
    | some v =>
      rw [hl] at hk
      rw [lk_some (f := Kd.d) hl]
      refine itT rfl ?_
      repeat walk_at "q"
      refine ⟨_, .T' rfl (lk_some (f := Kd.d) hl), ?_⟩
      exact ⟨[], rfl, rfl, hk⟩
end
end Q
-- text B2
set_option Elab.async false
set_option linter.all false
set_option maxRecDepth 100000
set_option maxHeartbeats 4000000
namespace Q
open PySem PySem.Spec PyProof.Rows L2
local macro_rules | `(tactic| walk_at "q") => `(tactic| (first
  | with_reducible refine as_seq ?_ | with_reducible refine as_ret ?_ | with_reducible refine as_if ?_ | with_reducible refine as_deal ?_ | with_reducible refine as_asg ?_ | with_reducible refine as_drop ?_ | with_reducible refine as_dput ?_
  | with_reducible refine at_test ?_ | with_reducible refine at_B ?_ | with_reducible refine at_not ?_ | with_reducible refine at_and ?_ | with_reducible refine at_or ?_
  | with_reducible refine ae_op ?_ | with_reducible refine ae_c ?_ | with_reducible refine ae_andV ?_ | with_reducible refine ae_notV ?_ | with_reducible refine ae_join ?_ | with_reducible refine ae_index ?_ | with_reducible refine ae_from1 ?_ | refine ae_un (i := 0) ?_ | refine ae_var rfl ?_ | refine ae_rd rfl ?_ | refine ae_mt rfl ?_ | with_reducible refine ae_call ?_ | with_reducible refine ae_tup ?_ | with_reducible refine ae_fld ?_ | with_reducible refine ae_cb ?_
  | with_reducible refine aa_nil ?_ | with_reducible refine aa_cons ?_
  | with_reducible refine ae_dget ?_ | with_reducible refine ae_dget2 ?_ | with_reducible refine ae_dget1 ?_ | with_reducible refine ae_din ?_ | with_reducible refine ae_dnotin ?_ | with_reducible refine ae_newK ?_ | with_reducible refine ae_newT ?_ | with_reducible refine ae_lst ?_
  | with_reducible refine ae_meth ?_ | with_reducible refine ct_yes ?_ | with_reducible refine ct_if ?_
  | refine ar_ixT rfl rfl ?_ | refine ar_ixL rfl rfl ?_ | refine ar_II ?_ | refine ar_eq rfl ?_
  | refine itT (by decide +kernel) ?_ | refine itF (by decide +kernel) ?_ | refine itF Bool.false_ne_true ?_ | refine itT rfl ?_
  | refine ⟨.inr ⟨_, _, rfl⟩, ?_⟩ | refine ⟨.inl ⟨_, _, rfl⟩, ?_⟩ | refine ⟨_, _, .T rfl, rfl, ?_⟩ | refine ⟨_, rfl, ?_⟩ | refine ⟨[_, _], rfl, Nat.le_of_ble_eq_true rfl, ?_⟩ | refine ⟨[_, _, _], rfl, Nat.le_of_ble_eq_true rfl, ?_⟩ | refine ⟨[], rfl, Nat.le_of_ble_eq_true rfl, ?_⟩ | refine ⟨[_], rfl, Nat.le_of_ble_eq_true rfl, ?_⟩
  | with_reducible refine as_forL ?_ | with_reducible refine as_forT ?_ | with_reducible refine as_forR ?_ | refine ae_app (ae_pl rfl rfl ⟨_, rfl, ⟨_, rfl⟩, ?_⟩) | refine ae_ins (ae_pl rfl rfl ⟨_, rfl, ⟨_, rfl⟩, ?_⟩) | refine ag_rd rfl ?_ | refine ag_name ?_ | refine ag_own ?_ | refine ag_tup rfl (ags_cons (ags_cons (ags_nil ?_))) | with_reducible refine as_next ?_))
abbrev s_note_names : Stmt := topS 10
abbrev n_note_names : List Str := ["kind", "found"]
abbrev p_note_names : List Str := ["kind", "found"]
theorem sc_note_names : FnScope n_note_names p_note_names (defScope s_note_names) := ⟨rfl, rfl, rfl, by decide +kernel, rfl, by decide +kernel, by decide +kernel⟩
abbrev s_names_in : Stmt := topS 11
abbrev n_names_in : List Str := ["kind", "found"]
abbrev p_names_in : List Str := ["kind"]
theorem sc_names_in : FnScope n_names_in p_names_in (defScope s_names_in) := ⟨rfl, rfl, rfl, by decide +kernel, rfl, by decide +kernel, by decide +kernel⟩
abbrev s_normal : Stmt := topS 15
abbrev n_normal : List Str := ["kind", "own", "parts", "most", "given", "q", "t", "known"]
abbrev p_normal : List Str := ["kind", "own", "parts", "most"]
theorem sc_normal : FnScope n_normal p_normal (defScope s_normal) := ⟨rfl, rfl, rfl, by decide +kernel, rfl, by decide +kernel, by decide +kernel⟩
def pD (p : Str × Str) : D := .tup [.raw (.str p.1), .raw (.str p.2)]
def okP (p : Str × Str) : Prop := okS p.1 = true ∧ okS p.2 = true
theorem okS_str {s : Str} (h : okS s = true) : PyData.strOk s = true := (Bool.and_eq_true_iff.mp h).1
theorem pyP (p : Str × Str) : pyD (pD p) = some (.tuple [.str p.1, .str p.2]) := rfl
theorem pyPs : ∀ fs : List (Str × Str), pyDs (fs.map pD) = some (fs.map fun p => .tuple [.str p.1, .str p.2])
  | [] => rfl
  | p :: fs => by
    have ih := pyPs fs
    show (match pyD (pD p), pyDs (fs.map pD) with | some p, some ps => some (p :: ps) | _, _ => none) = _
    rw [pyP, ih]
    rfl
theorem shP {p : Str × Str} (h : okP p) : SeqAt.shaped (.tuple [.str p.1, .str p.2]) = true := by
  have h1 := okS_str h.1
  have h2 := okS_str h.2
  simp [SeqAt.shaped, PyData.canLay0, PyData.canLayAll0, PyData.depth, PyData.depthAll, h1, h2]
theorem shPs {fs : List (Str × Str)} (h : ∀ p ∈ fs, okP p) : SeqAt.shaped (.list (fs.map fun p => .tuple [.str p.1, .str p.2])) = true := by
  have a : ∀ fs : List (Str × Str), (∀ p ∈ fs, okP p) → PyData.canLayAll0 (fs.map fun p => .tuple [.str p.1, .str p.2]) = true := fun fs => by
    induction fs with
    | nil => intro _; rfl
    | cons p fs ih =>
      intro h
      have h1 := okS_str (h p (List.mem_cons_self ..)).1
      have h2 := okS_str (h p (List.mem_cons_self ..)).2
      have i := ih fun q hq => h q (List.mem_cons_of_mem _ hq)
      simp only [List.map_cons, PyData.canLayAll0, PyData.canLay0, h1, h2, i, Bool.and_true, Bool.and_self]
  have b : ∀ fs : List (Str × Str), PyData.depthAll (fs.map fun p => .tuple [.str p.1, .str p.2]) ≤ 2 := fun fs => by
    induction fs with
    | nil => simp [PyData.depthAll]
    | cons p fs ih => simp only [List.map_cons, PyData.depthAll, PyData.depth]; omega
  have c := b fs
  unfold SeqAt.shaped
  rw [Bool.and_eq_true]
  refine ⟨a fs h, decide_eq_true ?_⟩
  simp only [PyData.depth]
  omega
theorem anyP (fs : List (Str × Str)) (p : Str × Str) : ((fs.map fun p => PyData.tuple [.str p.1, .str p.2]).any fun z => PyData.eqv z (.tuple [.str p.1, .str p.2])) = decide (p ∈ fs) := by
  induction fs with
  | nil => simp
  | cons x fs ih =>
    rw [List.map_cons, List.any_cons, ih]
    have e : PyData.eqv (.tuple [.str x.1, .str x.2]) (.tuple [.str p.1, .str p.2]) = decide (p = x) := by
      simp only [PyData.eqv, PyData.eqvAll, Bool.and_true]
      by_cases h : p = x
      · subst h; simp
      · rw [decide_eq_false h]
        by_cases h1 : x.1 = p.1
        · by_cases h2 : x.2 = p.2
          · exact absurd (Prod.ext h1.symm h2.symm) h
          · simp [h2]
        · simp [h1]
    rw [e]
    by_cases h : p = x
    · simp [h]
    · simp [h]
def S_note (n : Nat) : Spec := fun pm kk => ∃ (k : Kd) (fs : List (Str × Str)), pm = [.fr k.d, .mt (.lst (fs.map pD))] ∧ k.dep < n ∧ k.ok = true ∧ (∀ p ∈ fs, okP p) ∧ fs.length + k.words ≤ 5000 ∧ kk (.v (.raw .non)) [.lst ((noteN k fs).map pD)]
def S_names : Spec := fun pm kk => ∃ (k : Kd), pm = [.fr k.d] ∧ k.dep < 100 ∧ k.ok = true ∧ k.words ≤ 5000 ∧ kk (.v (.lst ((namesK k).map pD))) []
theorem noteN_ok (k : Kd) (fs : List (Str × Str)) (h : k.ok = true) (h2 : ∀ p ∈ fs, okP p) : ∀ p ∈ noteN k fs, okP p := fun p hp => by
  rcases noteN_mem k fs p hp with q | q
  · exact h2 p q
  · exact q (fun q t => okS q = true ∧ okS t = true) (k.ok_all h)
section
variable {P : Program} {w : World} {K : PySem.W.Frag} {mg : Str → Option Value} {base : Heap}
theorem ok_note_names {n : Nat} {f : Addr} {fd : FuncData} (F : Fun K "note_names" "note_names" s_note_names f fd) (c_note_names : Callee P w K mg base n "note_names" p_note_names [] false (S_note n)) :
    FnOk P w K mg base CX0 (n + 1) f fd p_note_names (spOf false (S_note (n + 1))) := by
  refine fun_ok F sc_note_names (by decide) (fun pm k h => by obtain ⟨k, fs, rfl, _⟩ := h; rfl) (fun cdv A outer s H X hr => ⟨_, (pss_one (ps_if (pt_cmpR op_eq (pe_ix ix_tup (pv 0) pe_int (fun _ _ => rfl)) pe_str (nomark _))
    (pss_cons (ps_expr (pe_cal c_note_names (hr.mono (by omega)) (by rfl) (pa_cons (pe_ix ix_tup (pv 0) pe_int (fun _ _ => rfl)) (pa_cons (pv 1) pa_nil))))
    (pss_one (ps_expr (pe_cal c_note_names (hr.mono (by omega)) (by rfl) (pa_cons (pe_ix ix_tup (pv 0) pe_int (fun _ _ => rfl)) (pa_cons (pv 1) pa_nil))))))
    (pss_one (ps_if (PW.pt (pw_and (pt_cmpR op_eq (pe_ix ix_tup (pv 0) pe_int (fun _ _ => rfl)) pe_str (nomark _)) (pw_and1 (pt_cmpR (op_notInD (hu65 hr)) (pe_tup (pa_cons (pe_ix ix_tup (pv 0) pe_int (fun _ _ => rfl)) (pa_cons (pe_ix ix_tup (pv 0) pe_int (fun _ _ => rfl)) pa_nil))) (pv 1) (by rfl)))))
    (pss_one (ps_expr (pe_bm PySem.F.plainAttrs_list PySem.F.slot_list_append PySem.F.type_list_append mt_append (pv 1) (pa_cons (pe_tup (pa_cons (pe_ix ix_tup (pv 0) pe_int (fun _ _ => rfl)) (pa_cons (pe_ix ix_tup (pv 0) pe_int (fun _ _ => rfl)) pa_nil))) pa_nil))))
    pss_nil)))), ?_⟩)
  rintro L hL pm av kk ⟨k, fs, rfl, hd, hok, hfs, hlen, hk⟩
  cases k with
  | pair a b =>
    have hd : 1 + max a.dep b.dep < n + 1 := hd
    have hok : (a.ok && b.ok) = true := hok
    rw [Bool.and_eq_true] at hok
    have hlen : fs.length + (1 + a.words + b.words) ≤ 5000 := hlen
    have l1 := noteN_len a fs
    repeat walk_at "q"
    refine cqm [1] [] (.fr (.mtp rfl rfl rfl .nil)) nl ⟨a, fs, rfl, by omega, hok.1, hfs, by omega, ?_⟩
    repeat walk_at "q"
    refine cqm [1] [] (.fr (.mtp rfl rfl rfl .nil)) nl ⟨b, noteN a fs, rfl, by omega, hok.2, noteN_ok a fs hok.1 hfs, by omega, ?_⟩
    exact ⟨[_], ⟨rfl, rfl⟩, hk⟩
  | num n =>
    repeat walk_at "q"
    exact ⟨[_], ⟨rfl, rfl⟩, hk⟩
  | nm q t =>
    have hp : okP (q, t) := Bool.and_eq_true_iff.mp hok
    have hlen : fs.length + 1 ≤ 5000 := hlen
    have hk : kk (.v (.raw .non)) [.lst ((if (q, t) ∈ fs then fs else fs ++ [(q, t)]).map pD)] := hk
    repeat walk_at "q"
    refine ar_notInD (pyP (q, t)) rfl (pyPs fs) (shP hp) (shPs hfs) ?_
    rw [anyP fs (q, t)]
    repeat walk_at "q"
    by_cases hm : (q, t) ∈ fs
    · rw [if_pos hm] at hk
      refine itF (by simp [hm]) ?_
      repeat walk_at "q"
      exact ⟨[_], ⟨rfl, rfl⟩, hk⟩
    · rw [if_neg hm] at hk
      refine itT (by simp [hm]) ?_
      repeat walk_at "q"
      refine ⟨_, _, _, rfl, rfl, rfl, rfl, by rw [List.length_map]; omega, ?_⟩
      refine ⟨[_], ⟨rfl, rfl⟩, ?_⟩
      rw [List.map_append] at hk
      exact hk
theorem ok_names_in {f : Addr} {fd : FuncData} (F : Fun K "names_in" "names_in" s_names_in f fd) (c_note_names : Callee P w K mg base 100 "note_names" p_note_names [] false (S_note 100)) :
    FnOk P w K mg base CX0 101 f fd p_names_in (spOf false S_names) := by
  refine fun_ok F sc_names_in (by decide) (fun pm k h => by obtain ⟨k, rfl, _⟩ := h; rfl) (fun cdv A outer s H X hr => ⟨_, (pss_cons (ps_set (i := 1) sc_names_in.nd rfl (Or.inl rfl) (pe_lst pa_nil))
    (pss_cons (ps_expr (pe_cal c_note_names (hr.mono (by omega)) (by rfl) (pa_cons (pv 0) (pa_cons (pv 1) pa_nil))))
    (pss_one (ps_ret (pv 1))))), ?_⟩)
  rintro L hL pm av kk ⟨k, rfl, hd, hok, hlen, hk⟩
  repeat walk_at "q"
  refine ae_pl rfl rfl ?_
  repeat walk_at "q"
  refine cqm [1] [] (.fr (.mtp rfl rfl rfl .nil)) nl ⟨k, [], rfl, hd, hok, by simp, by simpa using hlen, ?_⟩
  repeat walk_at "q"
  refine ae_frz rfl ?_
  exact ⟨[], rfl, rfl, hk⟩
end
def ownD (own : List (Str × Kd)) : D := .dK (own.map (·.1)) (own.map fun p => p.2.d)
def partsD (C : Addr) (parts : List (Str × Fc)) : D := .dK (parts.map (·.1)) (parts.map fun p => p.2.o C)
def S_normal (C : Addr) : Spec := fun pm kk => ∃ (k : Kd) (own : List (Str × Kd)) (parts : List (Str × Fc)) (m : Int), pm = [.fr k.d, .rd (ownD own), .rd (partsD C parts), .fr (.raw (.int m))] ∧ k.dep < 100 ∧ k.ok = true ∧ k.words ≤ 5000 ∧
  k.All (fun q t => (lkN own parts q t).isSome = true) ∧ ((k.sub (nφ own parts)).words : Int) ≤ m ∧ (k.sub (nφ own parts)).dep < 100 ∧ kk (.v (k.sub (nφ own parts)).d) []
abbrev G_normal (C : Addr) (k : Kd) (own : List (Str × Kd)) (parts : List (Str × Fc)) (m : Int) (i : Nat) : List SV :=
  [.fr k.d, .rd (ownD own), .rd (partsD C parts), .fr (.raw (.int m)), .own (gD (gOf (nφ own parts) ((namesK k).take i))), .no, .no, .no]
theorem gD_more (φ : Str → Str → Kd) (l : List (Str × Str)) (p : Str × Str) : gD (gOf φ (l ++ [p])) = .dT ((gOf φ l).map (·.1) ++ [p]) ((gOf φ l).map (fun p => p.2.d) ++ [(φ p.1 p.2).d]) := by
  unfold gD gOf
  simp
theorem gOf_keys (φ : Str → Str → Kd) (l : List (Str × Str)) : (gOf φ l).map (·.1) = l := by
  unfold gOf
  rw [List.map_map]
  exact List.map_id' l
theorem fld_kinds {C : Addr} (f : Fc) : lkp ["kinds", "funs"] [D.dK (f.kinds.map (·.1)) (f.kinds.map fun p => p.2.d), .dK (f.funs.map (·.1)) (f.funs.map fun p => Sg.d p.2)] "kinds" = some (.dK (f.kinds.map (·.1)) (f.kinds.map fun p => p.2.d)) := by
  unfold lkp
  rw [if_pos rfl]
theorem fld_funs {C : Addr} (f : Fc) : lkp ["kinds", "funs"] [D.dK (f.kinds.map (·.1)) (f.kinds.map fun p => p.2.d), .dK (f.funs.map (·.1)) (f.funs.map fun p => Sg.d p.2)] "funs" = some (.dK (f.funs.map (·.1)) (f.funs.map fun p => Sg.d p.2)) := by
  unfold lkp
  rw [if_neg (by decide +kernel)]
  unfold lkp
  rw [if_pos rfl]
section
variable {P : Program} {w : World} {K : PySem.W.Frag} {mg : Str → Option Value} {base : Heap}
theorem ok_normal {f : Addr} {fd : FuncData} (T : Txt K mg) (F : FunD K "normal" "normal" (defArgs s_normal) (defBody s_normal) (defScope s_normal) [.int 40] [] f fd) (c_names_in : Callee P w K mg base 101 "names_in" p_names_in [] false S_names)
    (c_put_kinds : Callee P w K mg base 100 "put_kinds" p_put [] false (S_put 100)) (c_bounded : Callee P w K mg base 101 "bounded" p_bounded [] false S_bounded) :
    FnOk P w K mg base CX0 102 f fd p_normal (spOf false (S_normal T.C_Face)) := by
  refine fun_okD F sc_normal (by decide) (fun pm k h => by obtain ⟨k, own, parts, m, rfl, _⟩ := h; rfl) (fun cdv A outer s H X hr => ⟨_, (pss_cons (ps_set (i := 4) sc_normal.nd rfl (Or.inl rfl) pe_dnewT)
    (pss_cons (ps_for PassesOwn.never rfl (pi_list (pe_cal c_names_in (hr.mono (by omega)) (by rfl) (pa_cons (pv 0) pa_nil))) (pg_tup (by rfl) (pgs_cons (pg_name (i := 5) sc_normal.nd rfl (Or.inl rfl)) (pgs_cons (pg_name (i := 6) sc_normal.nd rfl (Or.inl rfl)) pgs_nil)))
    (pss_cons (ps_if (pt_cmpR op_eq (pv 5) pe_str (nomark _))
    (pss_one (ps_set (i := 7) sc_normal.nd rfl (Or.inl rfl) (pv 1)))
    (pss_one (ps_if (pt_cmp (pc_din (hu_of hr) (pv 5) (pv 2)))
    (pss_one (ps_set (i := 7) sc_normal.nd rfl (Or.inl rfl) (pe_fld (pe_dget (hu_of hr) (pv 2) (pv 5) (fun _ _ => rfl)) rfl)))
    (pss_one ps_never))))
    (pss_cons (ps_if (pt_cmp (pc_dnotin (hu_of hr) (pv 6) (pv 7)))
    (pss_one ps_never)
    pss_nil)
    (pss_one (ps_dput (hu_of hr) (pv 4) (pe_tup (pa_cons (pv 5) (pa_cons (pv 6) pa_nil))) (pe_dget (hu_of hr) (pv 7) (pv 6) (fun _ _ => rfl)) rfl)))))
    (pss_one (ps_ret (pe_cal c_bounded (hr.mono (by omega)) (by rfl) (pa_cons (pe_cal c_put_kinds (hr.mono (by omega)) (by rfl) (pa_cons (pv 0) (pa_cons (pv 4) pa_nil))) (pa_cons (pv 3) pa_nil))))))), ?_⟩)
  rintro L hL pm av kk ⟨k, own, parts, m, rfl, hd, hok, hw, hall, hm, hd2, hk⟩
  repeat walk_at "q"
  refine cq0 (.fr .nil) nl ⟨k, rfl, hd, hok, hw, ?_⟩
  repeat walk_at "q"
  refine ⟨fun i G => G = G_normal T.C_Face k own parts m i, ⟨_, (by repeat (first | exact Wk.nil | refine Wk.keep ?_ | refine Wk.drop ?_)), rfl⟩, ?_, ?_⟩
  · rintro i d G hi rfl
    obtain ⟨p, hp, rfl⟩ := map_get hi
    have hin : (lkN own parts p.1 p.2).isSome = true := by
      rcases noteN_mem k [] p (List.mem_of_getElem? hp) with z | z
      · cases z
      · exact z _ hall
    obtain ⟨v, hv⟩ := Option.isSome_iff_exists.mp hin
    have hφ : nφ own parts p.1 p.2 = v := by unfold nφ; rw [hv]; rfl
    have nin : (p.1, p.2) ∉ (gOf (nφ own parts) ((namesK k).take i)).map (·.1) := by
      rw [gOf_keys]
      exact nd_take (noteN_nd k [] List.nodup_nil) hp
    have len : ((gOf (nφ own parts) ((namesK k).take i)).map fun p => p.2.d).length ≤ 100000 := by
      have h1 := noteN_len k []
      have h2 : ((namesK k).take i).length ≤ (namesK k).length := by rw [List.length_take]; omega
      have h3 : (namesK k).length ≤ 0 + k.words := h1
      unfold gOf
      rw [List.length_map, List.length_map]
      omega
    have more : G_normal T.C_Face k own parts m (i + 1) = [.fr k.d, .rd (ownD own), .rd (partsD T.C_Face parts), .fr (.raw (.int m)), .own (.dT ((gOf (nφ own parts) ((namesK k).take i)).map (·.1) ++ [(p.1, p.2)]) ((gOf (nφ own parts) ((namesK k).take i)).map (fun p => p.2.d) ++ [v.d])), .no, .no, .no] := by
      show [_, _, _, _, SV.own (gD (gOf (nφ own parts) ((namesK k).take (i + 1)))), _, _, _] = _
      rw [take_more hp, gD_more, hφ]
    repeat walk_at "q"
    by_cases hq : p.1 = ""
    · have hv' : look own p.2 = some v := by rw [← hv]; unfold lkN; rw [if_pos hq]
      refine itT (by simp [hq]) ?_
      repeat walk_at "q"
      refine ⟨_, .K' (d := v.d) rfl (lk_some hv'), ?_⟩
      repeat walk_at "q"
      refine ⟨_, .K' (d := v.d) rfl (lk_some hv'), ?_⟩
      repeat walk_at "q"
      refine ae_pl rfl rfl ?_
      repeat walk_at "q"
      refine ⟨_, _, _, _, _, rfl, rfl, rfl, rfl, rfl, .T nin len, ?_⟩
      refine ⟨_, ?_, rfl⟩
      rw [more]
      repeat (first | exact Wk.nil | refine Wk.keep ?_ | refine Wk.drop ?_)
    · have hv' : (look parts p.1).bind (fun f => look f.kinds p.2) = some v := by rw [← hv]; unfold lkN; rw [if_neg hq]
      cases hf : look parts p.1 with
      | none => rw [hf] at hv'; cases hv'
      | some fc =>
        rw [hf] at hv'
        have hv' : look fc.kinds p.2 = some v := hv'
        refine itF (by simp [hq]) ?_
        repeat walk_at "q"
        refine ⟨_, .K' (d := fc.o T.C_Face) rfl (lk_some hf), ?_⟩
        repeat walk_at "q"
        refine ⟨_, .K' (d := fc.o T.C_Face) rfl (lk_some hf), ?_⟩
        refine ⟨_, _, _, _, rfl, T.cl_Face, T.n_kinds, fld_kinds (C := T.C_Face) fc, ?_⟩
        repeat walk_at "q"
        refine ⟨_, .K' (d := v.d) rfl (lk_some hv'), ?_⟩
        repeat walk_at "q"
        refine ⟨_, .K' (d := v.d) rfl (lk_some hv'), ?_⟩
        repeat walk_at "q"
        refine ae_pl rfl rfl ?_
        repeat walk_at "q"
        refine ⟨_, _, _, _, _, rfl, rfl, rfl, rfl, rfl, .T nin len, ?_⟩
        refine ⟨_, ?_, rfl⟩
        rw [more]
        repeat (first | exact Wk.nil | refine Wk.keep ?_ | refine Wk.drop ?_)
  · rintro G rfl
    have e : ((namesK k).map pD).length = (namesK k).length := List.length_map _
    have e2 : G_normal T.C_Face k own parts m ((namesK k).map pD).length = [.fr k.d, .rd (ownD own), .rd (partsD T.C_Face parts), .fr (.raw (.int m)), .own (gD (gOf (nφ own parts) (namesK k))), .no, .no, .no] := by
      show [_, _, _, _, SV.own (gD (gOf (nφ own parts) ((namesK k).take ((namesK k).map pD).length))), _, _, _] = _
      rw [e, List.take_length]
    rw [e2]
    repeat walk_at "q"
    refine ae_pl rfl rfl ?_
    repeat walk_at "q"
    refine cq0 (.fr (.rdp rfl rfl .nil)) nl ⟨k, gOf (nφ own parts) (namesK k), rfl, hd, ?_⟩
    rw [put_gOf]
    repeat walk_at "q"
    refine cq0 (.fr (.fr .nil)) nl ⟨k.sub (nφ own parts), m, rfl, hd2, hm, ?_⟩
    exact ⟨[], rfl, rfl, hk⟩
end
end Q
-- text B3
set_option Elab.async false
set_option linter.all false
set_option maxRecDepth 100000
set_option maxHeartbeats 4000000
namespace Q
open PySem PySem.Spec PyProof.Rows L2
local macro_rules | `(tactic| walk_at "q") => `(tactic| (first
  | with_reducible refine as_seq ?_ | with_reducible refine as_ret ?_ | with_reducible refine as_if ?_ | with_reducible refine as_deal ?_ | with_reducible refine as_asg ?_ | with_reducible refine as_drop ?_ | with_reducible refine as_dput ?_
  | with_reducible refine at_test ?_ | with_reducible refine at_B ?_ | with_reducible refine at_not ?_ | with_reducible refine at_and ?_ | with_reducible refine at_or ?_
  | with_reducible refine ae_op ?_ | with_reducible refine ae_c ?_ | with_reducible refine ae_andV ?_ | with_reducible refine ae_notV ?_ | with_reducible refine ae_join ?_ | with_reducible refine ae_index ?_ | with_reducible refine ae_from1 ?_ | refine ae_un (i := 0) ?_ | refine ae_var rfl ?_ | refine ae_rd rfl ?_ | refine ae_mt rfl ?_ | with_reducible refine ae_call ?_ | with_reducible refine ae_tup ?_ | with_reducible refine ae_fld ?_ | with_reducible refine ae_cb ?_
  | with_reducible refine aa_nil ?_ | with_reducible refine aa_cons ?_
  | with_reducible refine ae_dget ?_ | with_reducible refine ae_dget2 ?_ | with_reducible refine ae_dget1 ?_ | with_reducible refine ae_din ?_ | with_reducible refine ae_dnotin ?_ | with_reducible refine ae_newK ?_ | with_reducible refine ae_newT ?_ | with_reducible refine ae_lst ?_
  | with_reducible refine ae_meth ?_ | with_reducible refine ct_yes ?_ | with_reducible refine ct_if ?_
  | refine ar_ixT rfl rfl ?_ | refine ar_ixL rfl rfl ?_ | refine ar_II ?_ | refine ar_eq rfl ?_
  | refine itT (by decide +kernel) ?_ | refine itF (by decide +kernel) ?_ | refine itF Bool.false_ne_true ?_ | refine itT rfl ?_
  | refine ⟨.inr ⟨_, _, rfl⟩, ?_⟩ | refine ⟨.inl ⟨_, _, rfl⟩, ?_⟩ | refine ⟨_, _, .T rfl, rfl, ?_⟩ | refine ⟨_, rfl, ?_⟩ | refine ⟨[_, _], rfl, Nat.le_of_ble_eq_true rfl, ?_⟩ | refine ⟨[_, _, _], rfl, Nat.le_of_ble_eq_true rfl, ?_⟩ | refine ⟨[], rfl, Nat.le_of_ble_eq_true rfl, ?_⟩ | refine ⟨[_], rfl, Nat.le_of_ble_eq_true rfl, ?_⟩
  | with_reducible refine as_forL ?_ | with_reducible refine as_forT ?_ | with_reducible refine as_forR ?_ | refine ae_app (ae_pl rfl rfl ⟨_, rfl, ⟨_, rfl⟩, ?_⟩) | refine ae_ins (ae_pl rfl rfl ⟨_, rfl, ⟨_, rfl⟩, ?_⟩) | refine ag_rd rfl ?_ | refine ag_name ?_ | refine ag_own ?_ | refine ag_tup rfl (ags_cons (ags_cons (ags_nil ?_))) | with_reducible refine as_next ?_))
abbrev s_Face_init : Stmt := inClass (topS 17) 0
abbrev n_Face_init : List Str := ["self", "kinds", "funs"]
abbrev p_Face_init : List Str := ["self", "kinds", "funs"]
theorem sc_Face_init : FnScope n_Face_init p_Face_init (defScope s_Face_init) := ⟨rfl, rfl, rfl, by decide +kernel, rfl, by decide +kernel, by decide +kernel⟩
abbrev s_Face_put : Stmt := inClass (topS 17) 1
abbrev n_Face_put : List Str := ["self", "given", "most", "kinds", "t", "kind", "funs", "f", "told", "args"]
abbrev p_Face_put : List Str := ["self", "given", "most"]
theorem sc_Face_put : FnScope n_Face_put p_Face_put (defScope s_Face_put) := ⟨rfl, rfl, rfl, by decide +kernel, rfl, by decide +kernel, by decide +kernel⟩
abbrev s_Face_hidden : Stmt := inClass (topS 17) 2
abbrev n_Face_hidden : List Str := ["self", "t"]
abbrev p_Face_hidden : List Str := ["self"]
theorem sc_Face_hidden : FnScope n_Face_hidden p_Face_hidden (defScope s_Face_hidden) := ⟨rfl, rfl, rfl, by decide +kernel, rfl, by decide +kernel, by decide +kernel⟩
def fD (l : List (Str × Sg)) : D := .dK (l.map (·.1)) (l.map fun p => Sg.d p.2)
theorem ownD_more (l : List (Str × Kd)) (t : Str) (k : Kd) : ownD (l ++ [(t, k)]) = .dK (l.map (·.1) ++ [t]) ((l.map fun p => p.2.d) ++ [k.d]) := by unfold ownD; rw [List.map_append, List.map_append]; rfl
theorem fD_more (l : List (Str × Sg)) (t : Str) (k : Sg) : fD (l ++ [(t, k)]) = .dK (l.map (·.1) ++ [t]) ((l.map fun p => Sg.d p.2) ++ [Sg.d k]) := by unfold fD; rw [List.map_append, List.map_append]; rfl
def pyK : Kd → PyData
  | .num n => .tuple [.str "num", .int n]
  | .pair a b => .tuple [.str "pair", pyK a, pyK b]
  | .nm q t => .tuple [.str "name", .str q, .str t]
theorem pyD_K : ∀ k : Kd, pyD k.d = some (pyK k)
  | .num _ => rfl
  | .nm _ _ => rfl
  | .pair a b => by
    have h1 := pyD_K a
    have h2 := pyD_K b
    show (match some (PyData.str "pair"), (match pyD a.d, (match pyD b.d, some [] with | some p, some ps => some (p :: ps) | _, _ => none) with | some p, some ps => some (p :: ps) | _, _ => none) with | some p, some ps => some (p :: ps) | _, _ => none).map PyData.tuple = _
    rw [h1, h2]
    rfl
theorem pyK_lay : ∀ k : Kd, k.ok = true → (pyK k).canLay0 = true
  | .num n, _ => by simp [pyK, PyData.canLay0, PyData.canLayAll0]; decide +kernel
  | .nm q t, h => by
    have h := Bool.and_eq_true_iff.mp h
    have h1 := okS_str h.1
    have h2 := okS_str h.2
    simp [pyK, PyData.canLay0, PyData.canLayAll0, h1, h2]; decide +kernel
  | .pair a b, h => by
    have h := Bool.and_eq_true_iff.mp h
    simp [pyK, PyData.canLay0, PyData.canLayAll0, pyK_lay a h.1, pyK_lay b h.2]; decide +kernel
theorem pyK_dep : ∀ k : Kd, (pyK k).depth ≤ k.dep + 1
  | .num n => by simp [pyK, PyData.depth, PyData.depthAll, Kd.dep]
  | .nm q t => by simp [pyK, PyData.depth, PyData.depthAll, Kd.dep]
  | .pair a b => by
    have h1 := pyK_dep a
    have h2 := pyK_dep b
    simp only [pyK, PyData.depth, PyData.depthAll, Kd.dep]
    omega
theorem eqv_tup (a b : Str) (xs ys : List PyData) : PyData.eqv (.tuple (.str a :: xs)) (.tuple (.str b :: ys)) = (decide (a = b) && PyData.eqvAll xs ys) := by
  simp only [PyData.eqv, PyData.eqvAll]
  by_cases h : a = b
  · subst h; simp
  · simp [h]
theorem eqv_no {a b : Str} (h : (a == b) = false) (xs ys : List PyData) : PyData.eqv (.tuple (.str a :: xs)) (.tuple (.str b :: ys)) = false := by
  rw [eqv_tup, decide_eq_false (fun e => by rw [e] at h; simp at h)]; rfl
theorem beqD {α : Type} [DecidableEq α] [BEq α] [LawfulBEq α] (a b : α) : (a == b) = decide (a = b) := by
  by_cases h : a = b
  · subst h; simp
  · simp [h]
theorem ne_dec {α : Type} [DecidableEq α] {a b : α} (h : a ≠ b) : decide (a = b) = false := decide_eq_false h
theorem pyK_eqv : ∀ a b : Kd, PyData.eqv (pyK a) (pyK b) = decide (a = b)
  | .num n, .num m => by
    unfold pyK; rw [eqv_tup]
    simp [PyData.eqvAll, PyData.eqv, beqD]
  | .num n, .pair a b => by rw [ne_dec (fun e => by cases e)]; unfold pyK; exact eqv_no (by decide +kernel) _ _
  | .num n, .nm q t => by rw [ne_dec (fun e => by cases e)]; unfold pyK; exact eqv_no (by decide +kernel) _ _
  | .nm q t, .num n => by rw [ne_dec (fun e => by cases e)]; unfold pyK; exact eqv_no (by decide +kernel) _ _
  | .nm q t, .pair a b => by rw [ne_dec (fun e => by cases e)]; unfold pyK; exact eqv_no (by decide +kernel) _ _
  | .nm q t, .nm q' t' => by
    unfold pyK; rw [eqv_tup]
    simp [PyData.eqvAll, PyData.eqv, beqD]
  | .pair a b, .num n => by rw [ne_dec (fun e => by cases e)]; unfold pyK; exact eqv_no (by decide +kernel) _ _
  | .pair a b, .nm q t => by rw [ne_dec (fun e => by cases e)]; unfold pyK; exact eqv_no (by decide +kernel) _ _
  | .pair a b, .pair c d => by
    unfold pyK; rw [eqv_tup]
    simp [PyData.eqvAll, pyK_eqv a c, pyK_eqv b d]
theorem pyK_sh {k : Kd} (h : k.B) : SeqAt.shaped (pyK k) = true := by
  have h1 := pyK_lay k h.2
  have h2 := pyK_dep k
  have h3 := k.dep_le
  have h4 := h.1
  unfold SeqAt.shaped
  rw [Bool.and_eq_true]
  exact ⟨h1, decide_eq_true (by omega)⟩
theorem nmB {q t : Str} (h1 : okS q = true) (h2 : okS t = true) : (Kd.nm q t).B := ⟨by show 1 ≤ 40; omega, by show (okS q && okS t) = true; rw [h1, h2]; rfl⟩
theorem okS_nil : okS "" = true := by decide +kernel
theorem ct_yes {L : Option Addr} {vs : List Nat} {te : TE} {acc : List D} {Iv : List D → List SV → Prop} {G : List SV} (h : AE L te G fun r G4 => ∃ y, fz r = .v y ∧ Iv (acc ++ [y]) (wipeG G4 vs)) : Ct L vs tYes te acc Iv G :=
  fun E eL W σ H ok Q q => q W H true G .rfl ok h
theorem ct_if {L : Option Addr} {vs : List Nat} {tt : TT} {te : TE} {acc : List D} {Iv : List D → List SV → Prop} {G : List SV} (h : AT L tt G fun b G3 => if b = true then AE L te G3 fun r G4 => ∃ y, fz r = .v y ∧ Iv (acc ++ [y]) (wipeG G4 vs) else Iv acc (wipeG G3 vs)) : Ct L vs tt te acc Iv G := h
theorem two_get {α : Type} {F : α → D} {l : List (Str × α)} {i : Nat} {t : Str} {x : D} (h1 : (l.map (·.1))[i]? = some t) (h2 : (l.map fun p => F p.2)[i]? = some x) : ∃ v, l[i]? = some (t, v) ∧ x = F v := by
  obtain ⟨p, hp, e⟩ := map_get h1
  obtain ⟨p2, hp2, e2⟩ := map_get h2
  rw [hp] at hp2
  injection hp2 with hp2
  subst hp2
  subst e
  exact ⟨p.2, hp, e2⟩
theorem as_mid {L : Option Addr} {G : List SV} {Z : Az} {t u : TS} (Iv : List SV → Prop) (h1 : AS L t G (Z.thn Iv)) (h2 : ∀ G, Iv G → AS L u G Z) : AS L (tSeq t u) G Z :=
  as_seq fun E eL W σ H ok D z => h1 E eL W σ H ok D ⟨fun W' σ' H' G' l ok' i => z.nx W' σ' H' G' l ok' (h2 G' i), z.rt, z.bk, z.ct⟩
end Q
-- text B4
set_option Elab.async false
set_option linter.all false
set_option maxRecDepth 100000
set_option maxHeartbeats 4000000
namespace Q
open PySem PySem.Spec PyProof.Rows L2
local macro_rules | `(tactic| walk_at "q") => `(tactic| (first
  | with_reducible refine as_seq ?_ | with_reducible refine as_ret ?_ | with_reducible refine as_if ?_ | with_reducible refine as_deal ?_ | with_reducible refine as_asg ?_ | with_reducible refine as_drop ?_ | with_reducible refine as_dput ?_
  | with_reducible refine at_test ?_ | with_reducible refine at_B ?_ | with_reducible refine at_not ?_ | with_reducible refine at_and ?_ | with_reducible refine at_or ?_
  | with_reducible refine ae_op ?_ | with_reducible refine ae_c ?_ | with_reducible refine ae_andV ?_ | with_reducible refine ae_notV ?_ | with_reducible refine ae_join ?_ | with_reducible refine ae_index ?_ | with_reducible refine ae_from1 ?_ | refine ae_un (i := 0) ?_ | refine ae_var rfl ?_ | refine ae_rd rfl ?_ | refine ae_mt rfl ?_ | with_reducible refine ae_call ?_ | with_reducible refine ae_tup ?_ | with_reducible refine ae_fld ?_ | with_reducible refine ae_cb ?_
  | with_reducible refine aa_nil ?_ | with_reducible refine aa_cons ?_
  | with_reducible refine ae_dget ?_ | with_reducible refine ae_dget2 ?_ | with_reducible refine ae_dget1 ?_ | with_reducible refine ae_din ?_ | with_reducible refine ae_dnotin ?_ | with_reducible refine ae_newK ?_ | with_reducible refine ae_newT ?_ | with_reducible refine ae_lst ?_
  | with_reducible refine ae_meth ?_ | with_reducible refine ct_yes ?_ | with_reducible refine ct_if ?_
  | refine ar_ixT rfl rfl ?_ | refine ar_ixL rfl rfl ?_ | refine ar_II ?_ | refine ar_eq rfl ?_
  | refine itT (by decide +kernel) ?_ | refine itF (by decide +kernel) ?_ | refine itF Bool.false_ne_true ?_ | refine itT rfl ?_
  | refine ⟨.inr ⟨_, _, rfl⟩, ?_⟩ | refine ⟨.inl ⟨_, _, rfl⟩, ?_⟩ | refine ⟨_, _, .T rfl, rfl, ?_⟩ | refine ⟨_, rfl, ?_⟩ | refine ⟨[_, _], rfl, Nat.le_of_ble_eq_true rfl, ?_⟩ | refine ⟨[_, _, _], rfl, Nat.le_of_ble_eq_true rfl, ?_⟩ | refine ⟨[], rfl, Nat.le_of_ble_eq_true rfl, ?_⟩ | refine ⟨[_], rfl, Nat.le_of_ble_eq_true rfl, ?_⟩
  | with_reducible refine as_forL ?_ | with_reducible refine as_forT ?_ | with_reducible refine as_forR ?_ | refine ae_app (ae_pl rfl rfl ⟨_, rfl, ⟨_, rfl⟩, ?_⟩) | refine ae_ins (ae_pl rfl rfl ⟨_, rfl, ⟨_, rfl⟩, ?_⟩) | refine ag_rd rfl ?_ | refine ag_name ?_ | refine ag_own ?_ | refine ag_tup rfl (ags_cons (ags_cons (ags_nil ?_))) | with_reducible refine as_next ?_))
def S_Fput (C : Addr) : Spec := fun pm kk => ∃ (f : Fc) (g : Gv), pm = [.fr (f.o C), .rd (gD g), .fr (.raw (.int 40))] ∧ f.B ∧ (f.put g).B ∧ kk (.v ((f.put g).o C)) []
def S_Fhid (C : Addr) : Spec := fun pm kk => ∃ (f : Fc), pm = [.fr (f.o C)] ∧ f.B ∧ kk (.o (.lst ((hidK f.kinds).map tD))) []
theorem Fc.B.at {f : Fc} (h : f.B) {i : Nat} {t : Str} {k : Kd} (e : f.kinds[i]? = some (t, k)) : okS t = true ∧ k.B := h.k _ (List.mem_of_getElem? e)
theorem Fc.B.af {f : Fc} (h : f.B) {i : Nat} {t : Str} {k : Sg} (e : f.funs[i]? = some (t, k)) : k.1.length ≤ 1000 ∧ (∀ a ∈ k.1, a.B) ∧ k.2.B := h.f _ (List.mem_of_getElem? e)
theorem put_at {f : Fc} {g : Gv} {i : Nat} {t : Str} {k : Kd} (e : f.kinds[i]? = some (t, k)) : (f.put g).kinds[i]? = some (t, k.put g) := by show (f.kinds.map _)[i]? = _; rw [List.getElem?_map, e]; rfl
theorem put_af {f : Fc} {g : Gv} {i : Nat} {t : Str} {s : Sg} (e : f.funs[i]? = some (t, s)) : (f.put g).funs[i]? = some (t, Sg.put g s) := by show (f.funs.map _)[i]? = _; rw [List.getElem?_map, e]; rfl
theorem i40 {k : Kd} (h : k.B) : (k.words : Int) ≤ 40 := by have := h.1; omega
section
variable {P : Program} {w : World} {K : PySem.W.Frag} {mg : Str → Option Value} {base : Heap}
theorem ok_Fput {f : Addr} {fd : FuncData} (T : Txt K mg) (F : FunD K "put" "Face.put" (defArgs s_Face_put) (defBody s_Face_put) (defScope s_Face_put) [.int 40] [] f fd)
    (c_put_kinds : Callee P w K mg base 100 "put_kinds" p_put [] false (S_put 100)) (c_bounded : Callee P w K mg base 101 "bounded" p_bounded [] false S_bounded)
    (m_Face : MakeC P w K mg base 1 "Face" T.C_Face p_Face_init (spFace T.C_Face)) :
    FnOk P w K mg base CX0 103 f fd p_Face_put (spOf true (S_Fput T.C_Face)) := by
  refine fun_okD F sc_Face_put (by decide) (fun pm k h => by obtain ⟨f, g, rfl, _⟩ := h; rfl) (fun cdv A outer s H X hr => ⟨_, (pss_cons (ps_set (i := 3) sc_Face_put.nd rfl (Or.inl rfl) pe_dnewK)
    (pss_cons (ps_lock (ps_for PassesOwn.never rfl (pi_items (pe_fld (pv 0) rfl)) (pg_tup (by rfl) (pgs_cons (pg_name (i := 4) sc_Face_put.nd rfl (Or.inl rfl)) (pgs_cons (pg_name (i := 5) sc_Face_put.nd rfl (Or.inl rfl)) pgs_nil)))
    (pss_one (ps_dput (hu_of hr) (pv 3) (pv 4) (pe_cal c_bounded (hr.mono (by omega)) (by rfl) (pa_cons (pe_cal c_put_kinds (hr.mono (by omega)) (by rfl) (pa_cons (pv 5) (pa_cons (pv 1) pa_nil))) (pa_cons (pv 2) pa_nil))) rfl))))
    (pss_cons (ps_set (i := 6) sc_Face_put.nd rfl (Or.inl rfl) pe_dnewK)
    (pss_cons (ps_lock (ps_for PassesOwn.never rfl (pi_items (pe_fld (pv 0) rfl)) (pg_tup (by rfl) (pgs_cons (pg_name (i := 7) sc_Face_put.nd rfl (Or.inl rfl)) (pgs_cons (pg_name (i := 8) sc_Face_put.nd rfl (Or.inl rfl)) pgs_nil)))
    (pss_cons (ps_set (i := 9) sc_Face_put.nd rfl (Or.inl rfl) (pe_callTy call_tuple_of (by rfl) T.z_tuple (by decide +kernel) (pa_cons (pe_lc (own := [("kind", 5)]) (g := gName 5) (tt := tYes) (by rfl) sc_Face_put.nd (pi_tup (pe_ix ix_tup (pv 8) pe_int (fun _ _ => rfl))) (blkOk_by (N := n_Face_put) (sc := defScope s_Face_put) (by decide +kernel))
        (fun _ _ _ _ _ => (pg_name (i := 5) sc_Face_put.nd rfl (Or.inl rfl))) (fun _ _ _ _ _ => pts_nil)
        (fun _ _ _ _ _ => (pe_cal c_bounded (hr.mono (by omega)) (by rfl) (pa_cons (pe_cal c_put_kinds (hr.mono (by omega)) (by rfl) (pa_cons (pv 5) (pa_cons (pv 1) pa_nil))) (pa_cons (pv 2) pa_nil))))) pa_nil)))
    (pss_one (ps_dput (hu_of hr) (pv 6) (pv 7) (pe_tup (pa_cons (pv 9) (pa_cons (pe_cal c_bounded (hr.mono (by omega)) (by rfl) (pa_cons (pe_cal c_put_kinds (hr.mono (by omega)) (by rfl) (pa_cons (pe_ix ix_tup (pv 8) pe_int (fun _ _ => rfl)) (pa_cons (pv 1) pa_nil))) (pa_cons (pv 2) pa_nil))) pa_nil))) rfl)))))
    (pss_one (ps_ret (pe_mk m_Face (hr.mono (by omega)) (by rfl) (pa_cons (pv 3) (pa_cons (pv 6) pa_nil))))))))), ?_⟩)
  rintro L hL pm av kk ⟨f, g, rfl, hb, hb2, hk⟩
  have hL0 : L = none := hL rfl
  repeat walk_at "q"
  refine as_forI hL0 rfl T.cl_Face T.n_kinds (fld_kinds (C := T.C_Face) f) (fun i G => G = [.fr (f.o T.C_Face), .rd (gD g), .fr (.raw (.int 40)), .own (ownD (putK g (f.kinds.take i))), .no, .no, .no, .no, .no, .no]) ⟨_, (by repeat (first | exact Wk.nil | refine Wk.keep ?_ | refine Wk.drop ?_)), rfl⟩ ?_ ?_
  · rintro d j t x G hj hx rfl
    obtain ⟨k, hk1, rfl⟩ := two_get (F := Kd.d) hj hx
    have b1 := hb.at hk1
    have b2 := hb2.at (put_at hk1)
    have nin : t ∉ (putK g (f.kinds.take j)).map (·.1) := by rw [putK_keys]; exact key_take hb.nk hk1
    have len : ((putK g (f.kinds.take j)).map fun p => p.2.d).length ≤ 100000 := by
      have := hb.lk
      have h2 : (f.kinds.take j).length ≤ f.kinds.length := by rw [List.length_take]; omega
      unfold putK
      rw [List.length_map, List.length_map]
      omega
    repeat walk_at "q"
    refine cq0 (.fr (.rdp rfl rfl .nil)) nl ⟨k, g, rfl, b1.2.dep, ?_⟩
    repeat walk_at "q"
    refine cq0 (.fr (.fr .nil)) nl ⟨k.put g, 40, rfl, b2.2.dep, i40 b2.2, ?_⟩
    repeat walk_at "q"
    refine ae_pl rfl rfl ?_
    repeat walk_at "q"
    refine ⟨_, _, _, _, _, rfl, rfl, rfl, rfl, rfl, .K nin len, ?_⟩
    refine ⟨_, ?_, rfl⟩
    rw [putK_more hk1, ownD_more]
    repeat (first | exact Wk.nil | refine Wk.keep ?_ | refine Wk.drop ?_)
  rintro G rfl
  have e2 : f.kinds.take (f.kinds.map (·.1)).length = f.kinds := by rw [List.length_map, List.take_length]
  rw [e2]
  repeat walk_at "q"
  refine as_forI hL0 rfl T.cl_Face T.n_funs (fld_funs (C := T.C_Face) f) (fun i G => G = [.fr (f.o T.C_Face), .rd (gD g), .fr (.raw (.int 40)), .own (ownD (putK g f.kinds)), .no, .no, .own (fD (putF g (f.funs.take i))), .no, .no, .no]) ⟨_, (by repeat (first | exact Wk.nil | refine Wk.keep ?_ | refine Wk.drop ?_)), rfl⟩ ?_ ?_
  · rintro d j t x G hj hx rfl
    obtain ⟨k, hk1, rfl⟩ := two_get (F := Sg.d) hj hx
    have b1 := hb.af hk1
    have b2 := hb2.af (put_af hk1)
    have nin : t ∉ (putF g (f.funs.take j)).map (·.1) := by rw [putF_keys]; exact key_take hb.nf hk1
    have len : ((putF g (f.funs.take j)).map fun p => Sg.d p.2).length ≤ 100000 := by
      have := hb.lf
      have h2 : (f.funs.take j).length ≤ f.funs.length := by rw [List.length_take]; omega
      unfold putF
      rw [List.length_map, List.length_map]
      omega
    obtain ⟨as, r⟩ := k
    repeat walk_at "q"
    refine ae_lcT ?_
    repeat walk_at "q"
    refine ⟨by rw [List.length_map]; have := b1.1; omega, fun i acc G => acc = ((as.take i).map fun a => (a.put g).d) ∧ G = [.fr (f.o T.C_Face), .rd (gD g), .fr (.raw (.int 40)), .own (ownD (putK g f.kinds)), .no, .no, .own (fD (putF g (f.funs.take j))), .fr (tD t), .fr (Sg.d (as, r)), .no], ⟨rfl, rfl⟩, fun n acc G' h => by rw [h.2]; rfl, ?_, ?_⟩
    · rintro n x acc G' hx ⟨rfl, rfl⟩
      obtain ⟨a, ha, rfl⟩ := map_get hx
      have c1 : a.B := b1.2.1 a (List.mem_of_getElem? ha)
      have c2 : (a.put g).B := b2.2.1 _ (List.mem_map.mpr ⟨a, List.mem_of_getElem? ha, rfl⟩)
      refine aw_name (by decide) ?_
      repeat walk_at "q"
      refine cq0 (.fr (.rdp rfl rfl .nil)) nl ⟨a, g, rfl, c1.dep, ?_⟩
      repeat walk_at "q"
      refine cq0 (.fr (.fr .nil)) nl ⟨a.put g, 40, rfl, c2.dep, i40 c2, ?_⟩
      refine ⟨_, rfl, ?_, rfl⟩
      rw [take_more ha, List.map_append]
      rfl
    · rintro acc G' hl ⟨rfl, rfl⟩
      repeat walk_at "q"
      refine ac_tupL rfl ?_
      repeat walk_at "q"
      refine cq0 (.fr (.rdp rfl rfl .nil)) nl ⟨r, g, rfl, b1.2.2.dep, ?_⟩
      repeat walk_at "q"
      refine cq0 (.fr (.fr .nil)) nl ⟨r.put g, 40, rfl, b2.2.2.dep, i40 b2.2.2, ?_⟩
      repeat walk_at "q"
      refine ae_pl rfl rfl ?_
      repeat walk_at "q"
      refine ⟨_, _, _, _, _, rfl, rfl, rfl, rfl, rfl, .K nin len, ?_⟩
      refine ⟨_, ?_, rfl⟩
      rw [putF_more hk1, fD_more]
      have e3 : Sg.d (Sg.put g (as, r)) = .tup [.tup ((as.take (as.map Kd.d).length).map fun a => (a.put g).d), (r.put g).d] := by
        rw [List.length_map, List.take_length]
        show D.tup [.tup ((as.map (Kd.put g)).map Kd.d), _] = _
        rw [List.map_map]
        rfl
      rw [e3]
      repeat (first | exact Wk.nil | refine Wk.keep ?_ | refine Wk.drop ?_)
  rintro G rfl
  have e3 : f.funs.take (f.funs.map (·.1)).length = f.funs := by rw [List.length_map, List.take_length]
  rw [e3]
  refine as_ret (ae_face ?_)
  repeat walk_at "q"
  refine ae_pl rfl rfl ?_
  repeat walk_at "q"
  refine ae_pl rfl rfl ?_
  repeat walk_at "q"
  refine ⟨_, _, _, _, _, _, rfl, rfl, rfl, ?_⟩
  exact ⟨[], rfl, rfl, hk⟩
end
end Q
-- text B5
set_option Elab.async false
set_option linter.all false
set_option maxRecDepth 100000
set_option maxHeartbeats 4000000
namespace Q
open PySem PySem.Spec PyProof.Rows L2
local macro_rules | `(tactic| walk_at "q") => `(tactic| (first
  | with_reducible refine as_seq ?_ | with_reducible refine as_ret ?_ | with_reducible refine as_if ?_ | with_reducible refine as_deal ?_ | with_reducible refine as_asg ?_ | with_reducible refine as_drop ?_ | with_reducible refine as_dput ?_
  | with_reducible refine at_test ?_ | with_reducible refine at_B ?_ | with_reducible refine at_not ?_ | with_reducible refine at_and ?_ | with_reducible refine at_or ?_
  | with_reducible refine ae_op ?_ | with_reducible refine ae_c ?_ | with_reducible refine ae_andV ?_ | with_reducible refine ae_notV ?_ | with_reducible refine ae_join ?_ | with_reducible refine ae_index ?_ | with_reducible refine ae_from1 ?_ | refine ae_un (i := 0) ?_ | refine ae_var rfl ?_ | refine ae_rd rfl ?_ | refine ae_mt rfl ?_ | with_reducible refine ae_call ?_ | with_reducible refine ae_tup ?_ | with_reducible refine ae_fld ?_ | with_reducible refine ae_cb ?_
  | with_reducible refine aa_nil ?_ | with_reducible refine aa_cons ?_
  | with_reducible refine ae_dget ?_ | with_reducible refine ae_dget2 ?_ | with_reducible refine ae_dget1 ?_ | with_reducible refine ae_din ?_ | with_reducible refine ae_dnotin ?_ | with_reducible refine ae_newK ?_ | with_reducible refine ae_newT ?_ | with_reducible refine ae_lst ?_
  | with_reducible refine ae_meth ?_ | with_reducible refine ct_yes ?_ | with_reducible refine ct_if ?_
  | refine ar_ixT rfl rfl ?_ | refine ar_ixL rfl rfl ?_ | refine ar_II ?_ | refine ar_eq rfl ?_
  | refine itT (by decide +kernel) ?_ | refine itF (by decide +kernel) ?_ | refine itF Bool.false_ne_true ?_ | refine itT rfl ?_
  | refine ⟨.inr ⟨_, _, rfl⟩, ?_⟩ | refine ⟨.inl ⟨_, _, rfl⟩, ?_⟩ | refine ⟨_, _, .T rfl, rfl, ?_⟩ | refine ⟨_, rfl, ?_⟩ | refine ⟨[_, _], rfl, Nat.le_of_ble_eq_true rfl, ?_⟩ | refine ⟨[_, _, _], rfl, Nat.le_of_ble_eq_true rfl, ?_⟩ | refine ⟨[], rfl, Nat.le_of_ble_eq_true rfl, ?_⟩ | refine ⟨[_], rfl, Nat.le_of_ble_eq_true rfl, ?_⟩
  | with_reducible refine as_forL ?_ | with_reducible refine as_forT ?_ | with_reducible refine as_forR ?_ | refine ae_app (ae_pl rfl rfl ⟨_, rfl, ⟨_, rfl⟩, ?_⟩) | refine ae_ins (ae_pl rfl rfl ⟨_, rfl, ⟨_, rfl⟩, ?_⟩) | refine ag_rd rfl ?_ | refine ag_name ?_ | refine ag_own ?_ | refine ag_tup rfl (ags_cons (ags_cons (ags_nil ?_))) | with_reducible refine as_next ?_))
abbrev s_refined : Stmt := topS 18
abbrev n_refined : List Str := ["face", "withs", "t", "kind"]
abbrev p_refined : List Str := ["face", "withs"]
theorem sc_refined : FnScope n_refined p_refined (defScope s_refined) := ⟨rfl, rfl, rfl, by decide +kernel, rfl, by decide +kernel, by decide +kernel⟩
abbrev s_note : Stmt := topS 21
abbrev n_note : List Str := ["words", "word", "told"]
abbrev p_note : List Str := ["words", "word", "told"]
theorem sc_note : FnScope n_note p_note (defScope s_note) := ⟨rfl, rfl, rfl, by decide +kernel, rfl, by decide +kernel, by decide +kernel⟩
abbrev s_note_opened : Stmt := topS 22
abbrev n_note_opened : List Str := ["kinds", "funs", "face", "word", "kind", "told"]
abbrev p_note_opened : List Str := ["kinds", "funs", "face"]
theorem sc_note_opened : FnScope n_note_opened p_note_opened (defScope s_note_opened) := ⟨rfl, rfl, rfl, by decide +kernel, rfl, by decide +kernel, by decide +kernel⟩
section
variable {P : Program} {w : World} {K : PySem.W.Frag} {mg : Str → Option Value} {base : Heap}
theorem ok_Fhid {f : Addr} {fd : FuncData} (T : Txt K mg) (F : Fun K "hidden" "Face.hidden" s_Face_hidden f fd) :
    FnOk P w K mg base CX0 1 f fd p_Face_hidden (spOf true (S_Fhid T.C_Face)) := by
  refine fun_ok F sc_Face_hidden (by decide) (fun pm k h => by obtain ⟨f, rfl, _⟩ := h; rfl) (fun cdv A outer s H X hr => ⟨_, (pss_one (ps_ret (pe_lock (pe_lc (own := [("t", 1)]) (g := gName 1) (by rfl) sc_Face_hidden.nd (pi_keys (pe_fld (pv 0) rfl)) (blkOk_by (N := n_Face_hidden) (sc := defScope s_Face_hidden) (by decide +kernel))
        (fun _ _ _ _ _ => (pg_name (i := 1) sc_Face_hidden.nd rfl (Or.inl rfl))) (fun _ _ _ _ _ => pts_one (pt_cmpR (op_eqDk (K := K) rfl hr.units) (pe_dget (hu_of hr) (pe_fldk (K := K) rfl (pv 0) rfl) (pv 1) (fun _ _ => rfl)) (pe_tup (pa_cons pe_str (pa_cons pe_str (pa_cons (pv 1) pa_nil)))) (nomark _)))
        (fun _ _ _ _ _ => (pv 1)))))), ?_⟩)
  rintro L hL pm av kk ⟨f, rfl, hb, hk⟩
  have hL0 : L = none := hL rfl
  repeat walk_at "q"
  refine ae_lcK (j := 0) hL0 rfl T.cl_Face T.n_kinds (fld_kinds (C := T.C_Face) f) (by rw [List.length_map]; have := hb.lk; omega) (by decide) (fun i acc G => acc = (hidK (f.kinds.take i)).map tD ∧ G = [.fr (f.o T.C_Face), .no]) ⟨rfl, rfl⟩ (fun n acc G' h => by rw [h.2]; rfl) ?_ ?_
  · rintro d n t x acc G' ht hx ⟨rfl, rfl⟩
    obtain ⟨k, hk1, rfl⟩ := two_get (F := Kd.d) ht hx
    have b1 := hb.at hk1
    have lk := look_nd hb.nk (List.mem_of_getElem? hk1)
    refine aw_name (by decide) ?_
    repeat (first | walk_at "q" | refine ⟨_, _, _, _, rfl, T.cl_Face, T.n_kinds, fld_kinds (C := T.C_Face) _, ?_⟩ | refine ⟨_, _, _, _, rfl, T.cl_Face, T.n_funs, fld_funs (C := T.C_Face) _, ?_⟩)
    refine ⟨_, .K' (d := k.d) rfl (lk_some lk), ?_⟩
    repeat walk_at "q"
    refine ar_eqD (pyD_K k) (pyD_K (.nm "" t)) (pyK_sh b1.2) (pyK_sh (nmB okS_nil b1.1)) ?_
    rw [pyK_eqv]
    repeat walk_at "q"
    by_cases e : k = .nm "" t
    · refine itT (decide_eq_true e) ?_
      repeat walk_at "q"
      refine ⟨?_, rfl⟩
      rw [hidK_more hk1, if_pos e, List.map_append]
      rfl
    · refine itF (by simp [e]) ?_
      refine ⟨?_, rfl⟩
      rw [hidK_more hk1, if_neg e]
  · rintro acc G' _ ⟨rfl, rfl⟩
    have e2 : f.kinds.take (f.kinds.map (·.1)).length = f.kinds := by rw [List.length_map, List.take_length]
    rw [e2]
    exact ⟨[], rfl, rfl, hk⟩
end
def wsD (ws : List (Str × Kd)) : List D := ws.map fun p => prd p.1 p.2.d
def S_refined (C : Addr) : Spec := fun pm kk => ∃ (f : Fc) (ws : List (Str × Kd)), pm = [.fr (f.o C), .fr (.lst (wsD ws))] ∧ RefOk f ws ∧ kk (.v ((refN f ws).o C)) []
def S_noteW : Spec := fun pm kk => ∃ (ks : List Str) (ds : List D) (t : Str) (d : D), pm = [.mt (.dK ks ds), .fr (tD t), .fr d] ∧ t ∉ ks ∧ ds.length ≤ 100000 ∧ kk (.v (.raw .non)) [.dK (ks ++ [t]) (ds ++ [d])]
def S_noteO (C : Addr) : Spec := fun pm kk => ∃ (a : List (Str × Kd)) (b : List (Str × Sg)) (f : Fc), pm = [.mt (ownD a), .mt (fD b), .fr (f.o C)] ∧ ((a ++ f.kinds).map (·.1)).Nodup ∧ ((b ++ f.funs).map (·.1)).Nodup ∧ a.length ≤ 1000 ∧ b.length ≤ 1000 ∧ f.kinds.length ≤ 1000 ∧ f.funs.length ≤ 1000 ∧
  kk (.v (.raw .non)) [ownD (a ++ f.kinds), fD (b ++ f.funs)]
theorem eqV_str (x t : Str) : eqV (.str x) (.str t) = decide (x = t) := by
  show (x == t) = _
  exact beqD x t
theorem inV_str (t : Str) : ∀ l : List Str, inV (.str t) (l.map V.str) = decide (t ∈ l)
  | [] => rfl
  | x :: l => by
    have ih := inV_str t l
    unfold inV at ih ⊢
    simp only [List.map_cons, List.any_cons, ih]
    have e : eqV (.str x) (.str t) = decide (x = t) := eqV_str x t
    rw [e]
    by_cases h : x = t
    · subst h; simp
    · have h' : ¬ t = x := fun z => h z.symm
      by_cases m : t ∈ l <;> simp [h, h', m]
theorem flatStr : ∀ l : List Str, (l.map V.str).all flatV = true
  | [] => rfl
  | x :: l => by rw [List.map_cons, List.all_cons, flatStr l]; rfl
theorem tDs (l : List Str) : l.map tD = (l.map V.str).map .raw := by rw [List.map_map]; rfl
theorem app_key {α : Type} {a l : List (Str × α)} (h : ((a ++ l).map (·.1)).Nodup) {i : Nat} {t : Str} {x : α} (e : l[i]? = some (t, x)) : t ∉ (a ++ l.take i).map (·.1) := by
  have e2 : (a ++ l)[a.length + i]? = some (t, x) := by rw [List.getElem?_append_right (by omega)]; rw [show a.length + i - a.length = i by omega]; exact e
  have := key_take h e2
  rw [List.take_length_add_append] at this
  exact this
section
variable {P : Program} {w : World} {K : PySem.W.Frag} {mg : Str → Option Value} {base : Heap}
theorem ok_refined {f : Addr} {fd : FuncData} (T : Txt K mg) (F : Fun K "refined" "refined" s_refined f fd)
    (c_Face_hidden : CalleeM P w K mg base 1 T.C_Face "hidden" p_Face_hidden [] true (S_Fhid T.C_Face)) (c_Face_put : CalleeM P w K mg base 103 T.C_Face "put" p_Face_put [.int 40] true (S_Fput T.C_Face))
    (m_Face : MakeC P w K mg base 1 "Face" T.C_Face p_Face_init (spFace T.C_Face)) :
    FnOk P w K mg base CX0 104 f fd p_refined (spOf true (S_refined T.C_Face)) := by
  refine fun_ok F sc_refined (by decide) (fun pm k h => by obtain ⟨f, ws, rfl, _⟩ := h; rfl) (fun cdv A outer s H X hr => ⟨_, (pss_cons (ps_for PassesOwn.never rfl (pi_list (pv 1)) (pg_tup (by rfl) (pgs_cons (pg_name (i := 2) sc_refined.nd rfl (Or.inl rfl)) (pgs_cons (pg_name (i := 3) sc_refined.nd rfl (Or.inl rfl)) pgs_nil)))
    (pss_cons (ps_if (pt_cmpR op_notIn_seq (pv 2) (pe_calM0 (pv 0) c_Face_hidden (hr.mono (by omega))) (by rfl))
    (pss_one ps_never)
    pss_nil)
    (pss_one (ps_set (i := 0) sc_refined.nd rfl (Or.inl rfl) (pe_calM (pv 0) c_Face_put (hr.mono (by omega)) (pa_cons (pe_dispT (hu2_of hr) (pe_tup (pa_cons pe_str (pa_cons (pv 2) pa_nil))) (pv 3)) pa_nil))))))
    (pss_one (ps_ret (pe_mk m_Face (hr.mono (by omega)) (by rfl) (pa_cons (pe_fld (pv 0) rfl) (pa_cons (pe_fld (pv 0) rfl) pa_nil)))))), ?_⟩)
  rintro L hL pm av kk ⟨f, ws, rfl, hr, hk⟩
  repeat walk_at "q"
  refine ⟨fun i G => G = [.fr ((refN f (ws.take i)).o T.C_Face), .fr (.lst (wsD ws)), .no, .no], ⟨_, (by repeat (first | exact Wk.nil | refine Wk.keep ?_ | refine Wk.drop ?_)), rfl⟩, ?_, ?_⟩
  · rintro i d G hi rfl
    obtain ⟨⟨t, k⟩, hp, rfl⟩ := map_get hi
    have hl : i < ws.length := (List.getElem?_eq_some_iff.mp hp).1
    have b0 := hr.at i (by omega)
    obtain ⟨h1, h2⟩ := hr.s i t k hp
    repeat walk_at "q"
    refine ⟨_, _, rfl, by decide, ?_⟩
    repeat walk_at "q"
    refine cq0 (.fr .nil) hL ⟨_, rfl, b0, ?_⟩
    refine ar_in (vs := (hidK (refN f (ws.take i)).kinds).map V.str) (by show some (D.lst _) = some (D.lst _); rw [tDs]) rfl (flatStr _) ?_
    rw [inV_str]
    repeat walk_at "q"
    refine itF (by simp [h1]) ?_
    repeat walk_at "q"
    refine ⟨_, _, rfl, by decide, ?_⟩
    repeat walk_at "q"
    refine ae_disp1 rfl rfl ?_
    repeat walk_at "q"
    refine cq0 (.fr (.rdv rfl (.fr .nil))) hL ⟨refN f (ws.take i), [(("", t), k)], rfl, b0, ?_, ?_⟩
    · rw [← refN_more hp]; exact h2
    rw [← refN_more hp]
    repeat walk_at "q"
    refine ⟨_, ?_, rfl⟩
    repeat (first | exact Wk.nil | refine Wk.keep ?_ | refine Wk.drop ?_)
  · rintro G rfl
    have e2 : ws.take (wsD ws).length = ws := by unfold wsD; rw [List.length_map, List.take_length]
    rw [e2]
    refine as_ret (ae_face ?_)
    repeat (first | walk_at "q" | refine ⟨_, _, _, _, rfl, T.cl_Face, T.n_kinds, fld_kinds (C := T.C_Face) _, ?_⟩ | refine ⟨_, _, _, _, rfl, T.cl_Face, T.n_funs, fld_funs (C := T.C_Face) _, ?_⟩)
    refine ⟨_, _, _, _, _, _, rfl, rfl, rfl, ?_⟩
    exact ⟨[], rfl, rfl, hk⟩
theorem ok_note {f : Addr} {fd : FuncData} (F : Fun K "note" "note" s_note f fd) : FnOk P w K mg base CX0 1 f fd p_note (spOf false S_noteW) := by
  refine fun_ok F sc_note (by decide) (fun pm k h => by obtain ⟨_, _, _, _, rfl, _⟩ := h; rfl) (fun cdv A outer s H X hr => ⟨_, (pss_cons (ps_if (pt_cmp (pc_din (hu_of hr) (pv 1) (pv 0)))
    (pss_one ps_never)
    pss_nil)
    (pss_one (ps_dput (hu_of hr) (pv 0) (pv 1) (pv 2) rfl))), ?_⟩)
  rintro L hL pm av kk ⟨ks, ds, t, d, rfl, hn, hl, hk⟩
  have z : lkp ks ds t = none := by
    cases e : lkp ks ds t with
    | none => rfl
    | some x => exact absurd (lkp_some e) hn
  repeat walk_at "q"
  refine ⟨_, .K rfl, ?_⟩
  rw [z]
  repeat walk_at "q"
  refine ⟨_, _, _, _, _, rfl, rfl, rfl, rfl, rfl, .K hn hl, ?_⟩
  exact ⟨[_], ⟨rfl, rfl⟩, hk⟩
theorem ok_note_opened {f : Addr} {fd : FuncData} (T : Txt K mg) (F : Fun K "note_opened" "note_opened" s_note_opened f fd) (c_note : Callee P w K mg base 1 "note" p_note [] false S_noteW) :
    FnOk P w K mg base CX0 2 f fd p_note_opened (spOf true (S_noteO T.C_Face)) := by
  refine fun_ok F sc_note_opened (by decide) (fun pm k h => by obtain ⟨_, _, _, rfl, _⟩ := h; rfl) (fun cdv A outer s H X hr => ⟨_, (pss_cons (ps_lock (ps_for PassesOwn.never rfl (pi_items (pe_fld (pv 2) rfl)) (pg_tup (by rfl) (pgs_cons (pg_name (i := 3) sc_note_opened.nd rfl (Or.inl rfl)) (pgs_cons (pg_name (i := 4) sc_note_opened.nd rfl (Or.inl rfl)) pgs_nil)))
    (pss_one (ps_expr (pe_cal c_note (hr.mono (by omega)) (by rfl) (pa_cons (pv 0) (pa_cons (pv 3) (pa_cons (pv 4) pa_nil))))))))
    (pss_one (ps_lock (ps_for PassesOwn.never rfl (pi_items (pe_fld (pv 2) rfl)) (pg_tup (by rfl) (pgs_cons (pg_name (i := 3) sc_note_opened.nd rfl (Or.inl rfl)) (pgs_cons (pg_name (i := 5) sc_note_opened.nd rfl (Or.inl rfl)) pgs_nil)))
    (pss_one (ps_expr (pe_cal c_note (hr.mono (by omega)) (by rfl) (pa_cons (pv 1) (pa_cons (pv 3) (pa_cons (pv 5) pa_nil)))))))))), ?_⟩)
  rintro L hL pm av kk ⟨a, b, f, rfl, n1, n2, l1, l2, l3, l4, hk⟩
  have hL0 : L = none := hL rfl
  repeat walk_at "q"
  refine as_forI hL0 rfl T.cl_Face T.n_kinds (fld_kinds (C := T.C_Face) f) (fun i G => G = [.mt (av 0) (ownD (a ++ f.kinds.take i)), .mt (av 1) (fD b), .fr (f.o T.C_Face), .no, .no, .no]) ⟨[.mt (av 0) (ownD a), .mt (av 1) (fD b), .fr (f.o T.C_Face), .no, .no, .no], (by repeat (first | exact Wk.nil | refine Wk.keep ?_ | refine Wk.drop ?_)), by simp⟩ ?_ ?_
  · rintro d j t x G hj hx rfl
    obtain ⟨k, hk1, rfl⟩ := two_get (F := Kd.d) hj hx
    have h2 : (f.kinds.take j).length ≤ f.kinds.length := by rw [List.length_take]; omega
    repeat walk_at "q"
    refine cqm [0] [] (.mtp rfl rfl rfl (.fr (.fr .nil))) nl ⟨_, _, t, k.d, rfl, app_key n1 hk1, by rw [List.length_map, List.length_append]; omega, ?_⟩
    refine ⟨_, ?_, rfl⟩
    rw [take_more hk1, ← List.append_assoc, ownD_more]
    repeat (first | exact Wk.nil | refine Wk.keep ?_ | refine Wk.drop ?_)
  rintro G rfl
  have e2 : f.kinds.take (f.kinds.map (·.1)).length = f.kinds := by rw [List.length_map, List.take_length]
  rw [e2]
  refine as_forI hL0 rfl T.cl_Face T.n_funs (fld_funs (C := T.C_Face) f) (fun i G => G = [.mt (av 0) (ownD (a ++ f.kinds)), .mt (av 1) (fD (b ++ f.funs.take i)), .fr (f.o T.C_Face), .no, .no, .no]) ⟨[.mt (av 0) (ownD (a ++ f.kinds)), .mt (av 1) (fD b), .fr (f.o T.C_Face), .no, .no, .no], (by repeat (first | exact Wk.nil | refine Wk.keep ?_ | refine Wk.drop ?_)), by simp⟩ ?_ ?_
  · rintro d j t x G hj hx rfl
    obtain ⟨k, hk1, rfl⟩ := two_get (F := Sg.d) hj hx
    have h2 : (f.funs.take j).length ≤ f.funs.length := by rw [List.length_take]; omega
    repeat walk_at "q"
    refine cqm [1] [] (.mtp rfl rfl rfl (.fr (.fr .nil))) nl ⟨_, _, t, k.d, rfl, app_key n2 hk1, by rw [List.length_map, List.length_append]; omega, ?_⟩
    refine ⟨_, ?_, rfl⟩
    rw [take_more hk1, ← List.append_assoc, fD_more]
    repeat (first | exact Wk.nil | refine Wk.keep ?_ | refine Wk.drop ?_)
  rintro G rfl
  have e3 : f.funs.take (f.funs.map (·.1)).length = f.funs := by rw [List.length_map, List.take_length]
  rw [e3]
  exact ⟨[_, _], ⟨rfl, rfl, rfl⟩, hk⟩
end
end Q
-- text B6
set_option Elab.async false
set_option linter.all false
set_option maxRecDepth 100000
set_option maxHeartbeats 4000000
namespace Q
open PySem PySem.Spec PyProof.Rows L2
local macro_rules | `(tactic| walk_at "q") => `(tactic| (first
  | with_reducible refine as_seq ?_ | with_reducible refine as_ret ?_ | with_reducible refine as_if ?_ | with_reducible refine as_deal ?_ | with_reducible refine as_asg ?_ | with_reducible refine as_drop ?_ | with_reducible refine as_dput ?_
  | with_reducible refine at_test ?_ | with_reducible refine at_B ?_ | with_reducible refine at_not ?_ | with_reducible refine at_and ?_ | with_reducible refine at_or ?_
  | with_reducible refine ae_op ?_ | with_reducible refine ae_c ?_ | with_reducible refine ae_andV ?_ | with_reducible refine ae_notV ?_ | with_reducible refine ae_join ?_ | with_reducible refine ae_index ?_ | with_reducible refine ae_from1 ?_ | refine ae_un (i := 0) ?_ | refine ae_var rfl ?_ | refine ae_rd rfl ?_ | refine ae_mt rfl ?_ | with_reducible refine ae_call ?_ | with_reducible refine ae_tup ?_ | with_reducible refine ae_fld ?_ | with_reducible refine ae_cb ?_
  | with_reducible refine aa_nil ?_ | with_reducible refine aa_cons ?_
  | with_reducible refine ae_dget ?_ | with_reducible refine ae_dget2 ?_ | with_reducible refine ae_dget1 ?_ | with_reducible refine ae_din ?_ | with_reducible refine ae_dnotin ?_ | with_reducible refine ae_newK ?_ | with_reducible refine ae_newT ?_ | with_reducible refine ae_lst ?_
  | with_reducible refine ae_meth ?_ | with_reducible refine ct_yes ?_ | with_reducible refine ct_if ?_
  | refine ar_ixT rfl rfl ?_ | refine ar_ixL rfl rfl ?_ | refine ar_II ?_ | refine ar_eq rfl ?_
  | refine itT (by decide +kernel) ?_ | refine itF (by decide +kernel) ?_ | refine itF Bool.false_ne_true ?_ | refine itT rfl ?_
  | refine ⟨.inr ⟨_, _, rfl⟩, ?_⟩ | refine ⟨.inl ⟨_, _, rfl⟩, ?_⟩ | refine ⟨_, _, .T rfl, rfl, ?_⟩ | refine ⟨_, rfl, ?_⟩ | refine ⟨[_, _], rfl, Nat.le_of_ble_eq_true rfl, ?_⟩ | refine ⟨[_, _, _], rfl, Nat.le_of_ble_eq_true rfl, ?_⟩ | refine ⟨[], rfl, Nat.le_of_ble_eq_true rfl, ?_⟩ | refine ⟨[_], rfl, Nat.le_of_ble_eq_true rfl, ?_⟩
  | with_reducible refine as_forL ?_ | with_reducible refine as_forT ?_ | with_reducible refine as_forR ?_ | refine ae_app (ae_pl rfl rfl ⟨_, rfl, ⟨_, rfl⟩, ?_⟩) | refine ae_ins (ae_pl rfl rfl ⟨_, rfl, ⟨_, rfl⟩, ?_⟩) | refine ag_rd rfl ?_ | refine ag_name ?_ | refine ag_own ?_ | refine ag_tup rfl (ags_cons (ags_cons (ags_nil ?_))) | with_reducible refine as_next ?_))
abbrev s_fitted : Stmt := topS 19
abbrev n_fitted : List Str := ["had", "wanted", "part", "t", "kind", "given", "due", "f", "told", "found"]
abbrev p_fitted : List Str := ["had", "wanted", "part"]
theorem sc_fitted : FnScope n_fitted p_fitted (defScope s_fitted) := ⟨rfl, rfl, rfl, by decide +kernel, rfl, by decide +kernel, by decide +kernel⟩
abbrev s_hiding : Stmt := topS 25
abbrev n_hiding : List Str := ["face", "part", "given", "t"]
abbrev p_hiding : List Str := ["face", "part"]
theorem sc_hiding : FnScope n_hiding p_hiding (defScope s_hiding) := ⟨rfl, rfl, rfl, by decide +kernel, rfl, by decide +kernel, by decide +kernel⟩
abbrev s_seen_face : Stmt := topS 26
abbrev n_seen_face : List Str := ["full", "want", "part"]
abbrev p_seen_face : List Str := ["full", "want", "part"]
theorem sc_seen_face : FnScope n_seen_face p_seen_face (defScope s_seen_face) := ⟨rfl, rfl, rfl, by decide +kernel, rfl, by decide +kernel, by decide +kernel⟩
abbrev s_wanted : Stmt := topS 24
abbrev n_wanted : List Str := ["seal", "faces", "parts", "word", "withs", "t", "kind"]
abbrev p_wanted : List Str := ["seal", "faces", "parts"]
theorem sc_wanted : FnScope n_wanted p_wanted (defScope s_wanted) := ⟨rfl, rfl, rfl, by decide +kernel, rfl, by decide +kernel, by decide +kernel⟩
abbrev s_full_face : Stmt := topS 23
abbrev n_full_face : List Str := ["items", "parts", "most", "kinds", "funs", "item", "handed", "x", "kind"]
abbrev p_full_face : List Str := ["items", "parts", "most"]
theorem sc_full_face : FnScope n_full_face p_full_face (defScope s_full_face) := ⟨rfl, rfl, rfl, by decide +kernel, rfl, by decide +kernel, by decide +kernel⟩
def pyS (s : Sg) : PyData := .tuple [.tuple (s.1.map pyK), pyK s.2]
theorem pyD_Ks : ∀ l : List Kd, pyDs (l.map Kd.d) = some (l.map pyK)
  | [] => rfl
  | a :: l => by
    show (match pyD a.d, pyDs (l.map Kd.d) with | some p, some ps => some (p :: ps) | _, _ => none) = _
    rw [pyD_K, pyD_Ks l]
    rfl
theorem pyD_S (s : Sg) : pyD (Sg.d s) = some (pyS s) := by
  show (match (pyDs (s.1.map Kd.d)).map PyData.tuple, (match pyD s.2.d, some [] with | some p, some ps => some (p :: ps) | _, _ => none) with | some p, some ps => some (p :: ps) | _, _ => none).map PyData.tuple = _
  rw [pyD_Ks, pyD_K]
  rfl
theorem lay_Ks : ∀ l : List Kd, (∀ a ∈ l, a.B) → PyData.canLayAll0 (l.map pyK) = true
  | [], _ => rfl
  | a :: l, h => by
    rw [List.map_cons]
    simp [PyData.canLayAll0, pyK_lay a (h a (List.mem_cons_self ..)).2, lay_Ks l fun b hb => h b (List.mem_cons_of_mem _ hb)]
theorem dep_Ks : ∀ l : List Kd, (∀ a ∈ l, a.B) → PyData.depthAll (l.map pyK) ≤ 41
  | [], _ => by simp [PyData.depthAll]
  | a :: l, h => by
    have h1 := pyK_dep a
    have h2 := a.dep_le
    have h3 := (h a (List.mem_cons_self ..)).1
    have ih := dep_Ks l fun b hb => h b (List.mem_cons_of_mem _ hb)
    simp only [List.map_cons, PyData.depthAll]
    omega
theorem pyS_sh {s : Sg} (h1 : ∀ a ∈ s.1, a.B) (h2 : s.2.B) : SeqAt.shaped (pyS s) = true := by
  have a := lay_Ks s.1 h1
  have b := dep_Ks s.1 h1
  have c := pyK_lay s.2 h2.2
  have d1 := pyK_dep s.2
  have d2 := s.2.dep_le
  have d3 := h2.1
  unfold SeqAt.shaped pyS
  rw [Bool.and_eq_true]
  refine ⟨by simp [PyData.canLay0, PyData.canLayAll0, a, c], decide_eq_true ?_⟩
  simp only [PyData.depth, PyData.depthAll]
  omega
theorem eqv_Ks : ∀ l : List Kd, PyData.eqvAll (l.map pyK) (l.map pyK) = true
  | [] => rfl
  | a :: l => by
    rw [List.map_cons]
    simp only [PyData.eqvAll, pyK_eqv, eqv_Ks l, decide_true, Bool.and_self]
theorem pyS_eqv (s : Sg) : PyData.eqv (pyS s) (pyS s) = true := by
  unfold pyS
  simp only [PyData.eqv, PyData.eqvAll, eqv_Ks, pyK_eqv, decide_true, Bool.and_self]
def S_fitted (C : Addr) : Spec := fun pm kk => ∃ (had want : Fc) (part : Str), pm = [.fr (had.o C), .fr (want.o C), .fr (tD part)] ∧ had.B ∧ want.B ∧ Fits had want ∧ kk (.v (gD (fitG had want))) []
def S_hiding (C : Addr) : Spec := fun pm kk => ∃ (f : Fc) (q : Str), pm = [.fr (f.o C), .fr (tD q)] ∧ f.B ∧ (hidF q f).B ∧ kk (.v ((hidF q f).o C)) []
def S_seen (C : Addr) : Spec := fun pm kk => ∃ (full : Fc) (want : Option Fc) (q : Str), pm = [.fr (full.o C), .fr (match want with | none => .raw .non | some w => w.o C), .fr (tD q)] ∧ full.B ∧ SeenOk full want q ∧ kk (.v ((seenN full want q).o C)) []
theorem gD_put {g : Gv} {p : Str × Str} {k : Kd} : gD (g ++ [(p, k)]) = .dT (g.map (·.1) ++ [p]) ((g.map fun p => p.2.d) ++ [k.d]) := by unfold gD; rw [List.map_append, List.map_append]; rfl
/-- a dict keyed by words behind one word -/
def wG (q : Str) (φ : Str → Kd) (l : List Str) : Gv := l.map fun t => ((q, t), φ t)
theorem wG_more {q : Str} {φ : Str → Kd} {l : List Str} {i : Nat} {t : Str} (h : l[i]? = some t) : wG q φ (l.take (i + 1)) = wG q φ (l.take i) ++ [((q, t), φ t)] := by
  rw [take_more h]; unfold wG; rw [List.map_append]; rfl
theorem wG_keys (q : Str) (φ : Str → Kd) (l : List Str) : (wG q φ l).map (·.1) = l.map fun t => (q, t) := by unfold wG; rw [List.map_map]; rfl
theorem wG_nin {q : Str} {φ : Str → Kd} {l : List Str} (nd : l.Nodup) {i : Nat} {t : Str} (h : l[i]? = some t) : (q, t) ∉ (wG q φ (l.take i)).map (·.1) := by
  rw [wG_keys]
  intro m
  obtain ⟨u, hu, e⟩ := List.mem_map.mp m
  injection e with _ e
  subst e
  exact nd_take nd h hu
theorem wG_len {q : Str} {φ : Str → Kd} {l : List Str} {i : Nat} (h : l.length ≤ 1000) : ((wG q φ (l.take i)).map fun p => p.2.d).length ≤ 100000 := by
  unfold wG
  have := List.length_take (i := i) (l := l)
  rw [List.length_map, List.length_map]
  omega
theorem fitG_w (had want : Fc) : fitG had want = wG "" (fun t => (look had.kinds t).getD (.num 0)) (hidK want.kinds) := rfl
theorem hideG_w (q : Str) (f : Fc) : hideG q f = wG "" (fun t => .nm q t) (hidK f.kinds) := rfl
section
variable {P : Program} {w : World} {K : PySem.W.Frag} {mg : Str → Option Value} {base : Heap}
theorem ok_fitted {f : Addr} {fd : FuncData} (T : Txt K mg) (F : FunD K "fitted" "fitted" (defArgs s_fitted) (defBody s_fitted) (defScope s_fitted) [.str ""] [] f fd)
    (c_put_kinds : Callee P w K mg base 100 "put_kinds" p_put [] false (S_put 100)) (c_Face_hidden : CalleeM P w K mg base 1 T.C_Face "hidden" p_Face_hidden [] true (S_Fhid T.C_Face)) :
    FnOk P w K mg base CX0 101 f fd p_fitted (spOf true (S_fitted T.C_Face)) := by
  refine fun_okD F sc_fitted (by decide) (fun pm k h => by obtain ⟨_, _, _, rfl, _⟩ := h; rfl) (fun cdv A outer s H X hr => ⟨_, (pss_cons (ps_lock (ps_for PassesOwn.never rfl (pi_items (pe_fld (pv 1) rfl)) (pg_tup (by rfl) (pgs_cons (pg_name (i := 3) sc_fitted.nd rfl (Or.inl rfl)) (pgs_cons (pg_name (i := 4) sc_fitted.nd rfl (Or.inl rfl)) pgs_nil)))
    (pss_one (ps_if (pt_cmp (pc_dnotin (hu_of hr) (pv 3) (pe_fld (pv 0) rfl)))
    (pss_one ps_never)
    pss_nil))))
    (pss_cons (ps_set (i := 5) sc_fitted.nd rfl (Or.inr rfl) pe_dnewT)
    (pss_cons (ps_for PassesOwn.never rfl (pi_list (pe_calM0 (pv 1) c_Face_hidden (hr.mono (by omega)))) (pg_name (i := 3) sc_fitted.nd rfl (Or.inl rfl))
    (pss_one (ps_dput (hu_of hr) (pv 5) (pe_tup (pa_cons pe_str (pa_cons (pv 3) pa_nil))) (pe_dget (hu_of hr) (pe_fld (pv 0) rfl) (pv 3) (fun _ _ => rfl)) rfl)))
    (pss_cons (ps_lock (ps_for PassesOwn.never rfl (pi_items (pe_fld (pv 1) rfl)) (pg_tup (by rfl) (pgs_cons (pg_name (i := 3) sc_fitted.nd rfl (Or.inl rfl)) (pgs_cons (pg_name (i := 4) sc_fitted.nd rfl (Or.inl rfl)) pgs_nil)))
    (pss_cons (ps_set (i := 6) sc_fitted.nd rfl (Or.inl rfl) (pe_cal c_put_kinds (hr.mono (by omega)) (by rfl) (pa_cons (pv 4) (pa_cons (pv 5) pa_nil))))
    (pss_one (ps_if (pt_cmpR (op_neD hr.units) (pv 6) (pe_dget (hu_of hr) (pe_fld (pv 0) rfl) (pv 3) (fun _ _ => rfl)) (nomark _))
    (pss_one ps_never)
    pss_nil)))))
    (pss_cons (ps_lock (ps_for PassesOwn.never rfl (pi_items (pe_fld (pv 1) rfl)) (pg_tup (by rfl) (pgs_cons (pg_name (i := 7) sc_fitted.nd rfl (Or.inl rfl)) (pgs_cons (pg_name (i := 8) sc_fitted.nd rfl (Or.inl rfl)) pgs_nil)))
    (pss_cons (ps_set (i := 6) sc_fitted.nd rfl (Or.inl rfl) (pe_tup (pa_cons (pe_callTy call_tuple_of (by rfl) T.z_tuple (by decide +kernel) (pa_cons (pe_lc (own := [("kind", 4)]) (g := gName 4) (tt := tYes) (by rfl) sc_fitted.nd (pi_tup (pe_ix ix_tup (pv 8) pe_int (fun _ _ => rfl))) (blkOk_by (N := n_fitted) (sc := defScope s_fitted) (by decide +kernel))
        (fun _ _ _ _ _ => (pg_name (i := 4) sc_fitted.nd rfl (Or.inl rfl))) (fun _ _ _ _ _ => pts_nil)
        (fun _ _ _ _ _ => (pe_cal c_put_kinds (hr.mono (by omega)) (by rfl) (pa_cons (pv 4) (pa_cons (pv 5) pa_nil))))) pa_nil)) (pa_cons (pe_cal c_put_kinds (hr.mono (by omega)) (by rfl) (pa_cons (pe_ix ix_tup (pv 8) pe_int (fun _ _ => rfl)) (pa_cons (pv 5) pa_nil))) pa_nil))))
    (pss_cons (ps_set (i := 9) sc_fitted.nd rfl (Or.inl rfl) (pe_dget1 (hu_of hr) (pe_fld (pv 0) rfl) (pv 7) ⟨by rfl, by rfl, by rfl, by rfl⟩))
    (pss_one (ps_if (pt_cmpR (op_neD hr.units) (pv 9) (pv 6) (nomark _))
    (pss_one ps_never)
    pss_nil))))))
    (pss_one (ps_ret (pv 5)))))))), ?_⟩)
  rintro L hL pm av kk ⟨had, want, part, rfl, hb, wb, hf, hk⟩
  have hL0 : L = none := hL rfl
  repeat walk_at "q"
  refine as_forI hL0 rfl T.cl_Face T.n_kinds (fld_kinds (C := T.C_Face) want) (fun i G => G = [.fr (had.o T.C_Face), .fr (want.o T.C_Face), .fr (tD part), .no, .no, .no, .no, .no, .no, .no]) ⟨_, (by repeat (first | exact Wk.nil | refine Wk.keep ?_ | refine Wk.drop ?_)), rfl⟩ ?_ ?_
  · rintro d j t x G hj hx rfl
    obtain ⟨k, hk1, rfl⟩ := two_get (F := Kd.d) hj hx
    have lk := hf.k _ (List.mem_of_getElem? hk1)
    repeat (first | walk_at "q" | refine ⟨_, _, _, _, rfl, T.cl_Face, T.n_kinds, fld_kinds (C := T.C_Face) _, ?_⟩ | refine ⟨_, _, _, _, rfl, T.cl_Face, T.n_funs, fld_funs (C := T.C_Face) _, ?_⟩)
    refine ⟨_, .K' rfl (lk_some (f := Kd.d) lk), ?_⟩
    repeat walk_at "q"
    refine ⟨_, ?_, rfl⟩
    repeat (first | exact Wk.nil | refine Wk.keep ?_ | refine Wk.drop ?_)
  rintro G rfl
  repeat walk_at "q"
  refine ⟨_, _, rfl, by decide, ?_⟩
  repeat walk_at "q"
  refine cq0 (.fr .nil) hL ⟨want, rfl, wb, ?_⟩
  repeat walk_at "q"
  refine ⟨fun i G => G = [.fr (had.o T.C_Face), .fr (want.o T.C_Face), .fr (tD part), .no, .no, .own (gD (wG "" (fun t => (look had.kinds t).getD (.num 0)) ((hidK want.kinds).take i))), .no, .no, .no, .no], ⟨_, (by repeat (first | exact Wk.nil | refine Wk.keep ?_ | refine Wk.drop ?_)), rfl⟩, ?_, ?_⟩
  · rintro i d G hi rfl
    obtain ⟨t, ht, rfl⟩ := map_get hi
    have lk := hf.k _ (hidK_mem.mp (List.mem_of_getElem? ht))
    obtain ⟨v, hv⟩ : ∃ v, look had.kinds t = some v := ⟨_, lk⟩
    repeat (first | walk_at "q" | refine ⟨_, _, _, _, rfl, T.cl_Face, T.n_kinds, fld_kinds (C := T.C_Face) _, ?_⟩ | refine ⟨_, _, _, _, rfl, T.cl_Face, T.n_funs, fld_funs (C := T.C_Face) _, ?_⟩)
    refine ⟨_, .K' rfl (lk_some (f := Kd.d) hv), ?_⟩
    refine ae_pl rfl rfl ?_
    repeat walk_at "q"
    refine ⟨_, _, _, _, _, rfl, rfl, rfl, rfl, rfl, .T (wG_nin (hidK_nd wb.nk) ht) (wG_len (by have := hidK_len want.kinds; have := wb.lk; omega)), ?_⟩
    refine ⟨_, ?_, rfl⟩
    rw [wG_more ht, gD_put, hv]
    repeat (first | exact Wk.nil | refine Wk.keep ?_ | refine Wk.drop ?_)
  rintro G rfl
  have e1 : (hidK want.kinds).take ((hidK want.kinds).map tD).length = hidK want.kinds := by rw [List.length_map, List.take_length]
  rw [e1, ← fitG_w]
  refine as_seq ?_
  refine as_forI hL0 rfl T.cl_Face T.n_kinds (fld_kinds (C := T.C_Face) want) (fun i G => G = [.fr (had.o T.C_Face), .fr (want.o T.C_Face), .fr (tD part), .no, .no, .own (gD (fitG had want)), .no, .no, .no, .no]) ⟨_, (by repeat (first | exact Wk.nil | refine Wk.keep ?_ | refine Wk.drop ?_)), rfl⟩ ?_ ?_
  · rintro d j t x G hj hx rfl
    obtain ⟨k, hk1, rfl⟩ := two_get (F := Kd.d) hj hx
    have lk := hf.k _ (List.mem_of_getElem? hk1)
    have b1 := wb.at hk1
    have b2 := hb.k _ (look_mem lk)
    repeat walk_at "q"
    refine ae_pl rfl rfl ?_
    repeat walk_at "q"
    refine cq0 (.fr (.rdp rfl rfl .nil)) nl ⟨k, fitG had want, rfl, b1.2.dep, ?_⟩
    repeat (first | walk_at "q" | refine ⟨_, _, _, _, rfl, T.cl_Face, T.n_kinds, fld_kinds (C := T.C_Face) _, ?_⟩ | refine ⟨_, _, _, _, rfl, T.cl_Face, T.n_funs, fld_funs (C := T.C_Face) _, ?_⟩)
    refine ⟨_, .K' rfl (lk_some (f := Kd.d) lk), ?_⟩
    refine ar_neD (pyD_K _) (pyD_K _) (pyK_sh b2.2) (pyK_sh b2.2) ?_
    rw [pyK_eqv]
    repeat walk_at "q"
    refine itF (by simp) ?_
    repeat walk_at "q"
    refine ⟨_, ?_, rfl⟩
    repeat (first | exact Wk.nil | refine Wk.keep ?_ | refine Wk.drop ?_)
  rintro G rfl
  refine as_seq ?_
  refine as_forI hL0 rfl T.cl_Face T.n_funs (fld_funs (C := T.C_Face) want) (fun i G => G = [.fr (had.o T.C_Face), .fr (want.o T.C_Face), .fr (tD part), .no, .no, .own (gD (fitG had want)), .no, .no, .no, .no]) ⟨_, (by repeat (first | exact Wk.nil | refine Wk.keep ?_ | refine Wk.drop ?_)), rfl⟩ ?_ ?_
  · rintro d j t x G hj hx rfl
    obtain ⟨k, hk1, rfl⟩ := two_get (F := Sg.d) hj hx
    have lk := hf.f _ (List.mem_of_getElem? hk1)
    have b1 := wb.af hk1
    have b2 := hb.f _ (look_mem lk)
    obtain ⟨as, r⟩ := k
    repeat walk_at "q"
    refine ae_lcT ?_
    repeat walk_at "q"
    refine ⟨by rw [List.length_map]; have := b1.1; omega, fun i acc G => acc = ((as.take i).map fun a => (a.put (fitG had want)).d) ∧ G = [.fr (had.o T.C_Face), .fr (want.o T.C_Face), .fr (tD part), .no, .no, .own (gD (fitG had want)), .no, .fr (tD t), .fr (Sg.d (as, r)), .no], ⟨rfl, rfl⟩, fun n acc G' h => by rw [h.2]; rfl, ?_, ?_⟩
    · rintro n x acc G' hx ⟨rfl, rfl⟩
      obtain ⟨a, ha, rfl⟩ := map_get hx
      have c1 : a.B := b1.2.1 a (List.mem_of_getElem? ha)
      refine aw_name (by decide) ?_
      repeat walk_at "q"
      refine ae_pl rfl rfl ?_
      repeat walk_at "q"
      refine cq0 (.fr (.rdp rfl rfl .nil)) nl ⟨a, fitG had want, rfl, c1.dep, ?_⟩
      refine ⟨_, rfl, ?_, rfl⟩
      rw [take_more ha, List.map_append]
      rfl
    · rintro acc G' hl ⟨rfl, rfl⟩
      have e3 : D.tup [.tup ((as.take (as.map Kd.d).length).map fun a => (a.put (fitG had want)).d), (r.put (fitG had want)).d] = Sg.d (Sg.put (fitG had want) (as, r)) := by
        rw [List.length_map, List.take_length]
        show _ = D.tup [.tup ((as.map (Kd.put _)).map Kd.d), _]
        rw [List.map_map]
        rfl
      repeat walk_at "q"
      refine ac_tupL rfl ?_
      repeat walk_at "q"
      refine ae_pl rfl rfl ?_
      repeat walk_at "q"
      refine cq0 (.fr (.rdp rfl rfl .nil)) nl ⟨r, fitG had want, rfl, b1.2.2.dep, ?_⟩
      repeat walk_at "q"
      rw [e3]
      repeat (first | walk_at "q" | refine ⟨_, _, _, _, rfl, T.cl_Face, T.n_kinds, fld_kinds (C := T.C_Face) _, ?_⟩ | refine ⟨_, _, _, _, rfl, T.cl_Face, T.n_funs, fld_funs (C := T.C_Face) _, ?_⟩)
      refine ⟨_, .K' rfl (lk_some (f := Sg.d) lk), ?_⟩
      repeat walk_at "q"
      refine ar_neD (pyD_S _) (pyD_S _) (pyS_sh b2.2.1 b2.2.2) (pyS_sh b2.2.1 b2.2.2) ?_
      rw [pyS_eqv]
      repeat walk_at "q"
      refine ⟨_, ?_, rfl⟩
      repeat (first | exact Wk.nil | refine Wk.keep ?_ | refine Wk.drop ?_)
  rintro G rfl
  repeat walk_at "q"
  refine ae_frz rfl ?_
  exact ⟨[], rfl, rfl, hk⟩
end
end Q
-- text B7
set_option Elab.async false
set_option linter.all false
set_option maxRecDepth 100000
set_option maxHeartbeats 4000000
namespace Q
open PySem PySem.Spec PyProof.Rows L2
local macro_rules | `(tactic| walk_at "q") => `(tactic| (first
  | with_reducible refine as_seq ?_ | with_reducible refine as_ret ?_ | with_reducible refine as_if ?_ | with_reducible refine as_deal ?_ | with_reducible refine as_asg ?_ | with_reducible refine as_drop ?_ | with_reducible refine as_dput ?_
  | with_reducible refine at_test ?_ | with_reducible refine at_B ?_ | with_reducible refine at_not ?_ | with_reducible refine at_and ?_ | with_reducible refine at_or ?_
  | with_reducible refine ae_op ?_ | with_reducible refine ae_c ?_ | with_reducible refine ae_andV ?_ | with_reducible refine ae_notV ?_ | with_reducible refine ae_join ?_ | with_reducible refine ae_index ?_ | with_reducible refine ae_from1 ?_ | refine ae_un (i := 0) ?_ | refine ae_var rfl ?_ | refine ae_rd rfl ?_ | refine ae_mt rfl ?_ | with_reducible refine ae_call ?_ | with_reducible refine ae_tup ?_ | with_reducible refine ae_fld ?_ | with_reducible refine ae_cb ?_
  | with_reducible refine aa_nil ?_ | with_reducible refine aa_cons ?_
  | with_reducible refine ae_dget ?_ | with_reducible refine ae_dget2 ?_ | with_reducible refine ae_dget1 ?_ | with_reducible refine ae_din ?_ | with_reducible refine ae_dnotin ?_ | with_reducible refine ae_newK ?_ | with_reducible refine ae_newT ?_ | with_reducible refine ae_lst ?_
  | with_reducible refine ae_meth ?_ | with_reducible refine ct_yes ?_ | with_reducible refine ct_if ?_
  | refine ar_ixT rfl rfl ?_ | refine ar_ixL rfl rfl ?_ | refine ar_II ?_ | refine ar_eq rfl ?_
  | refine itT (by decide +kernel) ?_ | refine itF (by decide +kernel) ?_ | refine itF Bool.false_ne_true ?_ | refine itT rfl ?_
  | refine ⟨.inr ⟨_, _, rfl⟩, ?_⟩ | refine ⟨.inl ⟨_, _, rfl⟩, ?_⟩ | refine ⟨_, _, .T rfl, rfl, ?_⟩ | refine ⟨_, rfl, ?_⟩ | refine ⟨[_, _], rfl, Nat.le_of_ble_eq_true rfl, ?_⟩ | refine ⟨[_, _, _], rfl, Nat.le_of_ble_eq_true rfl, ?_⟩ | refine ⟨[], rfl, Nat.le_of_ble_eq_true rfl, ?_⟩ | refine ⟨[_], rfl, Nat.le_of_ble_eq_true rfl, ?_⟩
  | with_reducible refine as_forL ?_ | with_reducible refine as_forT ?_ | with_reducible refine as_forR ?_ | refine ae_app (ae_pl rfl rfl ⟨_, rfl, ⟨_, rfl⟩, ?_⟩) | refine ae_ins (ae_pl rfl rfl ⟨_, rfl, ⟨_, rfl⟩, ?_⟩) | refine ag_rd rfl ?_ | refine ag_name ?_ | refine ag_own ?_ | refine ag_tup rfl (ags_cons (ags_cons (ags_nil ?_))) | with_reducible refine as_next ?_))
def slD : Sl → D
  | none => .raw .non
  | some (w, ws) => .tup [tD w, .tup (wsD ws)]
def S_wanted (C : Addr) : Spec := fun pm kk => ∃ (sl : Sl) (faces parts : Parts), pm = [.fr (slD sl), .rd (partsD C faces), .rd (partsD C parts)] ∧ WantOk faces parts sl ∧ kk (match wantN faces parts sl with | none => .v (.raw .non) | some f => .v (f.o C)) []
def It.d : It → D
  | .kind t k => .tup [tD "kind", tD t, k.d]
  | .opn x => .tup [tD "open", tD x]
  | .fn t ps r => .tup [tD "fun", tD t, .tup (wsD ps), r.d, .tup [tD "var", tD "x"]]
def S_full (C : Addr) : Spec := fun pm kk => ∃ (its : List It) (parts : Parts), pm = [.fr (.tup (its.map It.d)), .rd (partsD C parts), .fr (.raw (.int 40))] ∧ FullOk parts its ∧ kk (.v ((fullN parts its).o C)) []
theorem wsD_more {ws : List (Str × Kd)} {i : Nat} {t : Str} {k : Kd} (h : ws[i]? = some (t, k)) : wsD (ws.take (i + 1)) = wsD (ws.take i) ++ [prd t k.d] := by
  rw [take_more h]; unfold wsD; rw [List.map_append]; rfl
theorem NOk.b100 {k : Kd} {own : List (Str × Kd)} {parts : Parts} (h : NOk k own parts) : k.words ≤ 5000 := by have := h.b.1; omega
section
variable {P : Program} {w : World} {K : PySem.W.Frag} {mg : Str → Option Value} {base : Heap}
theorem ok_hiding {f : Addr} {fd : FuncData} (T : Txt K mg) (F : Fun K "hiding" "hiding" s_hiding f fd)
    (c_Face_hidden : CalleeM P w K mg base 1 T.C_Face "hidden" p_Face_hidden [] true (S_Fhid T.C_Face)) (c_Face_put : CalleeM P w K mg base 103 T.C_Face "put" p_Face_put [.int 40] true (S_Fput T.C_Face)) :
    FnOk P w K mg base CX0 104 f fd p_hiding (spOf true (S_hiding T.C_Face)) := by
  refine fun_ok F sc_hiding (by decide) (fun pm k h => by obtain ⟨_, _, rfl, _⟩ := h; rfl) (fun cdv A outer s H X hr => ⟨_, (pss_cons (ps_set (i := 2) sc_hiding.nd rfl (Or.inl rfl) pe_dnewT)
    (pss_cons (ps_for PassesOwn.never rfl (pi_list (pe_calM0 (pv 0) c_Face_hidden (hr.mono (by omega)))) (pg_name (i := 3) sc_hiding.nd rfl (Or.inl rfl))
    (pss_one (ps_dput (hu_of hr) (pv 2) (pe_tup (pa_cons pe_str (pa_cons (pv 3) pa_nil))) (pe_tup (pa_cons pe_str (pa_cons (pv 1) (pa_cons (pv 3) pa_nil)))) rfl)))
    (pss_one (ps_ret (pe_calM (pv 0) c_Face_put (hr.mono (by omega)) (pa_cons (pv 2) pa_nil)))))), ?_⟩)
  rintro L hL pm av kk ⟨f, q, rfl, hb, hb2, hk⟩
  repeat walk_at "q"
  refine ⟨_, _, rfl, by decide, ?_⟩
  repeat walk_at "q"
  refine cq0 (.fr .nil) hL ⟨f, rfl, hb, ?_⟩
  repeat walk_at "q"
  refine ⟨fun i G => G = [.fr (f.o T.C_Face), .fr (tD q), .own (gD (wG "" (fun t => .nm q t) ((hidK f.kinds).take i))), .no], ⟨_, (by repeat (first | exact Wk.nil | refine Wk.keep ?_ | refine Wk.drop ?_)), rfl⟩, ?_, ?_⟩
  · rintro i d G hi rfl
    obtain ⟨t, ht, rfl⟩ := map_get hi
    repeat walk_at "q"
    refine ae_pl rfl rfl ?_
    repeat walk_at "q"
    refine ⟨_, _, _, _, _, rfl, rfl, rfl, rfl, rfl, .T (wG_nin (hidK_nd hb.nk) ht) (wG_len (by have := hidK_len f.kinds; have := hb.lk; omega)), ?_⟩
    refine ⟨_, ?_, rfl⟩
    rw [wG_more ht, gD_put]
    repeat (first | exact Wk.nil | refine Wk.keep ?_ | refine Wk.drop ?_)
  rintro G rfl
  have e1 : (hidK f.kinds).take ((hidK f.kinds).map tD).length = hidK f.kinds := by rw [List.length_map, List.take_length]
  rw [e1, ← hideG_w]
  repeat walk_at "q"
  refine ⟨_, _, rfl, by decide, ?_⟩
  repeat walk_at "q"
  refine ae_pl rfl rfl ?_
  repeat walk_at "q"
  refine cq0 (.fr (.rdp rfl rfl (.fr .nil))) hL ⟨f, hideG q f, rfl, hb, hb2, ?_⟩
  exact ⟨[], rfl, rfl, hk⟩
theorem ok_seen_face {f : Addr} {fd : FuncData} (T : Txt K mg) (F : Fun K "seen_face" "seen_face" s_seen_face f fd)
    (c_fitted : Callee P w K mg base 101 "fitted" p_fitted [] true (S_fitted T.C_Face)) (c_hiding : Callee P w K mg base 104 "hiding" p_hiding [] true (S_hiding T.C_Face)) (m_Face : MakeC P w K mg base 1 "Face" T.C_Face p_Face_init (spFace T.C_Face)) :
    FnOk P w K mg base CX0 105 f fd p_seen_face (spOf true (S_seen T.C_Face)) := by
  refine fun_ok F sc_seen_face (by decide) (fun pm k h => by obtain ⟨_, _, _, rfl, _⟩ := h; rfl) (fun cdv A outer s H X hr => ⟨_, (pss_cons (ps_if (pt_cmpR op_isN (pv 1) pe_non (nomark _))
    (pss_one (ps_ret (pe_mk m_Face (hr.mono (by omega)) (by rfl) (pa_cons (pe_fld (pv 0) rfl) (pa_cons (pe_fld (pv 0) rfl) pa_nil)))))
    pss_nil)
    (pss_cons (ps_expr (pe_cal c_fitted (hr.mono (by omega)) (by rfl) (pa_cons (pv 0) (pa_cons (pv 1) (pa_cons (pv 2) pa_nil)))))
    (pss_one (ps_ret (pe_cal c_hiding (hr.mono (by omega)) (by rfl) (pa_cons (pv 1) (pa_cons (pv 2) pa_nil))))))), ?_⟩)
  rintro L hL pm av kk ⟨full, want, q, rfl, hb, hs, hk⟩
  cases want with
  | none =>
    repeat walk_at "q"
    refine ar_isN ?_
    repeat walk_at "q"
    refine ae_face ?_
    repeat (first | walk_at "q" | refine ⟨_, _, _, _, rfl, T.cl_Face, T.n_kinds, fld_kinds (C := T.C_Face) _, ?_⟩ | refine ⟨_, _, _, _, rfl, T.cl_Face, T.n_funs, fld_funs (C := T.C_Face) _, ?_⟩)
    refine ⟨_, _, _, _, _, _, rfl, rfl, rfl, ?_⟩
    exact ⟨[], rfl, rfl, hk⟩
  | some w =>
    obtain ⟨wb, hf, hb2⟩ := hs
    repeat walk_at "q"
    refine ar_isN_obj rfl rfl ?_
    repeat walk_at "q"
    refine cq0 (.fr (.fr (.fr .nil))) hL ⟨full, w, q, rfl, hb, wb, hf, ?_⟩
    repeat walk_at "q"
    refine cq0 (.fr (.fr .nil)) hL ⟨w, q, rfl, wb, hb2, ?_⟩
    exact ⟨[], rfl, rfl, hk⟩
theorem ok_wanted {f : Addr} {fd : FuncData} (T : Txt K mg) (F : Fun K "wanted" "wanted" s_wanted f fd)
    (c_refined : Callee P w K mg base 104 "refined" p_refined [] true (S_refined T.C_Face)) (c_normal : Callee P w K mg base 102 "normal" p_normal [.int 40] false (S_normal T.C_Face)) :
    FnOk P w K mg base CX0 105 f fd p_wanted (spOf true (S_wanted T.C_Face)) := by
  refine fun_ok F sc_wanted (by decide) (fun pm k h => by obtain ⟨_, _, _, rfl, _⟩ := h; rfl) (fun cdv A outer s H X hr => ⟨_, (pss_cons (ps_if (pt_cmpR op_isN (pv 0) pe_non (nomark _))
    (pss_one (ps_ret pe_non))
    pss_nil)
    (pss_cons (ps_asg (pv 0) (pg_tup (by rfl) (pgs_cons (pg_name (i := 3) sc_wanted.nd rfl (Or.inl rfl)) (pgs_cons (pg_name (i := 4) sc_wanted.nd rfl (Or.inl rfl)) pgs_nil))))
    (pss_cons (ps_if (pt_cmp (pc_dnotin (hu_of hr) (pv 3) (pv 1)))
    (pss_one ps_never)
    pss_nil)
    (pss_one (ps_ret (pe_cal c_refined (hr.mono (by omega)) (by rfl) (pa_cons (pe_dget (hu_of hr) (pv 1) (pv 3) (fun _ _ => rfl)) (pa_cons (pe_lc (own := [("t", 5), ("kind", 6)]) (g := gTup K 2 (gCons (gName 5) (gCons (gName 6) gNil))) (tt := tYes) (by rfl) sc_wanted.nd (pi_tup (pv 4)) (blkOk_by (N := n_wanted) (sc := defScope s_wanted) (by decide +kernel))
        (fun _ _ _ _ _ => (pg_tup (by rfl) (pgs_cons (pg_name (i := 5) sc_wanted.nd rfl (Or.inl rfl)) (pgs_cons (pg_name (i := 6) sc_wanted.nd rfl (Or.inl rfl)) pgs_nil)))) (fun _ _ _ _ _ => pts_nil)
        (fun _ _ _ _ _ => (pe_tup (pa_cons (pv 5) (pa_cons (pe_cal c_normal (hr.mono (by omega)) (by rfl) (pa_cons (pv 6) (pa_cons pe_dnewK (pa_cons (pv 2) pa_nil)))) pa_nil))))) pa_nil)))))))), ?_⟩)
  rintro L hL pm av kk ⟨sl, faces, parts, rfl, hs, hk⟩
  cases sl with
  | none =>
    repeat walk_at "q"
    refine ar_isN ?_
    repeat walk_at "q"
    exact ⟨[], rfl, rfl, hk⟩
  | some sl =>
    obtain ⟨wd, ws⟩ := sl
    obtain ⟨hl, hn, fc, hfc, hr⟩ := hs
    have hk : kk (match (look faces wd).map fun f => refN f (norK [] parts ws) with | none => .v (.raw .non) | some f => .v (f.o T.C_Face)) [] := hk
    rw [hfc] at hk
    repeat walk_at "q"
    refine ar_isN_obj rfl rfl ?_
    repeat walk_at "q"
    refine ⟨_, .K' rfl (lk_some (f := fun x : Fc => x.o T.C_Face) hfc), ?_⟩
    repeat walk_at "q"
    refine ⟨_, .K' rfl (lk_some (f := fun x : Fc => x.o T.C_Face) hfc), ?_⟩
    repeat walk_at "q"
    refine ae_lcT ?_
    repeat walk_at "q"
    refine ⟨by unfold wsD; rw [List.length_map]; omega, fun i acc G => acc = wsD (norK [] parts (ws.take i)) ∧ G = [.fr (slD (some (wd, ws))), .rd (partsD T.C_Face faces), .rd (partsD T.C_Face parts), .fr (tD wd), .fr (.tup (wsD ws)), .no, .no], ⟨rfl, rfl⟩, fun n acc G' h => by rw [h.2]; rfl, ?_, ?_⟩
    · rintro n x acc G' hx ⟨rfl, rfl⟩
      obtain ⟨⟨t, k⟩, ha, rfl⟩ := map_get hx
      have nk := hn _ (List.mem_of_getElem? ha)
      refine aw_tup rfl (aws_cons (by decide) (aws_cons (by decide) (aws_nil ?_)))
      repeat walk_at "q"
      refine cq0 (.fr (.rdv rfl (.rdp rfl rfl (.fr .nil)))) nl ⟨k, [], parts, 40, rfl, nk.b.dep, nk.b.2, nk.b100, nk.all, i40 nk.r, nk.r.dep, ?_⟩
      repeat walk_at "q"
      refine ⟨?_, rfl⟩
      rw [norK_more ha]
      unfold wsD
      rw [List.map_append]
      rfl
    · rintro acc G' hl ⟨rfl, rfl⟩
      have e1 : ws.take (wsD ws).length = ws := by unfold wsD; rw [List.length_map, List.take_length]
      rw [e1]
      repeat walk_at "q"
      refine cq0 (.fr (.fr .nil)) hL ⟨fc, norK [] parts ws, rfl, hr, ?_⟩
      exact ⟨[], rfl, rfl, hk⟩
theorem ok_full_face {f : Addr} {fd : FuncData} (T : Txt K mg) (F : FunD K "full_face" "full_face" (defArgs s_full_face) (defBody s_full_face) (defScope s_full_face) [.int 40] [] f fd)
    (c_note : Callee P w K mg base 1 "note" p_note [] false S_noteW) (c_note_opened : Callee P w K mg base 2 "note_opened" p_note_opened [] true (S_noteO T.C_Face)) (c_normal : Callee P w K mg base 102 "normal" p_normal [] false (S_normal T.C_Face))
    (m_Face : MakeC P w K mg base 1 "Face" T.C_Face p_Face_init (spFace T.C_Face)) :
    FnOk P w K mg base CX0 103 f fd p_full_face (spOf true (S_full T.C_Face)) := by
  refine fun_okD F sc_full_face (by decide) (fun pm k h => by obtain ⟨_, _, rfl, _⟩ := h; rfl) (fun cdv A outer s H X hr => ⟨_, (pss_cons (ps_set (i := 3) sc_full_face.nd rfl (Or.inr rfl) pe_dnewK)
    (pss_cons (ps_set (i := 4) sc_full_face.nd rfl (Or.inl rfl) pe_dnewK)
    (pss_cons (ps_for PassesOwn.never rfl (pi_tup (pv 0)) (pg_name (i := 5) sc_full_face.nd rfl (Or.inl rfl))
    (pss_one (ps_if (pt_cmpR op_eq (pe_ix ix_tup (pv 5) pe_int (fun _ _ => rfl)) pe_str (nomark _))
    (pss_one (ps_expr (pe_cal c_note (hr.mono (by omega)) (by rfl) (pa_cons (pv 3) (pa_cons (pe_ix ix_tup (pv 5) pe_int (fun _ _ => rfl)) (pa_cons (pe_cal c_normal (hr.mono (by omega)) (by rfl) (pa_cons (pe_ix ix_tup (pv 5) pe_int (fun _ _ => rfl)) (pa_cons (pv 3) (pa_cons (pv 1) (pa_cons (pv 2) pa_nil))))) pa_nil))))))
    (pss_one (ps_if (pt_cmpR op_eq (pe_ix ix_tup (pv 5) pe_int (fun _ _ => rfl)) pe_str (nomark _))
    (pss_cons (ps_if (pt_cmp (pc_dnotin (hu_of hr) (pe_ix ix_tup (pv 5) pe_int (fun _ _ => rfl)) (pv 1)))
    (pss_one ps_never)
    pss_nil)
    (pss_one (ps_expr (pe_cal c_note_opened (hr.mono (by omega)) (by rfl) (pa_cons (pv 3) (pa_cons (pv 4) (pa_cons (pe_dget (hu_of hr) (pv 1) (pe_ix ix_tup (pv 5) pe_int (fun _ _ => rfl)) (fun _ _ => rfl)) pa_nil)))))))
    (pss_cons (ps_set (i := 6) sc_full_face.nd rfl (Or.inl rfl) (pe_callTy call_tuple_of (by rfl) T.z_tuple (by decide +kernel) (pa_cons (pe_lc (own := [("x", 7), ("kind", 8)]) (g := gTup K 2 (gCons (gName 7) (gCons (gName 8) gNil))) (tt := tYes) (by rfl) sc_full_face.nd (pi_tup (pe_ix ix_tup (pv 5) pe_int (fun _ _ => rfl))) (blkOk_by (N := n_full_face) (sc := defScope s_full_face) (by decide +kernel))
        (fun _ _ _ _ _ => (pg_tup (by rfl) (pgs_cons (pg_name (i := 7) sc_full_face.nd rfl (Or.inl rfl)) (pgs_cons (pg_name (i := 8) sc_full_face.nd rfl (Or.inl rfl)) pgs_nil)))) (fun _ _ _ _ _ => pts_nil)
        (fun _ _ _ _ _ => (pe_cal c_normal (hr.mono (by omega)) (by rfl) (pa_cons (pv 8) (pa_cons (pv 3) (pa_cons (pv 1) (pa_cons (pv 2) pa_nil))))))) pa_nil)))
    (pss_one (ps_expr (pe_cal c_note (hr.mono (by omega)) (by rfl) (pa_cons (pv 4) (pa_cons (pe_ix ix_tup (pv 5) pe_int (fun _ _ => rfl)) (pa_cons (pe_tup (pa_cons (pv 6) (pa_cons (pe_cal c_normal (hr.mono (by omega)) (by rfl) (pa_cons (pe_ix ix_tup (pv 5) pe_int (fun _ _ => rfl)) (pa_cons (pv 3) (pa_cons (pv 1) (pa_cons (pv 2) pa_nil))))) pa_nil))) pa_nil))))))))))))
    (pss_one (ps_ret (pe_mk m_Face (hr.mono (by omega)) (by rfl) (pa_cons (pv 3) (pa_cons (pv 4) pa_nil)))))))), ?_⟩)
  rintro L hL pm av kk ⟨its, parts, rfl, hf, hk⟩
  repeat walk_at "q"
  refine ⟨fun i G => G = [.fr (.tup (its.map It.d)), .rd (partsD T.C_Face parts), .fr (.raw (.int 40)), .own (ownD (fullN parts (its.take i)).kinds), .own (fD (fullN parts (its.take i)).funs), .no, .no, .no, .no], ⟨_, (by repeat (first | exact Wk.nil | refine Wk.keep ?_ | refine Wk.drop ?_)), rfl⟩, ?_, ?_⟩
  · rintro i d G hi rfl
    obtain ⟨it, hit, rfl⟩ := map_get hi
    have ok := hf.s i it hit
    have hl := hf.l i
    have e0 := fullN_more (parts := parts) hit
    generalize fullN parts (its.take i) = F at ok hl e0 ⊢
    have hlen1 : (F.kinds.map fun p => p.2.d).length ≤ 100000 := by rw [List.length_map]; omega
    have hlen2 : (F.funs.map fun p => Sg.d p.2).length ≤ 100000 := by rw [List.length_map]; omega
    cases it with
    | kind t k =>
      obtain ⟨nin, nk⟩ := ok
      repeat walk_at "q"
      refine ae_pl rfl rfl ?_
      repeat walk_at "q"
      refine ae_pl rfl rfl ?_
      repeat walk_at "q"
      refine cq0 (.fr (.rdp rfl rfl (.rdp rfl rfl (.fr .nil)))) nl ⟨k, F.kinds, parts, 40, rfl, nk.b.dep, nk.b.2, nk.b100, nk.all, i40 nk.r, nk.r.dep, ?_⟩
      repeat walk_at "q"
      refine cqm [3] [] (.mtp rfl rfl rfl (.fr (.fr .nil))) nl ⟨_, _, t, _, rfl, nin, hlen1, ?_⟩
      refine ⟨_, ?_, rfl⟩
      rw [e0]
      show Wk _ [_, _, _, .own (ownD (F.kinds ++ [(t, k.sub (nφ F.kinds parts))])), _, _, _, _, _]
      rw [ownD_more]
      repeat (first | exact Wk.nil | refine Wk.keep ?_ | refine Wk.drop ?_)
    | opn x =>
      obtain ⟨g, hg, n1, n2, l1, l2⟩ := ok
      repeat walk_at "q"
      refine ⟨_, .K' rfl (lk_some (f := fun x : Fc => x.o T.C_Face) hg), ?_⟩
      repeat walk_at "q"
      refine ae_pl rfl rfl ?_
      repeat walk_at "q"
      refine ae_pl rfl rfl ?_
      repeat walk_at "q"
      refine ⟨_, .K' rfl (lk_some (f := fun x : Fc => x.o T.C_Face) hg), ?_⟩
      repeat walk_at "q"
      refine cqm [3, 4] [] (.mtp rfl rfl rfl (.mtp rfl rfl rfl (.fr .nil))) hL ⟨F.kinds, F.funs, g, rfl, n1, n2, hl.1, hl.2, l1, l2, ?_⟩
      refine ⟨_, ?_, rfl⟩
      have e : itN parts F (.opn x) = F.app g := by show F.app ((look parts x).getD ⟨[], []⟩) = _; rw [hg]; rfl
      rw [e0, e]
      repeat (first | exact Wk.nil | refine Wk.keep ?_ | refine Wk.drop ?_)
    | fn t ps r =>
      obtain ⟨nin, pl, np, nr⟩ := ok
      repeat walk_at "q"
      refine ae_lcT ?_
      repeat walk_at "q"
      refine ⟨by unfold wsD; rw [List.length_map]; omega, fun i acc G => acc = ((ps.take i).map fun p => (p.2.sub (nφ F.kinds parts)).d) ∧ G = [.fr (.tup (its.map It.d)), .rd (partsD T.C_Face parts), .fr (.raw (.int 40)), .own (ownD F.kinds), .own (fD F.funs), .fr (It.fn t ps r).d, .no, .no, .no], ⟨rfl, rfl⟩, fun n acc G' h => by rw [h.2]; rfl, ?_, ?_⟩
      · rintro n x acc G' hx ⟨rfl, rfl⟩
        obtain ⟨⟨u, k⟩, ha, rfl⟩ := map_get hx
        have nk := np _ (List.mem_of_getElem? ha)
        refine aw_tup rfl (aws_cons (by decide) (aws_cons (by decide) (aws_nil ?_)))
        repeat walk_at "q"
        refine ae_pl rfl rfl ?_
        repeat walk_at "q"
        refine cq0 (.fr (.rdp rfl rfl (.rdp rfl rfl (.fr .nil)))) nl ⟨k, F.kinds, parts, 40, rfl, nk.b.dep, nk.b.2, nk.b100, nk.all, i40 nk.r, nk.r.dep, ?_⟩
        refine ⟨_, rfl, ?_, rfl⟩
        rw [take_more ha, List.map_append]
        rfl
      · rintro acc G' hl ⟨rfl, rfl⟩
        repeat walk_at "q"
        refine ac_tupL rfl ?_
        repeat walk_at "q"
        refine ae_pl rfl rfl ?_
        repeat walk_at "q"
        refine ae_pl rfl rfl ?_
        repeat walk_at "q"
        refine cq0 (.fr (.rdp rfl rfl (.rdp rfl rfl (.fr .nil)))) nl ⟨r, F.kinds, parts, 40, rfl, nr.b.dep, nr.b.2, nr.b100, nr.all, i40 nr.r, nr.r.dep, ?_⟩
        repeat walk_at "q"
        refine cqm [4] [] (.mtp rfl rfl rfl (.fr (.fr .nil))) nl ⟨_, _, t, _, rfl, nin, hlen2, ?_⟩
        refine ⟨_, ?_, rfl⟩
        have e3 : Sg.d (ps.map fun p => p.2.sub (nφ F.kinds parts), r.sub (nφ F.kinds parts)) = .tup [.tup ((ps.take (wsD ps).length).map fun p => (p.2.sub (nφ F.kinds parts)).d), (r.sub (nφ F.kinds parts)).d] := by
          unfold wsD
          rw [List.length_map, List.take_length]
          show D.tup [.tup ((ps.map _).map Kd.d), _] = _
          rw [List.map_map]
          rfl
        rw [e0]
        show Wk _ [_, _, _, _, .own (fD (F.funs ++ [(t, (ps.map fun p => p.2.sub (nφ F.kinds parts), r.sub (nφ F.kinds parts)))])), _, _, _, _]
        rw [fD_more, e3]
        repeat (first | exact Wk.nil | refine Wk.keep ?_ | refine Wk.drop ?_)
  rintro G rfl
  have e3 : its.take (its.map It.d).length = its := by rw [List.length_map, List.take_length]
  rw [e3]
  refine as_ret (ae_face ?_)
  repeat walk_at "q"
  refine ae_pl rfl rfl ?_
  repeat walk_at "q"
  refine ae_pl rfl rfl ?_
  repeat walk_at "q"
  refine ⟨_, _, _, _, _, _, rfl, rfl, rfl, ?_⟩
  exact ⟨[], rfl, rfl, hk⟩
end
end Q
-- text B8
set_option Elab.async false
set_option linter.all false
set_option maxRecDepth 100000
set_option maxHeartbeats 4000000
namespace Q
open PySem PySem.Spec PyProof.Rows L2
local macro_rules | `(tactic| walk_at "q") => `(tactic| (first
  | with_reducible refine as_seq ?_ | with_reducible refine as_ret ?_ | with_reducible refine as_if ?_ | with_reducible refine as_deal ?_ | with_reducible refine as_asg ?_ | with_reducible refine as_drop ?_ | with_reducible refine as_dput ?_
  | with_reducible refine at_test ?_ | with_reducible refine at_B ?_ | with_reducible refine at_not ?_ | with_reducible refine at_and ?_ | with_reducible refine at_or ?_
  | with_reducible refine ae_op ?_ | with_reducible refine ae_c ?_ | with_reducible refine ae_andV ?_ | with_reducible refine ae_notV ?_ | with_reducible refine ae_join ?_ | with_reducible refine ae_index ?_ | with_reducible refine ae_from1 ?_ | refine ae_un (i := 0) ?_ | refine ae_var rfl ?_ | refine ae_rd rfl ?_ | refine ae_mt rfl ?_ | with_reducible refine ae_call ?_ | with_reducible refine ae_tup ?_ | with_reducible refine ae_fld ?_ | with_reducible refine ae_cb ?_
  | with_reducible refine aa_nil ?_ | with_reducible refine aa_cons ?_
  | with_reducible refine ae_dget ?_ | with_reducible refine ae_dget2 ?_ | with_reducible refine ae_dget1 ?_ | with_reducible refine ae_din ?_ | with_reducible refine ae_dnotin ?_ | with_reducible refine ae_newK ?_ | with_reducible refine ae_newT ?_ | with_reducible refine ae_lst ?_
  | with_reducible refine ae_meth ?_ | with_reducible refine ct_yes ?_ | with_reducible refine ct_if ?_
  | refine ar_ixT rfl rfl ?_ | refine ar_ixL rfl rfl ?_ | refine ar_II ?_ | refine ar_eq rfl ?_
  | refine itT (by decide +kernel) ?_ | refine itF (by decide +kernel) ?_ | refine itF Bool.false_ne_true ?_ | refine itT rfl ?_
  | refine ⟨.inr ⟨_, _, rfl⟩, ?_⟩ | refine ⟨.inl ⟨_, _, rfl⟩, ?_⟩ | refine ⟨_, _, .T rfl, rfl, ?_⟩ | refine ⟨_, rfl, ?_⟩ | refine ⟨[_, _], rfl, Nat.le_of_ble_eq_true rfl, ?_⟩ | refine ⟨[_, _, _], rfl, Nat.le_of_ble_eq_true rfl, ?_⟩ | refine ⟨[], rfl, Nat.le_of_ble_eq_true rfl, ?_⟩ | refine ⟨[_], rfl, Nat.le_of_ble_eq_true rfl, ?_⟩
  | with_reducible refine as_forL ?_ | with_reducible refine as_forT ?_ | with_reducible refine as_forR ?_ | refine ae_app (ae_pl rfl rfl ⟨_, rfl, ⟨_, rfl⟩, ?_⟩) | refine ae_ins (ae_pl rfl rfl ⟨_, rfl, ⟨_, rfl⟩, ?_⟩) | refine ag_rd rfl ?_ | refine ag_name ?_ | refine ag_own ?_ | refine ag_tup rfl (ags_cons (ags_cons (ags_nil ?_))) | with_reducible refine as_next ?_))
abbrev s_Maker_init : Stmt := inClass (topS 28) 0
abbrev n_Maker_init : List Str := ["self", "formals", "result"]
abbrev p_Maker_init : List Str := ["self", "formals", "result"]
theorem sc_Maker_init : FnScope n_Maker_init p_Maker_init (defScope s_Maker_init) := ⟨rfl, rfl, rfl, by decide +kernel, rfl, by decide +kernel, by decide +kernel⟩
abbrev s_maker_of : Stmt := topS 29
abbrev n_maker_of : List Str := ["declaration", "faces", "parts", "known", "formals", "x", "want", "face", "full", "result"]
abbrev p_maker_of : List Str := ["declaration", "faces", "parts"]
theorem sc_maker_of : FnScope n_maker_of p_maker_of (defScope s_maker_of) := ⟨rfl, rfl, rfl, by decide +kernel, rfl, by decide +kernel, by decide +kernel⟩
abbrev s_made_face : Stmt := topS 30
abbrev n_made_face : List Str := ["maker", "word", "given", "known", "formal", "had", "x", "face", "found", "t"]
abbrev p_made_face : List Str := ["maker", "word", "given"]
theorem sc_made_face : FnScope n_made_face p_made_face (defScope s_made_face) := ⟨rfl, rfl, rfl, by decide +kernel, rfl, by decide +kernel, by decide +kernel⟩
section
variable {P : Program} {w : World} {K : PySem.W.Frag} {mg : Str → Option Value} {base : Heap}
theorem rd_upd {H : Hp} {a p : Addr} {o u : HO} (h : Rd H a o) (ne : a ≠ p) : Rd (upd H p u) a o := h.elim (fun z => .inl (by rw [upd_ne ne]; exact z)) (fun ⟨d, z⟩ => .inr ⟨d, by rw [upd_ne ne]; exact z⟩)
theorem rd_ne {H : Hp} {a p : Addr} {o : HO} (h : Rd H a o) (n : H p = none) : a ≠ p := fun e => by
  subst e
  rcases h with z | ⟨d, z⟩ <;> rw [n] at z <;> cases z
theorem ok_Face_init {f : Addr} {fd : FuncData} (T : Txt K mg) (F : Fun K "__init__" "Face.__init__" s_Face_init f fd) : FnOk P w K mg base CX0 1 f fd p_Face_init (spFace T.C_Face) := by
  refine F.ok sc_Face_init (fun vs H Q E h => by obtain ⟨_, _, _, _, _, _, rfl, _⟩ := h; rfl) fun cdv A outer s H vs Q X hr hs => ⟨_, ((pss_cons (ps_fld (pv 0) (pe_callTy call_dcp (by rfl) T.z_dict (by decide +kernel) (pa_cons (pv 1) pa_nil)) rfl)
    (pss_one (ps_fld (pv 0) (pe_callTy call_dcp (by rfl) T.z_dict (by decide +kernel) (pa_cons (pv 2) pa_nil)) rfl)))).nox, ?_⟩
  obtain ⟨p, dx, a1, a2, k1, k2, rfl, hp, h1, h2, hk⟩ := hs
  refine ⟨_, rfl, a1, k1, rfl, h1, fun p1 n1 => ?_⟩
  have e1 : p ≠ p1 := fun e => by rw [e, n1] at hp; cases hp
  refine ⟨_, rfl, p, T.C_Face, dx, [], rfl, by rw [upd_ne e1]; exact hp, T.cl_Face, T.n_kinds, Nat.le_of_ble_eq_true rfl, ?_⟩
  have a2p : a2 ≠ p := fun e => by
    subst e
    rcases h2 with z | ⟨d, z⟩ <;> rw [hp] at z <;> cases z
  refine ⟨_, rfl, a2, k2, rfl, rd_upd (rd_upd h2 (rd_ne h2 n1)) a2p, fun p2 n2 => ?_⟩
  have e2 : p ≠ p2 := fun e => by rw [← e, upd_same] at n2; cases n2
  have e3 : p1 ≠ p2 := fun e => by rw [← e, upd_ne (fun z => e1 z.symm), upd_same] at n2; cases n2
  have n2' : H p2 = none := by rw [upd_ne (fun z => e2 z.symm), upd_ne (fun z => e3 z.symm)] at n2; exact n2
  refine ⟨_, rfl, p, T.C_Face, dx, _, rfl, by rw [upd_ne e2, upd_same], T.cl_Face, T.n_funs, Nat.le_of_ble_eq_true rfl, ?_⟩
  refine hk _ p1 p2 (fun b o hb nb => ?_) ?_ n1 n2' ?_ ?_
  · rw [upd_ne nb, upd_ne (fun z => by rw [z, n2'] at hb; cases hb), upd_ne nb, upd_ne (fun z => by rw [z, n1] at hb; cases hb)]; exact hb
  · rw [upd_same]; rfl
  · rw [upd_ne (fun z => e1 z.symm), upd_ne e3, upd_ne (fun z => e1 z.symm), upd_same]
  · rw [upd_ne (fun z => e2 z.symm), upd_same]
theorem ok_Maker_init {f : Addr} {fd : FuncData} (T : Txt K mg) (F : Fun K "__init__" "Maker.__init__" s_Maker_init f fd) : FnOk P w K mg base CX0 1 f fd p_Maker_init (spMaker K T.C_Maker) := by
  refine F.ok sc_Maker_init (fun vs H Q E h => by obtain ⟨_, _, _, _, _, rfl, _⟩ := h; rfl) fun cdv A outer s H vs Q X hr hs => ⟨_, ((pss_cons (ps_fld (pv 0) (pe_callTy call_list_of (by rfl) T.z_list (by decide +kernel) (pa_cons (pv 1) pa_nil)) rfl)
    (pss_one (ps_fld (pv 0) (pv 2) rfl)))).nox, ?_⟩
  obtain ⟨p, dx, a1, x2, xs, rfl, hp, h1, hk⟩ := hs
  refine ⟨_, rfl, a1, xs, rfl, .inl h1, fun p1 n1 => ?_⟩
  have e1 : p ≠ p1 := fun e => by rw [e, n1] at hp; cases hp
  refine ⟨_, rfl, p, T.C_Maker, dx, [], rfl, by rw [upd_ne e1]; exact hp, T.cl_Maker, T.n_formals, Nat.le_of_ble_eq_true rfl, ?_⟩
  refine ⟨_, rfl, _, rfl, p, T.C_Maker, dx, _, rfl, by rw [upd_same], T.cl_Maker, T.n_result, Nat.le_of_ble_eq_true rfl, ?_⟩
  refine hk _ p1 (fun b o hb nb => ?_) ?_ n1 ?_
  · rw [upd_ne nb, upd_ne nb, upd_ne (fun z => by rw [z, n1] at hb; cases hb)]; exact hb
  · rw [upd_same]; rfl
  · rw [upd_ne (fun z => e1 z.symm), upd_ne (fun z => e1 z.symm), upd_same]
end
end Q
-- text B9
set_option Elab.async false
set_option linter.all false
set_option maxRecDepth 100000
set_option maxHeartbeats 4000000
namespace Q
open PySem PySem.Spec PyProof.Rows L2
local macro_rules | `(tactic| walk_at "q") => `(tactic| (first
  | with_reducible refine as_seq ?_ | with_reducible refine as_ret ?_ | with_reducible refine as_if ?_ | with_reducible refine as_deal ?_ | with_reducible refine as_asg ?_ | with_reducible refine as_drop ?_ | with_reducible refine as_dput ?_
  | with_reducible refine at_test ?_ | with_reducible refine at_B ?_ | with_reducible refine at_not ?_ | with_reducible refine at_and ?_ | with_reducible refine at_or ?_
  | with_reducible refine ae_op ?_ | with_reducible refine ae_c ?_ | with_reducible refine ae_andV ?_ | with_reducible refine ae_notV ?_ | with_reducible refine ae_join ?_ | with_reducible refine ae_index ?_ | with_reducible refine ae_from1 ?_ | refine ae_un (i := 0) ?_ | refine ae_var rfl ?_ | refine ae_rd rfl ?_ | refine ae_mt rfl ?_ | with_reducible refine ae_call ?_ | with_reducible refine ae_tup ?_ | with_reducible refine ae_fld ?_ | with_reducible refine ae_cb ?_
  | with_reducible refine aa_nil ?_ | with_reducible refine aa_cons ?_
  | with_reducible refine ae_dget ?_ | with_reducible refine ae_dget2 ?_ | with_reducible refine ae_dget1 ?_ | with_reducible refine ae_din ?_ | with_reducible refine ae_dnotin ?_ | with_reducible refine ae_newK ?_ | with_reducible refine ae_newT ?_ | with_reducible refine ae_lst ?_
  | with_reducible refine ae_meth ?_ | with_reducible refine ct_yes ?_ | with_reducible refine ct_if ?_
  | refine ar_ixT rfl rfl ?_ | refine ar_ixL rfl rfl ?_ | refine ar_II ?_ | refine ar_eq rfl ?_
  | refine itT (by decide +kernel) ?_ | refine itF (by decide +kernel) ?_ | refine itF Bool.false_ne_true ?_ | refine itT rfl ?_
  | refine ⟨.inr ⟨_, _, rfl⟩, ?_⟩ | refine ⟨.inl ⟨_, _, rfl⟩, ?_⟩ | refine ⟨_, _, .T rfl, rfl, ?_⟩ | refine ⟨_, rfl, ?_⟩ | refine ⟨[_, _], rfl, Nat.le_of_ble_eq_true rfl, ?_⟩ | refine ⟨[_, _, _], rfl, Nat.le_of_ble_eq_true rfl, ?_⟩ | refine ⟨[], rfl, Nat.le_of_ble_eq_true rfl, ?_⟩ | refine ⟨[_], rfl, Nat.le_of_ble_eq_true rfl, ?_⟩
  | with_reducible refine as_forL ?_ | with_reducible refine as_forT ?_ | with_reducible refine as_forR ?_ | refine ae_app (ae_pl rfl rfl ⟨_, rfl, ⟨_, rfl⟩, ?_⟩) | refine ae_ins (ae_pl rfl rfl ⟨_, rfl, ⟨_, rfl⟩, ?_⟩) | refine ag_rd rfl ?_ | refine ag_name ?_ | refine ag_own ?_ | refine ag_tup rfl (ags_cons (ags_cons (ags_nil ?_))) | with_reducible refine as_next ?_))
def rowD (r : Str × Sl) : D := prd r.1 (slD r.2)
def declD (a b : Str) (rows : List (Str × Sl)) (sl : Sl) (its : List It) : D := .tup [tD a, tD b, .tup (rows.map rowD), slD sl, .tup (its.map It.d)]
def formD (C : Addr) (r : Str × Fc) : D := prd r.1 (r.2.o C)
def mkD (C M : Addr) (forms : List (Str × Fc)) (r : Fc) : D := .obj M ["formals", "result"] [.lst (forms.map (formD C)), r.o C]
structure MkOk (faces parts : Parts) (part : Str) (rows : List (Str × Sl)) (sl : Sl) (its : List It) : Prop where
  l : rows.length ≤ 1000
  s : ∀ i x s, rows[i]? = some (x, s) → WantOk faces (mkN faces parts (rows.take i)).1 s ∧ ∃ f, wantN faces (mkN faces parts (rows.take i)).1 s = some f ∧ f.B ∧ (hidF x f).B ∧ x ∉ ((mkN faces parts (rows.take i)).1.map (·.1)) ∧ (mkN faces parts (rows.take i)).1.length ≤ 1000 ∧ (mkN faces parts (rows.take i)).2.length ≤ 1000
  f : FullOk (mkN faces parts rows).1 its
  w : WantOk faces (mkN faces parts rows).1 sl
  r : ∀ R, wantN faces (mkN faces parts rows).1 sl = some R → R.B ∧ (fullN (mkN faces parts rows).1 its).B ∧ Fits (fullN (mkN faces parts rows).1 its) R
def mkR (faces parts : Parts) (rows : List (Str × Sl)) (sl : Sl) (its : List It) : Fc := (wantN faces (mkN faces parts rows).1 sl).getD (fullN (mkN faces parts rows).1 its)
def S_maker_of (C M : Addr) : Spec := fun pm kk => ∃ (faces parts : Parts) (a part : Str) (rows : List (Str × Sl)) (sl : Sl) (its : List It), pm = [.fr (declD a part rows sl its), .rd (partsD C faces), .rd (partsD C parts)] ∧ MkOk faces parts part rows sl its ∧
  kk (.v (mkD C M (mkN faces parts rows).2 (mkR faces parts rows sl its))) []
structure MdOk (forms : List (Str × Fc)) (R : Fc) (word : Str) (given : List Fc) : Prop where
  l : forms.length = given.length
  s : ∀ i x f had, forms[i]? = some (x, f) → given[i]? = some had → f.B ∧ (f.put (mdN ((forms.zip given).take i))).B ∧ had.B ∧ Fits had (f.put (mdN ((forms.zip given).take i))) ∧
    (∀ t ∈ hidK f.kinds, (look (fitG had (f.put (mdN ((forms.zip given).take i)))) ("", t)).isSome = true) ∧ (∀ p ∈ mdN ((forms.zip given).take i), p.1.1 ≠ x) ∧ (mdN ((forms.zip given).take i)).length ≤ 50000
  k : (∀ p ∈ mdN (forms.zip given), p.1.1 ≠ "") ∧ (mdN (forms.zip given)).length ≤ 50000
  r : R.B ∧ (R.put (mdN (forms.zip given) ++ hideG word R)).B
def S_made (C M : Addr) : Spec := fun pm kk => ∃ (forms : List (Str × Fc)) (R : Fc) (word : Str) (given : List Fc), pm = [.fr (mkD C M forms R), .fr (tD word), .fr (.lst (given.map fun f => f.o C))] ∧ MdOk forms R word given ∧ kk (.v ((R.put (mdN (forms.zip given) ++ hideG word R)).o C)) []
theorem partsD_more (C : Addr) (l : Parts) (x : Str) (f : Fc) : partsD C (l ++ [(x, f)]) = .dK (l.map (·.1) ++ [x]) ((l.map fun p => p.2.o C) ++ [f.o C]) := by unfold partsD; rw [List.map_append, List.map_append]; rfl
theorem fld_formals {C M : Addr} (forms : List (Str × Fc)) (r : Fc) : lkp ["formals", "result"] [D.lst (forms.map (formD C)), r.o C] "formals" = some (.lst (forms.map (formD C))) := by
  unfold lkp
  rw [if_pos rfl]
theorem fld_result {C M : Addr} (forms : List (Str × Fc)) (r : Fc) : lkp ["formals", "result"] [D.lst (forms.map (formD C)), r.o C] "result" = some (r.o C) := by
  unfold lkp
  rw [if_neg (by decide +kernel)]
  unfold lkp
  rw [if_pos rfl]
theorem wG_nin' {kn : Gv} {q : Str} (h : ∀ p ∈ kn, p.1.1 ≠ q) {φ : Str → Kd} {l : List Str} (nd : l.Nodup) {i : Nat} {t : Str} (e : l[i]? = some t) : (q, t) ∉ (kn ++ wG q φ (l.take i)).map (·.1) := by
  rw [List.map_append]
  intro m
  rcases List.mem_append.mp m with m | m
  · obtain ⟨p, hp, e⟩ := List.mem_map.mp m
    exact h p hp (by rw [e])
  · exact wG_nin nd e m
theorem wG_len' {kn : Gv} (h : kn.length ≤ 50000) {q : Str} {φ : Str → Kd} {l : List Str} {i : Nat} (hl : l.length ≤ 1000) : ((kn ++ wG q φ (l.take i)).map fun p => p.2.d).length ≤ 100000 := by
  have := List.length_take (i := i) (l := l)
  rw [List.length_map, List.length_append]
  unfold wG
  rw [List.length_map]
  omega
section
variable {P : Program} {w : World} {K : PySem.W.Frag} {mg : Str → Option Value} {base : Heap}
theorem ok_maker_of {f : Addr} {fd : FuncData} (T : Txt K mg) (F : Fun K "maker_of" "maker_of" s_maker_of f fd)
    (c_wanted : Callee P w K mg base 105 "wanted" p_wanted [] true (S_wanted T.C_Face)) (c_hiding : Callee P w K mg base 104 "hiding" p_hiding [] true (S_hiding T.C_Face))
    (c_full_face : Callee P w K mg base 103 "full_face" p_full_face [.int 40] true (S_full T.C_Face)) (c_fitted : Callee P w K mg base 101 "fitted" p_fitted [] true (S_fitted T.C_Face))
    (m_Maker : MakeC P w K mg base 1 "Maker" T.C_Maker p_Maker_init (spMaker K T.C_Maker)) :
    FnOk P w K mg base CX0 106 f fd p_maker_of (spOf true (S_maker_of T.C_Face T.C_Maker)) := by
  refine fun_ok F sc_maker_of (by decide) (fun pm k h => by obtain ⟨_, _, _, _, _, _, _, rfl, _⟩ := h; rfl) (fun cdv A outer s H X hr => ⟨_, (pss_cons (ps_set (i := 3) sc_maker_of.nd rfl (Or.inl rfl) (pe_callTy call_dcp (by rfl) T.z_dict (by decide +kernel) (pa_cons (pv 2) pa_nil)))
    (pss_cons (ps_set (i := 4) sc_maker_of.nd rfl (Or.inl rfl) (pe_lst pa_nil))
    (pss_cons (ps_for PassesOwn.never rfl (pi_tup (pe_ix ix_tup (pv 0) pe_int (fun _ _ => rfl))) (pg_tup (by rfl) (pgs_cons (pg_name (i := 5) sc_maker_of.nd rfl (Or.inl rfl)) (pgs_cons (pg_name (i := 6) sc_maker_of.nd rfl (Or.inl rfl)) pgs_nil)))
    (pss_cons (ps_set (i := 7) sc_maker_of.nd rfl (Or.inl rfl) (pe_cal c_wanted (hr.mono (by omega)) (by rfl) (pa_cons (pv 6) (pa_cons (pv 1) (pa_cons (pv 3) pa_nil)))))
    (pss_cons (ps_expr (pe_bm PySem.F.plainAttrs_list PySem.F.slot_list_append PySem.F.type_list_append mt_append (pv 4) (pa_cons (pe_tup (pa_cons (pv 5) (pa_cons (pv 7) pa_nil))) pa_nil)))
    (pss_one (ps_dput (hu_of hr) (pv 3) (pv 5) (pe_cal c_hiding (hr.mono (by omega)) (by rfl) (pa_cons (pv 7) (pa_cons (pv 5) pa_nil))) rfl)))))
    (pss_cons (ps_set (i := 8) sc_maker_of.nd rfl (Or.inl rfl) (pe_cal c_full_face (hr.mono (by omega)) (by rfl) (pa_cons (pe_ix ix_tup (pv 0) pe_int (fun _ _ => rfl)) (pa_cons (pv 3) pa_nil))))
    (pss_cons (ps_set (i := 9) sc_maker_of.nd rfl (Or.inl rfl) (pe_cal c_wanted (hr.mono (by omega)) (by rfl) (pa_cons (pe_ix ix_tup (pv 0) pe_int (fun _ _ => rfl)) (pa_cons (pv 1) (pa_cons (pv 3) pa_nil)))))
    (pss_cons (ps_if (pt_cmpR op_isN (pv 9) pe_non (nomark _))
    (pss_one (ps_ret (pe_mk m_Maker (hr.mono (by omega)) (by rfl) (pa_cons (pv 4) (pa_cons (pv 8) pa_nil)))))
    pss_nil)
    (pss_cons (ps_expr (pe_cal c_fitted (hr.mono (by omega)) (by rfl) (pa_cons (pv 8) (pa_cons (pv 9) (pa_cons (pe_ix ix_tup (pv 0) pe_int (fun _ _ => rfl)) pa_nil)))))
    (pss_one (ps_ret (pe_mk m_Maker (hr.mono (by omega)) (by rfl) (pa_cons (pv 4) (pa_cons (pv 9) pa_nil)))))))))))), ?_⟩)
  rintro L hL pm av kk ⟨faces, parts, a, part, rows, sl, its, rfl, hm, hk⟩
  repeat walk_at "q"
  refine ac_dcp rfl ?_
  repeat walk_at "q"
  refine ⟨fun i G => G = [.fr (declD a part rows sl its), .rd (partsD T.C_Face faces), .rd (partsD T.C_Face parts), .own (partsD T.C_Face (mkN faces parts (rows.take i)).1), .own (.lst ((mkN faces parts (rows.take i)).2.map (formD T.C_Face))), .no, .no, .no, .no, .no], ⟨_, (by repeat (first | exact Wk.nil | refine Wk.keep ?_ | refine Wk.drop ?_)), rfl⟩, ?_, ?_⟩
  · rintro i d G hi rfl
    obtain ⟨⟨x, s⟩, hp, rfl⟩ := map_get hi
    obtain ⟨w1, fc, w2, b1, b2, nin, l1, l2⟩ := hm.s i x s hp
    have e0 := mkN_more (faces := faces) (parts := parts) hp
    generalize mkN faces parts (rows.take i) = st at w1 w2 nin l1 l2 e0 ⊢
    have e1 : mkS faces st (x, s) = (st.1 ++ [(x, hidF x fc)], st.2 ++ [(x, fc)]) := by unfold mkS stepM; rw [w2]; rfl
    repeat walk_at "q"
    refine ae_pl rfl rfl ?_
    repeat walk_at "q"
    refine cq0 (.fr (.rdp rfl rfl (.rdp rfl rfl .nil))) hL ⟨s, faces, st.1, rfl, w1, ?_⟩
    rw [w2]
    repeat walk_at "q"
    refine ⟨_, _, _, rfl, rfl, rfl, rfl, by rw [List.length_map]; omega, ?_⟩
    repeat walk_at "q"
    refine cq0 (.fr (.fr .nil)) hL ⟨fc, x, rfl, b1, b2, ?_⟩
    repeat walk_at "q"
    refine ae_pl rfl rfl ?_
    repeat walk_at "q"
    refine ⟨_, _, _, _, _, rfl, rfl, rfl, rfl, rfl, .K nin (by rw [List.length_map]; omega), ?_⟩
    refine ⟨_, ?_, rfl⟩
    rw [e0, e1]
    show Wk _ [_, _, _, .own (partsD T.C_Face (st.1 ++ [(x, hidF x fc)])), .own (.lst ((st.2 ++ [(x, fc)]).map (formD T.C_Face))), _, _, _, _, _]
    rw [partsD_more, List.map_append]
    repeat (first | exact Wk.nil | refine Wk.keep ?_ | refine Wk.drop ?_)
  rintro G rfl
  have e3 : rows.take (rows.map rowD).length = rows := by rw [List.length_map, List.take_length]
  rw [e3]
  have hf := hm.f
  have hw := hm.w
  have hr2 := hm.r
  have hk : kk (.v (mkD T.C_Face T.C_Maker (mkN faces parts rows).2 ((wantN faces (mkN faces parts rows).1 sl).getD (fullN (mkN faces parts rows).1 its)))) [] := hk
  generalize mkN faces parts rows = st at hf hw hr2 hk ⊢
  repeat walk_at "q"
  refine ae_pl rfl rfl ?_
  repeat walk_at "q"
  refine cq0 (.fr (.rdp rfl rfl (.fr .nil))) hL ⟨its, st.1, rfl, hf, ?_⟩
  repeat walk_at "q"
  refine ae_pl rfl rfl ?_
  repeat walk_at "q"
  refine cq0 (.fr (.rdp rfl rfl (.rdp rfl rfl .nil))) hL ⟨sl, faces, st.1, rfl, hw, ?_⟩
  cases hR : wantN faces st.1 sl with
  | none =>
    rw [hR] at hk
    repeat walk_at "q"
    refine ar_isN ?_
    repeat walk_at "q"
    refine ae_maker ?_
    repeat walk_at "q"
    refine ae_pl rfl rfl ?_
    repeat walk_at "q"
    refine ⟨_, _, _, rfl, rfl, ?_⟩
    exact ⟨[], rfl, rfl, hk⟩
  | some R =>
    rw [hR] at hk
    obtain ⟨r1, r2, r3⟩ := hr2 R hR
    repeat walk_at "q"
    refine ar_isN_obj rfl rfl ?_
    repeat walk_at "q"
    refine cq0 (.fr (.fr (.fr .nil))) hL ⟨fullN st.1 its, R, part, rfl, r2, r1, r3, ?_⟩
    repeat walk_at "q"
    refine ae_maker ?_
    repeat walk_at "q"
    refine ae_pl rfl rfl ?_
    repeat walk_at "q"
    refine ⟨_, _, _, rfl, rfl, ?_⟩
    exact ⟨[], rfl, rfl, hk⟩
theorem ok_made_face {f : Addr} {fd : FuncData} (T : Txt K mg) (F : Fun K "made_face" "made_face" s_made_face f fd)
    (c_fitted : Callee P w K mg base 101 "fitted" p_fitted [] true (S_fitted T.C_Face)) 
    (c_Face_hidden : CalleeM P w K mg base 1 T.C_Face "hidden" p_Face_hidden [] true (S_Fhid T.C_Face)) (c_Face_put : CalleeM P w K mg base 103 T.C_Face "put" p_Face_put [.int 40] true (S_Fput T.C_Face)) :
    FnOk P w K mg base CX0 104 f fd p_made_face (spOf true (S_made T.C_Face T.C_Maker)) := by
  refine fun_ok F sc_made_face (by decide) (fun pm k h => by obtain ⟨_, _, _, _, rfl, _⟩ := h; rfl) (fun cdv A outer s H X hr => ⟨_, (pss_cons (ps_if (pt_cmpR op_ne (pe_callB call_len_seq (by rfl) T.z_len PySem.boot_len (pa_cons (pv 2) pa_nil)) (pe_callB call_len_seq (by rfl) T.z_len PySem.boot_len (pa_cons (pe_fld (pv 0) rfl) pa_nil)) (nomark _))
    (pss_one ps_never)
    pss_nil)
    (pss_cons (ps_set (i := 3) sc_made_face.nd rfl (Or.inl rfl) pe_dnewT)
    (pss_cons (ps_for PassesOwn.never rfl (pi_zip (by rfl) T.z_zip (pa_cons (pe_fld (pv 0) rfl) (pa_cons (pv 2) pa_nil))) (pg_tup (by rfl) (pgs_cons (pg_name (i := 4) sc_made_face.nd rfl (Or.inl rfl)) (pgs_cons (pg_name (i := 5) sc_made_face.nd rfl (Or.inl rfl)) pgs_nil)))
    (pss_cons (ps_asg (pv 4) (pg_tup (by rfl) (pgs_cons (pg_name (i := 6) sc_made_face.nd rfl (Or.inl rfl)) (pgs_cons (pg_name (i := 7) sc_made_face.nd rfl (Or.inl rfl)) pgs_nil))))
    (pss_cons (ps_set (i := 8) sc_made_face.nd rfl (Or.inl rfl) (pe_cal c_fitted (hr.mono (by omega)) (by rfl) (pa_cons (pv 5) (pa_cons (pe_calM (pv 7) c_Face_put (hr.mono (by omega)) (pa_cons (pv 3) pa_nil)) (pa_cons (pv 1) pa_nil)))))
    (pss_one (ps_for PassesOwn.never rfl (pi_list (pe_calM0 (pv 7) c_Face_hidden (hr.mono (by omega)))) (pg_name (i := 9) sc_made_face.nd rfl (Or.inl rfl))
    (pss_one (ps_dput (hu_of hr) (pv 3) (pe_tup (pa_cons (pv 6) (pa_cons (pv 9) pa_nil))) (pe_dget (hu_of hr) (pv 8) (pe_tup (pa_cons pe_str (pa_cons (pv 9) pa_nil))) (fun _ _ => rfl)) rfl)))))))
    (pss_cons (ps_for PassesOwn.never rfl (pi_list (pe_calM0 (pe_fld (pv 0) rfl) c_Face_hidden (hr.mono (by omega)))) (pg_name (i := 9) sc_made_face.nd rfl (Or.inl rfl))
    (pss_one (ps_dput (hu_of hr) (pv 3) (pe_tup (pa_cons pe_str (pa_cons (pv 9) pa_nil))) (pe_tup (pa_cons pe_str (pa_cons (pv 1) (pa_cons (pv 9) pa_nil)))) rfl)))
    (pss_one (ps_ret (pe_calM (pe_fld (pv 0) rfl) c_Face_put (hr.mono (by omega)) (pa_cons (pv 3) pa_nil)))))))), ?_⟩)
  rintro L hL pm av kk ⟨forms, R, word, given, rfl, hm, hk⟩
  repeat walk_at "q"
  refine ac_lenL rfl ?_
  repeat walk_at "q"
  refine ⟨_, _, _, _, rfl, T.cl_Maker, T.n_formals, fld_formals (C := T.C_Face) (M := T.C_Maker) forms R, ?_⟩
  repeat walk_at "q"
  refine ac_lenL rfl ?_
  refine ar_ne rfl ?_
  repeat walk_at "q"
  refine itF (by rw [List.length_map, List.length_map, hm.l]; simp) ?_
  repeat walk_at "q"
  refine as_forZ ?_
  repeat walk_at "q"
  refine ⟨_, _, _, _, rfl, T.cl_Maker, T.n_formals, fld_formals (C := T.C_Face) (M := T.C_Maker) forms R, ?_⟩
  repeat walk_at "q"
  refine ⟨_, _, rfl, by rw [List.length_map, List.length_map]; exact hm.l, fun i G => G = [.fr (mkD T.C_Face T.C_Maker forms R), .fr (tD word), .fr (.lst (given.map fun f => f.o T.C_Face)), .own (gD (mdN ((forms.zip given).take i))), .no, .no, .no, .no, .no, .no], ⟨_, (by repeat (first | exact Wk.nil | refine Wk.keep ?_ | refine Wk.drop ?_)), rfl⟩, ?_, ?_⟩
  · rintro i d e G hi hi2 rfl
    obtain ⟨⟨x, fc⟩, hp, rfl⟩ := map_get hi
    obtain ⟨had, hp2, rfl⟩ := map_get hi2
    obtain ⟨b1, b2, b3, ft, hs, nx, ln⟩ := hm.s i x fc had hp hp2
    have hz : (forms.zip given)[i]? = some ((x, fc), had) := by rw [List.getElem?_zip_eq_some]; exact ⟨hp, hp2⟩
    have e0 := mdN_more hz
    generalize mdN ((forms.zip given).take i) = kn at b2 ft hs nx ln e0 ⊢
    repeat walk_at "q"
    refine ⟨_, _, rfl, by decide, ?_⟩
    repeat walk_at "q"
    refine ae_pl rfl rfl ?_
    repeat walk_at "q"
    refine cq0 (.fr (.rdp rfl rfl (.fr .nil))) hL ⟨fc, kn, rfl, b1, b2, ?_⟩
    repeat walk_at "q"
    refine cq0 (.fr (.fr (.fr .nil))) hL ⟨had, fc.put kn, word, rfl, b3, b2, ft, ?_⟩
    repeat walk_at "q"
    refine ⟨_, _, rfl, by decide, ?_⟩
    repeat walk_at "q"
    refine cq0 (.fr .nil) hL ⟨fc, rfl, b1, ?_⟩
    repeat walk_at "q"
    refine ⟨fun j G => G = [.fr (mkD T.C_Face T.C_Maker forms R), .fr (tD word), .fr (.lst (given.map fun f => f.o T.C_Face)), .own (gD (kn ++ wG x (fun t => (look (fitG had (fc.put kn)) ("", t)).getD (.num 0)) ((hidK fc.kinds).take j))), .no, .no, .fr (tD x), .no, .fr (gD (fitG had (fc.put kn))), .no], ⟨[.fr (mkD T.C_Face T.C_Maker forms R), .fr (tD word), .fr (.lst (given.map fun f => f.o T.C_Face)), .own (gD kn), .no, .no, .fr (tD x), .no, .fr (gD (fitG had (fc.put kn))), .no], (by repeat (first | exact Wk.nil | refine Wk.keep ?_ | refine Wk.drop ?_)), by show _ = [_, _, _, SV.own (gD (kn ++ [])), _, _, _, _, _, _]; rw [List.append_nil]⟩, ?_, ?_⟩
    · rintro j d G hj rfl
      obtain ⟨t, ht, rfl⟩ := map_get hj
      obtain ⟨v, hv⟩ := Option.isSome_iff_exists.mp (hs t (List.mem_of_getElem? ht))
      repeat walk_at "q"
      refine ⟨_, .T' rfl (lk_some (f := Kd.d) hv), ?_⟩
      refine ae_pl rfl rfl ?_
      repeat walk_at "q"
      refine ⟨_, _, _, _, _, rfl, rfl, rfl, rfl, rfl, .T (wG_nin' nx (hidK_nd b1.nk) ht) (wG_len' ln (by have := hidK_len fc.kinds; have := b1.lk; omega)), ?_⟩
      refine ⟨_, ?_, rfl⟩
      rw [wG_more ht, ← List.append_assoc, gD_put, hv]
      repeat (first | exact Wk.nil | refine Wk.keep ?_ | refine Wk.drop ?_)
    rintro G rfl
    have e1 : (hidK fc.kinds).take ((hidK fc.kinds).map tD).length = hidK fc.kinds := by rw [List.length_map, List.take_length]
    rw [e1]
    refine ⟨_, ?_, rfl⟩
    rw [e0]
    show Wk _ [_, _, _, .own (gD (kn ++ wG x (fun t => (look (fitG had (fc.put kn)) ("", t)).getD (.num 0)) (hidK fc.kinds))), _, _, _, _, _, _]
    repeat (first | exact Wk.nil | refine Wk.keep ?_ | refine Wk.drop ?_)
  rintro G rfl
  have e1 : (forms.zip given).take (forms.map (formD T.C_Face)).length = forms.zip given := by rw [List.length_map]; exact List.take_of_length_le (by rw [List.length_zip]; omega)
  rw [e1]
  obtain ⟨k1, k2⟩ := hm.k
  obtain ⟨r1, r2⟩ := hm.r
  generalize mdN (forms.zip given) = kn at k1 k2 r2 hk ⊢
  repeat walk_at "q"
  refine ⟨_, _, _, _, rfl, T.cl_Maker, T.n_result, fld_result (C := T.C_Face) (M := T.C_Maker) forms R, ?_⟩
  refine ⟨_, _, rfl, by decide, ?_⟩
  repeat walk_at "q"
  refine cq0 (.fr .nil) hL ⟨R, rfl, r1, ?_⟩
  repeat walk_at "q"
  refine ⟨fun j G => G = [.fr (mkD T.C_Face T.C_Maker forms R), .fr (tD word), .fr (.lst (given.map fun f => f.o T.C_Face)), .own (gD (kn ++ wG "" (fun t => .nm word t) ((hidK R.kinds).take j))), .no, .no, .no, .no, .no, .no], ⟨[.fr (mkD T.C_Face T.C_Maker forms R), .fr (tD word), .fr (.lst (given.map fun f => f.o T.C_Face)), .own (gD kn), .no, .no, .no, .no, .no, .no], (by repeat (first | exact Wk.nil | refine Wk.keep ?_ | refine Wk.drop ?_)), by show _ = [_, _, _, SV.own (gD (kn ++ [])), _, _, _, _, _, _]; rw [List.append_nil]⟩, ?_, ?_⟩
  · rintro j d G hj rfl
    obtain ⟨t, ht, rfl⟩ := map_get hj
    repeat walk_at "q"
    refine ae_pl rfl rfl ?_
    repeat walk_at "q"
    refine ⟨_, _, _, _, _, rfl, rfl, rfl, rfl, rfl, .T (wG_nin' k1 (hidK_nd r1.nk) ht) (wG_len' k2 (by have := hidK_len R.kinds; have := r1.lk; omega)), ?_⟩
    refine ⟨_, ?_, rfl⟩
    rw [wG_more ht, ← List.append_assoc, gD_put]
    repeat (first | exact Wk.nil | refine Wk.keep ?_ | refine Wk.drop ?_)
  rintro G rfl
  have e2 : (hidK R.kinds).take ((hidK R.kinds).map tD).length = hidK R.kinds := by rw [List.length_map, List.take_length]
  rw [e2, ← hideG_w]
  repeat walk_at "q"
  refine ⟨_, _, _, _, rfl, T.cl_Maker, T.n_result, fld_result (C := T.C_Face) (M := T.C_Maker) forms R, ?_⟩
  refine ⟨_, _, rfl, by decide, ?_⟩
  repeat walk_at "q"
  refine ae_pl rfl rfl ?_
  repeat walk_at "q"
  refine cq0 (.fr (.rdp rfl rfl (.fr .nil))) hL ⟨R, kn ++ hideG word R, rfl, r1, r2, ?_⟩
  exact ⟨[], rfl, rfl, hk⟩
end
end Q
-- text M3
set_option Elab.async false
set_option linter.all false
/-! The mathematics, part 3: the draws' numbers, the words. -/
namespace Q
open PySem L2
theorem deal_key (ns : List Int) (e : Nat) (he : 20 ≤ e) (h : ∀ n ∈ ns, n.natAbs < 2 ^ e) : ∃ B : Int, 1048576 ≤ B ∧ (∀ n ∈ ns, -B < n ∧ n < B) ∧ ∀ x : Int, -(B * 1000000) < x → x < B * 1000000 → x.natAbs < 2 ^ (e + 20) := by
  have h1 : (2 : Nat) ^ 20 ≤ 2 ^ e := Nat.pow_le_pow_right (by decide) he
  have h2 : (2 : Nat) ^ (e + 20) = 2 ^ e * 2 ^ 20 := Nat.pow_add ..
  have h3 : (2 : Nat) ^ 20 = 1048576 := by decide
  rw [h2]
  rw [h3] at h1 ⊢
  generalize (2 : Nat) ^ e = P at h h1 ⊢
  refine ⟨(P : Int), by omega, fun n hn => ?_, fun x a b => ?_⟩
  · have := h n hn; omega
  · omega
def bd (B : Int) : Nat → Int
  | 0 => B * 100000
  | m + 1 => bd B m + B * 64
theorem bd_le {B : Int} (h : 0 ≤ B) : ∀ m, m ≤ 4 → bd B m ≤ B * 1000000
  | 0, _ => by show B * 100000 ≤ _; omega
  | 1, _ => by show B * 100000 + B * 64 ≤ _; omega
  | 2, _ => by show B * 100000 + B * 64 + B * 64 ≤ _; omega
  | 3, _ => by show B * 100000 + B * 64 + B * 64 + B * 64 ≤ _; omega
  | 4, _ => by show B * 100000 + B * 64 + B * 64 + B * 64 + B * 64 ≤ _; omega
theorem deal_ok {x : Int} (h : x.natAbs < 2 ^ (1048576 + 20)) : DealOk x := Nat.lt_of_lt_of_le h (Nat.pow_le_pow_right (by decide) (by decide))
theorem atI_lt {α : Type} {l : List α} {i : Int} (h0 : 0 ≤ i) (h1 : i < (l.length : Int)) : ∃ x, atI l i = some x ∧ x ∈ l ∧ l[i.toNat]? = some x := by
  obtain ⟨n, rfl⟩ := Int.eq_ofNat_of_zero_le h0
  have hn : n < l.length := by omega
  refine ⟨l[n], ?_, List.getElem_mem hn, ?_⟩
  · unfold atI
    have : ixN l.length (n : Int) = some n := by
      unfold ixN
      rw [if_pos (by omega), if_pos (by omega)]
      simp
    rw [this]
    exact List.getElem?_eq_getElem hn
  · rw [Int.toNat_natCast]; exact List.getElem?_eq_getElem hn
theorem atI_last {α : Type} (l : List α) (x : α) : atI (l ++ [x]) (-1) = some x := by
  unfold atI ixN
  rw [if_neg (by decide), if_pos (by rw [List.length_append]; simp; omega), List.length_append]
  show (l ++ [x])[((-1 : Int) + ((l.length + 1 : Nat) : Int)).toNat]? = some x
  have e : ((-1 : Int) + ((l.length + 1 : Nat) : Int)).toNat = l.length := by omega
  rw [e]
  simp
theorem atI_nat {α : Type} {l : List α} {n : Nat} {x : α} (h : l[n]? = some x) : atI l (n : Int) = some x := by
  have hn := (List.getElem?_eq_some_iff.mp h).1
  have : ixN l.length (n : Int) = some n := by
    unfold ixN
    rw [if_pos (by omega), if_pos (by omega)]
    simp
  unfold atI
  rw [this]
  exact h
/-- the words that the law may name -/
def okW (w : Str) : Prop := (∃ c rest, w.cps.toList = (97 + c) :: rest ∧ c < 26) ∧ w.cps.all (· < 0x110000) = true ∧ w.length ≤ 100
theorem okW.s {w : Str} (h : okW w) : okS w = true := by
  obtain ⟨_, h2, h3⟩ := h
  unfold okS
  rw [h2, Bool.true_and]
  exact decide_eq_true (by omega)
theorem okW.ne {w : Str} (h : okW w) : w ≠ "" := by
  rintro rfl
  obtain ⟨⟨c, rest, e, _⟩, _⟩ := h
  have e0 : ("" : Str).cps.toList = [] := by decide +kernel
  rw [e0] at e
  cases e
def mkW (c : Nat) (rest : List Nat) : Str := ⟨((97 + c) :: rest).toArray⟩
theorem mkW_inj {c d : Nat} {r : List Nat} (h : mkW c r = mkW d r) : c = d := by
  have h : (⟨((97 + c) :: r).toArray⟩ : Str) = ⟨((97 + d) :: r).toArray⟩ := h
  injection h with h
  have h := congrArg Array.toList h
  simp at h
  omega
theorem sub_len {α : Type} [DecidableEq α] : ∀ (l b : List α), l.Nodup → (∀ x ∈ l, x ∈ b) → l.length ≤ b.length
  | [], _, _, _ => Nat.zero_le _
  | x :: l, b, nd, h => by
    rw [List.nodup_cons] at nd
    have hx := h x (List.mem_cons_self ..)
    have ih := sub_len l (b.erase x) nd.2 fun y hy => (List.mem_erase_of_ne (fun e => nd.1 (by rw [← e]; exact hy))).mpr (h y (List.mem_cons_of_mem _ hy))
    rw [List.length_erase_of_mem hx] at ih
    have : 0 < b.length := List.length_pos_of_mem hx
    rw [List.length_cons]
    omega
theorem free_letter (bad : List Str) (hb : bad.length < 26) (rest : List Nat) {c : Nat} (hc : c < 26) : ∃ j, j < 26 ∧ mkW ((c + j) % 26) rest ∉ bad := by
  apply Classical.byContradiction
  intro no
  have all : ∀ d, d < 26 → mkW d rest ∈ bad := fun d hd => by
    apply Classical.byContradiction
    intro hn
    refine no ⟨(d + 26 - c) % 26, Nat.mod_lt _ (by decide), ?_⟩
    have e : (c + (d + 26 - c) % 26) % 26 = d := by omega
    rw [e]
    exact hn
  have nd : ((List.range 26).map fun d => mkW d rest).Nodup := by
    rw [List.nodup_iff_pairwise_ne, List.pairwise_map]
    exact (List.nodup_range (n := 26)).imp fun h e => h (mkW_inj e)
  have := sub_len _ bad nd fun x hx => by
    obtain ⟨d, hd, rfl⟩ := List.mem_map.mp hx
    exact all d (List.mem_range.mp hd)
  rw [List.length_map, List.length_range] at this
  omega
theorem mkW_ok {c : Nat} {rest : List Nat} (hc : c < 26) (h1 : rest.all (· < 0x110000) = true) (h2 : rest.length < 100) : okW (mkW c rest) := by
  refine ⟨⟨c, rest, by simp [mkW], hc⟩, ?_, ?_⟩
  · simp only [mkW, List.size_toArray, List.all_toArray', List.all_cons]
    simp at h1 ⊢
    exact ⟨by omega, h1⟩
  · simp [mkW, Str.length]; omega
theorem okW_mk {w : Str} (h : okW w) : ∃ c rest, w = mkW c rest ∧ c < 26 ∧ rest.all (· < 0x110000) = true ∧ rest.length < 100 := by
  obtain ⟨⟨c, rest, e, hc⟩, h2, h3⟩ := h
  have ew : w = mkW c rest := by
    obtain ⟨a⟩ := w
    have e : a.toList = (97 + c) :: rest := e
    show (⟨a⟩ : Str) = ⟨_⟩
    rw [← e]
  refine ⟨c, rest, ew, hc, ?_, ?_⟩
  · rw [ew] at h2
    simp [mkW] at h2 ⊢
    exact h2.2
  · rw [ew] at h3
    simp [mkW, Str.length] at h3
    omega
end Q
-- text C1
set_option Elab.async false
set_option linter.all false
set_option maxRecDepth 100000
set_option maxHeartbeats 4000000
namespace Q
open PySem PySem.Spec PyProof.Rows L2
local macro_rules | `(tactic| walk_at "q") => `(tactic| (first
  | with_reducible refine as_seq ?_ | with_reducible refine as_ret ?_ | with_reducible refine as_if ?_ | with_reducible refine as_deal ?_ | with_reducible refine as_asg ?_ | with_reducible refine as_drop ?_ | with_reducible refine as_dput ?_
  | with_reducible refine at_test ?_ | with_reducible refine at_B ?_ | with_reducible refine at_not ?_ | with_reducible refine at_and ?_ | with_reducible refine at_or ?_
  | with_reducible refine ae_op ?_ | with_reducible refine ae_c ?_ | with_reducible refine ae_andV ?_ | with_reducible refine ae_notV ?_ | with_reducible refine ae_join ?_ | with_reducible refine ae_index ?_ | with_reducible refine ae_from1 ?_ | refine ae_un (i := 0) ?_ | refine ae_var rfl ?_ | refine ae_rd rfl ?_ | refine ae_mt rfl ?_ | with_reducible refine ae_call ?_ | with_reducible refine ae_tup ?_ | with_reducible refine ae_fld ?_ | with_reducible refine ae_cb ?_
  | with_reducible refine aa_nil ?_ | with_reducible refine aa_cons ?_
  | with_reducible refine ae_dget ?_ | with_reducible refine ae_dget2 ?_ | with_reducible refine ae_dget1 ?_ | with_reducible refine ae_din ?_ | with_reducible refine ae_dnotin ?_ | with_reducible refine ae_newK ?_ | with_reducible refine ae_newT ?_ | with_reducible refine ae_lst ?_
  | with_reducible refine ae_meth ?_ | with_reducible refine ct_yes ?_ | with_reducible refine ct_if ?_
  | refine ar_ixT rfl rfl ?_ | refine ar_ixL rfl rfl ?_ | refine ar_II ?_ | refine ar_eq rfl ?_
  | refine itT (by decide +kernel) ?_ | refine itF (by decide +kernel) ?_ | refine itF Bool.false_ne_true ?_ | refine itT rfl ?_
  | refine ⟨.inr ⟨_, _, rfl⟩, ?_⟩ | refine ⟨.inl ⟨_, _, rfl⟩, ?_⟩ | refine ⟨_, _, .T rfl, rfl, ?_⟩ | refine ⟨_, rfl, ?_⟩ | refine ⟨[_, _], rfl, Nat.le_of_ble_eq_true rfl, ?_⟩ | refine ⟨[_, _, _], rfl, Nat.le_of_ble_eq_true rfl, ?_⟩ | refine ⟨[], rfl, Nat.le_of_ble_eq_true rfl, ?_⟩ | refine ⟨[_], rfl, Nat.le_of_ble_eq_true rfl, ?_⟩
  | with_reducible refine as_forL ?_ | with_reducible refine as_forT ?_ | with_reducible refine as_forR ?_ | refine ae_app (ae_pl rfl rfl ⟨_, rfl, ⟨_, rfl⟩, ?_⟩) | refine ae_ins (ae_pl rfl rfl ⟨_, rfl, ⟨_, rfl⟩, ?_⟩) | refine ag_rd rfl ?_ | refine ag_name ?_ | refine ag_own ?_ | refine ag_tup rfl (ags_cons (ags_cons (ags_nil ?_))) | with_reducible refine as_next ?_))
abbrev s_l_deal : Stmt := topS 32
abbrev n_l_deal : List Str := ["_law_script", "_law_k", "_law_number", "_law_form", "_law_j"]
abbrev p_l_deal : List Str := ["_law_script", "_law_k"]
theorem sc_l_deal : FnScope n_l_deal p_l_deal (defScope s_l_deal) := ⟨rfl, rfl, rfl, by decide +kernel, rfl, by decide +kernel, by decide +kernel⟩
abbrev s_l_draw : Stmt := topS 33
abbrev n_l_draw : List Str := ["_law_deal_here", "_law_many", "_law_number", "_law_one", "_law_two"]
abbrev p_l_draw : List Str := ["_law_deal_here", "_law_many"]
theorem sc_l_draw : FnScope n_l_draw p_l_draw (defScope s_l_draw) := ⟨rfl, rfl, rfl, by decide +kernel, rfl, by decide +kernel, by decide +kernel⟩
abbrev s_l_kind : Stmt := topS 37
abbrev n_l_kind : List Str := ["_law_deal_here", "_law_leaves", "_law_most", "_law_form", "_law_one"]
abbrev p_l_kind : List Str := ["_law_deal_here", "_law_leaves", "_law_most"]
theorem sc_l_kind : FnScope n_l_kind p_l_kind (defScope s_l_kind) := ⟨rfl, rfl, rfl, by decide +kernel, rfl, by decide +kernel, by decide +kernel⟩
abbrev s_l_word : Stmt := topS 35
abbrev n_l_word : List Str := ["_law_deal_here", "_law_pool", "_law_own", "_law_some", "_law_word_here"]
abbrev p_l_word : List Str := ["_law_deal_here", "_law_pool", "_law_own"]
theorem sc_l_word : FnScope n_l_word p_l_word (defScope s_l_word) := ⟨rfl, rfl, rfl, by decide +kernel, rfl, by decide +kernel, by decide +kernel⟩
def S_deal (K : PySem.W.Frag) : Spec := fun pm kk => ∃ (ns : List Int) (n : Nat), pm = [.fr (.scr K ns), .fr (.raw (.int n))] ∧ n ≤ 20 ∧ ns.length ≤ 63 ∧ (∀ n ∈ ns, n.natAbs < 2 ^ 1048576) ∧ kk (.v .deal) []
def S_draw : Spec := fun pm kk => ∃ n : Int, pm = [.fr .deal, .fr (.raw (.int n))] ∧ 0 < n ∧ n.natAbs < 2 ^ 100 ∧ ∀ r : Int, 0 ≤ r → r < n → kk (.v (.raw (.int r))) []
theorem na_lt {x : Int} {a : Nat} (h0 : -(2 ^ a : Int) < x) (h1 : x < 2 ^ a) : x.natAbs < 2 ^ a := by
  have e : ((2 ^ a : Nat) : Int) = (2 : Int) ^ a := by simp
  rw [← e] at h0 h1
  omega
theorem DealOk.div {x n : Int} (h : DealOk x) (hn : 0 < n) : DealOk (x / n) := by
  unfold DealOk at h ⊢
  have h1 : (x / n).natAbs ≤ x.natAbs := by
    rcases Int.le_total 0 x with p | p
    · have a := Int.ediv_le_self n p
      have b := Int.ediv_nonneg p (Int.le_of_lt hn)
      omega
    · have a : x ≤ x / n := by
        have := Int.ediv_mul_le x (show n ≠ 0 by omega)
        have q : x / n ≤ 0 := by have := Int.ediv_le_ediv hn p; rw [Int.zero_ediv] at this; exact this
        have r := Int.lt_ediv_add_one_mul_self x hn
        apply Classical.byContradiction
        intro c
        have c1 : x / n + 1 ≤ x := by omega
        have c2 : (x / n + 1) * n ≤ x * n := Int.mul_le_mul_of_nonneg_right c1 (by omega)
        have c3 : x * n ≤ x := by
          have : x * n ≤ x * 1 := Int.mul_le_mul_of_nonpos_left p (by omega)
          omega
        omega
      have q : x / n ≤ 0 := by have := Int.ediv_le_ediv hn p; rw [Int.zero_ediv] at this; exact this
      omega
  exact Nat.lt_of_le_of_lt h1 h
section
variable {P : Program} {w : World} {K : PySem.W.Frag} {mg : Str → Option Value} {base : Heap}
theorem ok_l_draw {f : Addr} {fd : FuncData} (F : Fun K "_law_draw" "_law_draw" s_l_draw f fd) : FnOk P w K mg base CX0 1 f fd p_l_draw (spOf false S_draw) := by
  refine fun_ok F sc_l_draw (by decide) (fun pm k h => by obtain ⟨_, rfl, _⟩ := h; rfl) (fun cdv A outer s H X hr => ⟨_, (pss_cons (ps_set (i := 2) sc_l_draw.nd rfl (Or.inl rfl) (pe_ix ix_list (pv 0) pe_int (fun _ _ => rfl)))
    (pss_cons (ps_if (pt_cmpR op_eq (pe_ix ix_list (pv 0) pe_int (fun _ _ => rfl)) pe_int (nomark _))
    (pss_cons (ps_asg (pe_op op_fdivW (pv 2) (pv 1)) (pg_sub (pv 0) pe_int set_list))
    (pss_one (ps_ret (pe_op op_mod (pv 2) (pv 1)))))
    pss_nil)
    (pss_cons (ps_set (i := 2) sc_l_draw.nd rfl (Or.inl rfl) (pe_op op_mod (pe_op op_add (pe_op op_mulX (pv 2) pe_int) pe_int) pe_int))
    (pss_cons (ps_asg (pe_op op_mod (pe_op op_add (pe_op op_mulX (pv 2) pe_int) pe_int) pe_int) (pg_sub (pv 0) pe_int set_list))
    (pss_cons (ps_set (i := 3) sc_l_draw.nd rfl (Or.inl rfl) (pe_op op_mod (pe_op op_mulX (pv 2) (pv 2)) pe_int))
    (pss_cons (ps_set (i := 4) sc_l_draw.nd rfl (Or.inl rfl) (pe_op op_mod (pe_op op_mulX (pe_ix ix_list (pv 0) pe_int (fun _ _ => rfl)) (pe_ix ix_list (pv 0) pe_int (fun _ _ => rfl))) pe_int))
    (pss_one (ps_ret (pe_op op_mod (pe_op op_add (pe_op op_mulX (pv 3) pe_int) (pv 4)) (pv 1)))))))))), ?_⟩)
  rintro L hL pm av kk ⟨n, rfl, hn, hb, hk⟩
  repeat walk_at "q"
  refine ar_deal1 fun x hx => ?_
  repeat walk_at "q"
  refine ar_deal0 fun fm => ?_
  repeat walk_at "q"
  refine itD (fun _ => ?_) fun _ => ?_
  · repeat walk_at "q"
    refine ar_IIC ⟨hn, Nat.lt_of_lt_of_le (PySem.Flt.log2_lt_of (by decide) hb) (by decide)⟩ ?_
    repeat walk_at "q"
    refine ⟨hx.div hn, ?_⟩
    repeat walk_at "q"
    refine ⟨rfl, ?_⟩
    repeat walk_at "q"
    refine ⟨rfl, ?_⟩
    repeat walk_at "q"
    refine ar_IIC hn ?_
    exact ⟨[], rfl, rfl, hk _ (Int.emod_nonneg _ (by omega)) (Int.emod_lt_of_pos _ hn)⟩
  · repeat walk_at "q"
    refine ar_IIC (mulx_ok (a := 1048700) (b := 20) hx (na_lt (by decide) (by decide)) (by decide)) ?_
    repeat walk_at "q"
    refine ar_IIC (by decide) ?_
    have b0 := Int.emod_nonneg (x * 48271 + 7919) (show (2147483647 : Int) ≠ 0 by decide)
    have b1 := Int.emod_lt_of_pos (x * 48271 + 7919) (show (0 : Int) < 2147483647 by decide)
    generalize (x * 48271 + 7919) % 2147483647 = y at b0 b1 ⊢
    repeat walk_at "q"
    refine ar_IIC (mulx_ok (a := 31) (b := 20) (by omega) (na_lt (by decide) (by decide)) (by decide)) ?_
    repeat walk_at "q"
    refine ar_IIC (by decide) ?_
    have c0 := Int.emod_nonneg (y * 40692 + 104729) (show (2147483399 : Int) ≠ 0 by decide)
    have c1 := Int.emod_lt_of_pos (y * 40692 + 104729) (show (0 : Int) < 2147483399 by decide)
    generalize (y * 40692 + 104729) % 2147483399 = z at c0 c1 ⊢
    refine ⟨_, rfl, Nat.lt_of_lt_of_le (show z.natAbs < 2 ^ 31 by omega) (Nat.pow_le_pow_right (by decide) (by decide)), ?_⟩
    repeat walk_at "q"
    refine ⟨rfl, ?_⟩
    repeat walk_at "q"
    refine ⟨rfl, ?_⟩
    repeat walk_at "q"
    refine ar_IIC (mulx_ok (a := 31) (b := 31) (by omega) (by omega) (by decide)) ?_
    repeat walk_at "q"
    refine ar_IIC (by decide) ?_
    have d0 := Int.emod_nonneg (y * y) (show (2147483629 : Int) ≠ 0 by decide)
    have d1 := Int.emod_lt_of_pos (y * y) (show (0 : Int) < 2147483629 by decide)
    generalize (y * y) % 2147483629 = o1 at d0 d1 ⊢
    repeat walk_at "q"
    refine ar_deal1 fun u hu => ?_
    repeat walk_at "q"
    refine ar_deal1 fun v hv => ?_
    refine ar_IIC (mulx_ok (a := 1048700) (b := 1048700) hu hv (by decide)) ?_
    repeat walk_at "q"
    refine ar_IIC (by decide) ?_
    repeat walk_at "q"
    refine ar_IIC (mulx_ok (a := 31) (b := 32) (by omega) (na_lt (by decide) (by decide)) (by decide)) ?_
    repeat walk_at "q"
    refine ar_IIC hn ?_
    exact ⟨[], rfl, rfl, hk _ (Int.emod_nonneg _ (by omega)) (Int.emod_lt_of_pos _ hn)⟩
end
end Q
-- text C2
set_option Elab.async false
set_option linter.all false
set_option maxRecDepth 100000
set_option maxHeartbeats 4000000
namespace Q
open PySem PySem.Spec PyProof.Rows L2
local macro_rules | `(tactic| walk_at "q") => `(tactic| (first
  | with_reducible refine as_seq ?_ | with_reducible refine as_ret ?_ | with_reducible refine as_if ?_ | with_reducible refine as_deal ?_ | with_reducible refine as_asg ?_ | with_reducible refine as_drop ?_ | with_reducible refine as_dput ?_
  | with_reducible refine at_test ?_ | with_reducible refine at_B ?_ | with_reducible refine at_not ?_ | with_reducible refine at_and ?_ | with_reducible refine at_or ?_
  | with_reducible refine ae_op ?_ | with_reducible refine ae_c ?_ | with_reducible refine ae_andV ?_ | with_reducible refine ae_notV ?_ | with_reducible refine ae_join ?_ | with_reducible refine ae_index ?_ | with_reducible refine ae_from1 ?_ | refine ae_un (i := 0) ?_ | refine ae_var rfl ?_ | refine ae_rd rfl ?_ | refine ae_mt rfl ?_ | with_reducible refine ae_call ?_ | with_reducible refine ae_tup ?_ | with_reducible refine ae_fld ?_ | with_reducible refine ae_cb ?_
  | with_reducible refine aa_nil ?_ | with_reducible refine aa_cons ?_
  | with_reducible refine ae_dget ?_ | with_reducible refine ae_dget2 ?_ | with_reducible refine ae_dget1 ?_ | with_reducible refine ae_din ?_ | with_reducible refine ae_dnotin ?_ | with_reducible refine ae_newK ?_ | with_reducible refine ae_newT ?_ | with_reducible refine ae_lst ?_
  | with_reducible refine ae_meth ?_ | with_reducible refine ct_yes ?_ | with_reducible refine ct_if ?_
  | refine ar_ixT rfl rfl ?_ | refine ar_ixL rfl rfl ?_ | refine ar_II ?_ | refine ar_eq rfl ?_
  | refine itT (by decide +kernel) ?_ | refine itF (by decide +kernel) ?_ | refine itF Bool.false_ne_true ?_ | refine itT rfl ?_
  | refine ⟨.inr ⟨_, _, rfl⟩, ?_⟩ | refine ⟨.inl ⟨_, _, rfl⟩, ?_⟩ | refine ⟨_, _, .T rfl, rfl, ?_⟩ | refine ⟨_, rfl, ?_⟩ | refine ⟨[_, _], rfl, Nat.le_of_ble_eq_true rfl, ?_⟩ | refine ⟨[_, _, _], rfl, Nat.le_of_ble_eq_true rfl, ?_⟩ | refine ⟨[], rfl, Nat.le_of_ble_eq_true rfl, ?_⟩ | refine ⟨[_], rfl, Nat.le_of_ble_eq_true rfl, ?_⟩
  | with_reducible refine as_forL ?_ | with_reducible refine as_forT ?_ | with_reducible refine as_forR ?_ | refine ae_app (ae_pl rfl rfl ⟨_, rfl, ⟨_, rfl⟩, ?_⟩) | refine ae_ins (ae_pl rfl rfl ⟨_, rfl, ⟨_, rfl⟩, ?_⟩) | refine ag_rd rfl ?_ | refine ag_name ?_ | refine ag_own ?_ | refine ag_tup rfl (ags_cons (ags_cons (ags_nil ?_))) | with_reducible refine as_next ?_))
section
variable {P : Program} {w : World} {K : PySem.W.Frag} {mg : Str → Option Value} {base : Heap}
theorem ok_l_deal {f : Addr} {fd : FuncData} (T : Txt K mg) (F : Fun K "_law_deal" "_law_deal" s_l_deal f fd) : FnOk P w K mg base CX0 1 f fd p_l_deal (spOf true (S_deal K)) := by
  refine fun_ok F sc_l_deal (by decide) (fun pm k h => by obtain ⟨_, _, rfl, _⟩ := h; rfl) (fun cdv A outer s H X hr => ⟨_, (pss_cons (ps_set (i := 2) sc_l_deal.nd rfl (Or.inl rfl) (pe_op op_add (pe_op op_mulX pe_int (pv 1)) pe_int))
    (pss_cons (ps_set (i := 3) sc_l_deal.nd rfl (Or.inl rfl) pe_int)
    (pss_cons (ps_if (pt_cmpR op_gt (pe_callB call_len_seq (by rfl) T.z_len PySem.boot_len (pa_cons (pv 0) pa_nil)) pe_int (nomark _))
    (pss_cons (ps_set (i := 2) sc_l_deal.nd rfl (Or.inl rfl) (pe_op op_add (pe_op op_mulX (pe_ix ix_list (pv 0) (pe_op op_mod (pv 1) (pe_callB call_len_seq (by rfl) T.z_len PySem.boot_len (pa_cons (pv 0) pa_nil))) (fun _ _ => rfl)) pe_int) (pe_op op_mulX (pe_op op_mulX pe_int (pv 1)) (pv 1))))
    (pss_one (ps_set (i := 3) sc_l_deal.nd rfl (Or.inl rfl) (pe_op op_mod (pe_ix ix_list (pv 0) pe_int (fun _ _ => rfl)) pe_int))))
    pss_nil)
    (pss_cons (ps_if (PW.pt (pw_and (pt_cmpR op_lt (pv 1) (pe_callB call_len_seq (by rfl) T.z_len PySem.boot_len (pa_cons (pv 0) pa_nil)) (nomark _)) (pw_and1 (pt_cmpR op_eq (pv 3) pe_int (nomark _)))))
    (pss_one (ps_set (i := 2) sc_l_deal.nd rfl (Or.inl rfl) (pe_op op_fdivW (pe_ix ix_list (pv 0) (pv 1) (fun _ _ => rfl)) (pe_ix ix_list (pe_lst (pa_cons pe_int (pa_cons pe_int pa_nil))) (pe_callTy call_int1 (by rfl) T.z_int (by decide +kernel) (pa_cons (pe_cmpR op_eq (pv 1) pe_int (nomark _)) pa_nil)) (fun _ _ => rfl)))))
    pss_nil)
    (pss_cons (ps_for PassesOwn.never rfl (pi_range3 (by rfl) T.z_range (pa_cons (pe_op op_add (pv 1) pe_int) (pa_cons (pe_callB (call_min2 rfl) (by rfl) T.z_min (by decide +kernel) (pa_cons pe_int (pa_cons (pe_callB call_len_seq (by rfl) T.z_len PySem.boot_len (pa_cons (pv 0) pa_nil)) pa_nil))) (pa_cons pe_int pa_nil)))) (pg_name (i := 4) sc_l_deal.nd rfl (Or.inl rfl))
    (pss_one (ps_set (i := 2) sc_l_deal.nd rfl (Or.inl rfl) (pe_op op_add (pv 2) (pe_op op_mulX (pe_ix ix_list (pv 0) (pv 4) (fun _ _ => rfl)) (pe_op op_add (pv 4) pe_int))))))
    (pss_one (ps_ret (pe_lst (pa_cons (pv 3) (pa_cons (pv 2) pa_nil)))))))))), ?_⟩)
  rintro L hL pm av kk ⟨ns, n, rfl, hn, hl, hb, hk⟩
  have hL0 : L = none := hL rfl
  obtain ⟨B, hB, hb1, fin⟩ := deal_key ns 1048576 (by decide) hb
  have n20 : ((n : Nat) : Int).natAbs < 2 ^ 20 := by omega
  refine as_seq ?_
  repeat ((fail_if_success (with_reducible refine as_seq ?_)); walk_at "q")
  refine ar_IIC (mulx_ok (a := 20) (b := 20) (na_lt (by decide) (by decide)) n20 (by decide)) ?_
  repeat ((fail_if_success (with_reducible refine as_seq ?_)); walk_at "q")
  refine as_seq ?_
  repeat ((fail_if_success (with_reducible refine as_seq ?_)); walk_at "q")
  refine as_mid (fun G => ∃ x fm : Int, -(B * 99999) < x ∧ x < B * 99999 ∧ G = [.fr (.scr K ns), .fr (.raw (.int n)), .fr (.raw (.int x)), .fr (.raw (.int fm)), .no]) ?_ ?_
  · repeat ((fail_if_success (with_reducible refine as_seq ?_)); walk_at "q")
    refine ac_lenS hL0 ?_
    repeat ((fail_if_success (with_reducible refine as_seq ?_)); walk_at "q")
    refine itD (fun h => ?_) fun h => ?_
    · have hpos : 0 < ns.length := by simpa using h
      have m0 := Int.emod_nonneg (n : Int) (show (ns.length : Int) ≠ 0 by omega)
      have m1 := Int.emod_lt_of_pos (n : Int) (show (0 : Int) < (ns.length : Int) by omega)
      obtain ⟨y, hy, my, _⟩ := atI_lt m0 m1
      obtain ⟨z, hz, mz, _⟩ := atI_lt (i := 0) (Int.le_refl 0) (show (0 : Int) < (ns.length : Int) by omega)
      have yb := hb1 y my
      repeat walk_at "q"
      refine ac_lenS hL0 ?_
      refine ar_IIC (show (0 : Int) < (ns.length : Int) by omega) ?_
      refine ar_ixC hL0 hy ?_
      repeat walk_at "q"
      refine ar_IIC (mulx_ok (a := 1048576) (b := 20) (hb y my) (na_lt (by decide) (by decide)) (by decide)) ?_
      repeat walk_at "q"
      refine ar_IIC (mulx_ok (a := 20) (b := 20) (na_lt (by decide) (by decide)) n20 (by decide)) ?_
      repeat walk_at "q"
      refine ar_IIC (mulx_ok (a := 20) (b := 20) (show (7919 * (n : Int)).natAbs < 2 ^ 20 by omega) n20 (by decide)) ?_
      have e : 7919 * (n : Int) * (n : Int) ≤ 7919 * 20 * 20 ∧ 0 ≤ 7919 * (n : Int) * (n : Int) := by
        have h1 : (n : Int) * (n : Int) ≤ 20 * 20 := Int.mul_le_mul (by omega) (by omega) (by omega) (by omega)
        have h2 : 0 ≤ (n : Int) * (n : Int) := Int.mul_nonneg (by omega) (by omega)
        rw [Int.mul_assoc]
        omega
      repeat walk_at "q"
      refine ar_ixC hL0 hz ?_
      repeat walk_at "q"
      refine ar_IIC (by decide) ?_
      repeat walk_at "q"
      exact ⟨_, _, by omega, by omega, rfl⟩
    · repeat walk_at "q"
      exact ⟨_, _, by omega, by omega, rfl⟩
  rintro G ⟨x, fm, x0, x1, rfl⟩
  refine as_mid (fun G => ∃ x : Int, -(B * 100000) < x ∧ x < B * 100000 ∧ G = [.fr (.scr K ns), .fr (.raw (.int n)), .fr (.raw (.int x)), .fr (.raw (.int fm)), .no]) ?_ ?_
  · repeat ((fail_if_success (with_reducible refine as_seq ?_)); walk_at "q")
    refine ac_lenS hL0 ?_
    repeat ((fail_if_success (with_reducible refine as_seq ?_)); walk_at "q")
    refine itD (fun h => ?_) fun h => ?_
    · have hlt : (n : Int) < (ns.length : Int) := by simpa using h
      obtain ⟨y, hy, my, _⟩ := atI_lt (Int.natCast_nonneg n) hlt
      have yb := hb1 y my
      repeat ((fail_if_success (with_reducible refine as_seq ?_)); walk_at "q")
      refine itD (fun h2 => ?_) fun h2 => ?_
      · repeat ((fail_if_success (with_reducible refine as_seq ?_)); walk_at "q")
        refine ar_ixC hL0 hy ?_
        repeat walk_at "q"
        refine ac_intB ?_
        have e : ∃ d : Int, (d = 1 ∨ d = 2) ∧ atI [D.raw (.int 1), D.raw (.int 2)] (if decide (V.int (n : Int) = V.int 0) then 1 else 0) = some (.raw (.int d)) := by
          cases decide (V.int (n : Int) = V.int 0)
          · exact ⟨1, .inl rfl, rfl⟩
          · exact ⟨2, .inr rfl, rfl⟩
        obtain ⟨d, hd, e⟩ := e
        refine ar_ixL rfl e ?_
        refine ar_IIC ⟨by omega, by rcases hd with rfl | rfl <;> decide⟩ ?_
        repeat walk_at "q"
        refine ⟨_, ?_, ?_, rfl⟩
        · have := Int.ediv_mul_le y (show d ≠ 0 by omega)
          have h3 := Int.lt_ediv_add_one_mul_self y (show 0 < d by omega)
          rcases hd with rfl | rfl <;> omega
        · have := Int.ediv_mul_le y (show d ≠ 0 by omega)
          rcases hd with rfl | rfl <;> omega
      · repeat walk_at "q"
        exact ⟨_, by omega, by omega, rfl⟩
    · repeat walk_at "q"
      exact ⟨_, by omega, by omega, rfl⟩
  rintro G ⟨x, x0, x1, rfl⟩
  refine as_seq (as_forR3 ?_)
  repeat walk_at "q"
  refine ac_lenS hL0 ?_
  repeat walk_at "q"
  refine ac_min2 ?_
  repeat walk_at "q"
  have e : ∃ m : Nat, (if ((ns.length : Nat) : Int) < 63 then ((ns.length : Nat) : Int) else 63) = (m : Int) ∧ m < 64 ∧ m ≤ ns.length := by
    by_cases c : ((ns.length : Nat) : Int) < 63
    · rw [if_pos c]; exact ⟨ns.length, rfl, by omega, Nat.le_refl _⟩
    · rw [if_neg c]; exact ⟨63, rfl, by omega, by omega⟩
  obtain ⟨m, em, hm1, hm2⟩ := e
  obtain ⟨c, rc, c4, lt⟩ := rgc17 (a := n + 17) (b := m) (by omega) hm1
  have ea : (n : Int) + 17 = ((n + 17 : Nat) : Int) := by omega
  rw [em, ea]
  refine ⟨_, _, _, c, rfl, rc, fun i G => ∃ x j : Int, -(bd B i) < x ∧ x < bd B i ∧ ∃ g, G = [.fr (.scr K ns), .fr (.raw (.int n)), .fr (.raw (.int x)), .fr (.raw (.int fm)), g], ⟨_, Wk.refl _, x, 0, x0, x1, .no, rfl⟩, ?_, ?_⟩
  · rintro i G hi ⟨x, j, x0, x1, g, rfl⟩
    have li := lt i hi
    obtain ⟨y, hy, my, _⟩ := atI_lt (l := ns) (i := ((n + 17 : Nat) : Int) + (i : Int) * 17) (by omega) (by omega)
    have yb := hb1 y my
    have hj0 : 0 ≤ ((n + 17 : Nat) : Int) + (i : Int) * 17 := by omega
    have hj1 : ((n + 17 : Nat) : Int) + (i : Int) * 17 < 63 := by omega
    generalize ((n + 17 : Nat) : Int) + (i : Int) * 17 = jj at hy hj0 hj1 ⊢
    repeat walk_at "q"
    refine ar_ixC hL0 hy ?_
    repeat walk_at "q"
    refine ar_IIC (mulx_ok (a := 1048576) (b := 20) (hb y my) (show (jj + 1).natAbs < 2 ^ 20 by omega) (by decide)) ?_
    repeat walk_at "q"
    have e1 : -(B * 64) < y * (jj + 1) ∧ y * (jj + 1) < B * 64 := by
      constructor
      · have h1 : -B * (jj + 1) ≤ y * (jj + 1) := Int.mul_le_mul_of_nonneg_right (by omega) (by omega)
        have h2 : B * (jj + 1) ≤ B * 63 := Int.mul_le_mul_of_nonneg_left (by omega) (by omega)
        have h3 : -B * (jj + 1) = -(B * (jj + 1)) := Int.neg_mul ..
        omega
      · have h1 : y * (jj + 1) ≤ B * (jj + 1) := Int.mul_le_mul_of_nonneg_right (by omega) (by omega)
        have h2 : B * (jj + 1) ≤ B * 63 := Int.mul_le_mul_of_nonneg_left (by omega) (by omega)
        omega
    refine ⟨_, Wk.refl _, _, jj, ?_, ?_, _, rfl⟩
    · show -(bd B i + B * 64) < _; omega
    · show _ < bd B i + B * 64; omega
  · rintro G ⟨x, j, x0, x1, g, rfl⟩
    have q := bd_le (show 0 ≤ B by omega) c c4
    refine as_retDeal ?_
    repeat walk_at "q"
    refine ⟨_, _, rfl, deal_ok (fin x (by omega) (by omega)), ?_⟩
    exact ⟨[], rfl, rfl, hk⟩
end
end Q
-- text C3
set_option Elab.async false
set_option linter.all false
set_option maxRecDepth 100000
set_option maxHeartbeats 4000000
namespace Q
open PySem PySem.Spec PyProof.Rows L2
local macro_rules | `(tactic| walk_at "q") => `(tactic| (first
  | with_reducible refine as_seq ?_ | with_reducible refine as_ret ?_ | with_reducible refine as_if ?_ | with_reducible refine as_deal ?_ | with_reducible refine as_asg ?_ | with_reducible refine as_drop ?_ | with_reducible refine as_dput ?_
  | with_reducible refine at_test ?_ | with_reducible refine at_B ?_ | with_reducible refine at_not ?_ | with_reducible refine at_and ?_ | with_reducible refine at_or ?_
  | with_reducible refine ae_op ?_ | with_reducible refine ae_c ?_ | with_reducible refine ae_andV ?_ | with_reducible refine ae_notV ?_ | with_reducible refine ae_join ?_ | with_reducible refine ae_index ?_ | with_reducible refine ae_from1 ?_ | refine ae_un (i := 0) ?_ | refine ae_var rfl ?_ | refine ae_rd rfl ?_ | refine ae_mt rfl ?_ | with_reducible refine ae_call ?_ | with_reducible refine ae_tup ?_ | with_reducible refine ae_fld ?_ | with_reducible refine ae_cb ?_
  | with_reducible refine aa_nil ?_ | with_reducible refine aa_cons ?_
  | with_reducible refine ae_dget ?_ | with_reducible refine ae_dget2 ?_ | with_reducible refine ae_dget1 ?_ | with_reducible refine ae_din ?_ | with_reducible refine ae_dnotin ?_ | with_reducible refine ae_newK ?_ | with_reducible refine ae_newT ?_ | with_reducible refine ae_lst ?_
  | with_reducible refine ae_meth ?_ | with_reducible refine ct_yes ?_ | with_reducible refine ct_if ?_
  | refine ar_ixT rfl rfl ?_ | refine ar_ixL rfl rfl ?_ | refine ar_II ?_ | refine ar_eq rfl ?_
  | refine itT (by decide +kernel) ?_ | refine itF (by decide +kernel) ?_ | refine itF Bool.false_ne_true ?_ | refine itT rfl ?_
  | refine ⟨.inr ⟨_, _, rfl⟩, ?_⟩ | refine ⟨.inl ⟨_, _, rfl⟩, ?_⟩ | refine ⟨_, _, .T rfl, rfl, ?_⟩ | refine ⟨_, rfl, ?_⟩ | refine ⟨[_, _], rfl, Nat.le_of_ble_eq_true rfl, ?_⟩ | refine ⟨[_, _, _], rfl, Nat.le_of_ble_eq_true rfl, ?_⟩ | refine ⟨[], rfl, Nat.le_of_ble_eq_true rfl, ?_⟩ | refine ⟨[_], rfl, Nat.le_of_ble_eq_true rfl, ?_⟩
  | with_reducible refine as_forL ?_ | with_reducible refine as_forT ?_ | with_reducible refine as_forR ?_ | refine ae_app (ae_pl rfl rfl ⟨_, rfl, ⟨_, rfl⟩, ?_⟩) | refine ae_ins (ae_pl rfl rfl ⟨_, rfl, ⟨_, rfl⟩, ?_⟩) | refine ag_rd rfl ?_ | refine ag_name ?_ | refine ag_own ?_ | refine ag_tup rfl (ags_cons (ags_cons (ags_nil ?_))) | with_reducible refine as_next ?_))
abbrev s_l_name : Stmt := topS 34
abbrev n_l_name : List Str := ["_law_deal_here", "_law_taken", "_law_letters", "_law_words", "_law_word_here", "_law_k"]
abbrev p_l_name : List Str := ["_law_deal_here", "_law_taken"]
theorem sc_l_name : FnScope n_l_name p_l_name (defScope s_l_name) := ⟨rfl, rfl, rfl, by decide +kernel, rfl, by decide +kernel, by decide +kernel⟩
def S_kind (n : Nat) : Spec := fun pm kk => ∃ (ls : List Kd) (m : Nat), pm = [.fr .deal, .rd (.lst (ls.map Kd.d)), .fr (.raw (.int m))] ∧ 1 ≤ m ∧ m ≤ n ∧ ls.length ≤ 1000 ∧ (∀ k ∈ ls, ∃ q t, k = .nm q t) ∧ ∀ k : Kd, k.words ≤ m → k.All (fun q t => Kd.nm q t ∈ ls) → kk (.v k.d) []
def S_name : Spec := fun pm kk => ∃ (tk : List Str), pm = [.fr .deal, .mt (.lst (tk.map tD))] ∧ tk.length ≤ 16 ∧ ∀ w, okW w → w ∉ tk → kk (.v (tD w)) [.lst ((tk ++ [w]).map tD)]
def S_word : Spec := fun pm kk => ∃ (pool own : List Str), pm = [.fr .deal, .mt (.lst (pool.map tD)), .mt (.lst (own.map tD))] ∧ (∀ w ∈ pool, okW w) ∧ pool.length ≤ 1000 ∧ own.length ≤ 16 ∧
  ∀ (w : Str) (pool' : List Str), okW w → w ∉ own → (∀ w ∈ pool', okW w) → pool'.length ≤ pool.length + 1 → kk (.v (tD w)) [.lst (pool'.map tD), .lst ((own ++ [w]).map tD)]
section
variable {P : Program} {w : World} {K : PySem.W.Frag} {mg : Str → Option Value} {base : Heap}
theorem ok_l_kind {n : Nat} {f : Addr} {fd : FuncData} (T : Txt K mg) (F : Fun K "_law_kind" "_law_kind" s_l_kind f fd) (c_l_draw : Callee P w K mg base 1 "_law_draw" p_l_draw [] false S_draw) (c_l_size : Callee P w K mg base 100 "_law_size" p_l_size [] false (S_words 100))
    (c_l_kind : Callee P w K mg base (100 + n) "_law_kind" p_l_kind [] false (S_kind n)) (hn : n ≤ 20) :
    FnOk P w K mg base CX0 (100 + n + 1) f fd p_l_kind (spOf false (S_kind (n + 1))) := by
  refine fun_ok F sc_l_kind (by decide) (fun pm k h => by obtain ⟨_, _, rfl, _⟩ := h; rfl) (fun cdv A outer s H X hr => ⟨_, (pss_cons (ps_set (i := 3) sc_l_kind.nd rfl (Or.inl rfl) (pe_cal c_l_draw (hr.mono (by omega)) (by rfl) (pa_cons (pv 0) (pa_cons pe_int pa_nil))))
    (pss_cons (ps_if (PW.pt (pw_and (pt_cmpR op_gt (pv 3) pe_int (nomark _)) (pw_and1 (pt_cmpR op_gt (pv 2) pe_int (nomark _)))))
    (pss_cons (ps_set (i := 4) sc_l_kind.nd rfl (Or.inl rfl) (pe_cal c_l_kind (hr.mono (by omega)) (by rfl) (pa_cons (pv 0) (pa_cons (pv 1) (pa_cons (pe_op op_add pe_int (pe_cal c_l_draw (hr.mono (by omega)) (by rfl) (pa_cons (pv 0) (pa_cons (pe_op op_sub (pv 2) pe_int) pa_nil)))) pa_nil)))))
    (pss_one (ps_ret (pe_tup (pa_cons pe_str (pa_cons (pv 4) (pa_cons (pe_cal c_l_kind (hr.mono (by omega)) (by rfl) (pa_cons (pv 0) (pa_cons (pv 1) (pa_cons (pe_op op_sub (pe_op op_sub (pv 2) pe_int) (pe_cal c_l_size (hr.mono (by omega)) (by rfl) (pa_cons (pv 4) pa_nil))) pa_nil)))) pa_nil)))))))
    pss_nil)
    (pss_cons (ps_if (PW.pt (pw_and (pt_cmpR op_gt (pv 3) pe_int (nomark _)) (pw_and1 (pt_cmpR op_gt (pe_callB call_len_seq (by rfl) T.z_len PySem.boot_len (pa_cons (pv 1) pa_nil)) pe_int (nomark _)))))
    (pss_one (ps_ret (pe_ix ix_list (pv 1) (pe_cal c_l_draw (hr.mono (by omega)) (by rfl) (pa_cons (pv 0) (pa_cons (pe_callB call_len_seq (by rfl) T.z_len PySem.boot_len (pa_cons (pv 1) pa_nil)) pa_nil))) (fun _ _ => rfl))))
    pss_nil)
    (pss_one (ps_ret (pe_tup (pa_cons pe_str (pa_cons (pe_op op_add pe_int (pe_cal c_l_draw (hr.mono (by omega)) (by rfl) (pa_cons (pv 0) (pa_cons (pe_op op_pow pe_int pe_int) pa_nil)))) pa_nil)))))))), ?_⟩)
  rintro L hL pm av kk ⟨ls, m, rfl, m1, m2, ll, hn, hk⟩
  refine as_seq ?_
  repeat ((fail_if_success (with_reducible refine as_seq ?_)); walk_at "q")
  refine cq0 (.fr (.fr .nil)) nl ⟨5, rfl, by decide, by decide, fun fm _ _ => ?_⟩
  repeat ((fail_if_success (with_reducible refine as_seq ?_)); walk_at "q")
  refine as_mid (fun G => G = [.fr .deal, .rd (.lst (ls.map Kd.d)), .fr (.raw (.int m)), .fr (.raw (.int fm)), .no]) ?_ ?_
  · repeat ((fail_if_success (with_reducible refine as_seq ?_)); walk_at "q")
    refine itD (fun h1 => ?_) fun h1 => ?_
    · repeat ((fail_if_success (with_reducible refine as_seq ?_)); walk_at "q")
      refine itD (fun h2 => ?_) fun h2 => ?_
      · have h2 : 2 < m := by have h2 : (2 : Int) < (m : Int) := by simpa using h2
                              omega
        repeat walk_at "q"
        refine cq0 (.fr (.fr .nil)) nl ⟨(m : Int) - 2, rfl, by omega, by omega, fun r r0 r1 => ?_⟩
        repeat walk_at "q"
        have e1 : (1 : Int) + r = ((1 + r.toNat : Nat) : Int) := by omega
        rw [e1]
        refine cq0 (.fr (.rdp rfl rfl (.fr .nil))) nl ⟨ls, 1 + r.toNat, rfl, by omega, by omega, ll, hn, fun a a1 a2 => ?_⟩
        repeat walk_at "q"
        refine cq0 (.fr .nil) nl ⟨a, rfl, by have := a.dep_le; omega, ?_⟩
        repeat walk_at "q"
        have e2 : (m : Int) - 1 - (a.words : Int) = ((m - 1 - a.words : Nat) : Int) := by omega
        rw [e2]
        refine cq0 (.fr (.rdp rfl rfl (.fr .nil))) nl ⟨ls, m - 1 - a.words, rfl, by omega, by omega, ll, hn, fun b b1 b2 => ?_⟩
        repeat walk_at "q"
        exact ⟨[], rfl, rfl, hk (.pair a b) (by show 1 + a.words + b.words ≤ m; omega) ⟨a2, b2⟩⟩
      · repeat walk_at "q"
        rfl
    · repeat walk_at "q"
      rfl
  rintro G rfl
  refine as_mid (fun G => G = [.fr .deal, .rd (.lst (ls.map Kd.d)), .fr (.raw (.int m)), .fr (.raw (.int fm)), .no]) ?_ ?_
  · repeat ((fail_if_success (with_reducible refine as_seq ?_)); walk_at "q")
    refine itD (fun h1 => ?_) fun h1 => ?_
    · repeat ((fail_if_success (with_reducible refine as_seq ?_)); walk_at "q")
      refine ac_lenL rfl ?_
      repeat ((fail_if_success (with_reducible refine as_seq ?_)); walk_at "q")
      refine itD (fun h2 => ?_) fun h2 => ?_
      · have h2 : 0 < ls.length := by have h2 : (0 : Int) < ((ls.map Kd.d).length : Int) := by simpa using h2
                                      rw [List.length_map] at h2; omega
        repeat walk_at "q"
        refine ac_lenL rfl ?_
        repeat walk_at "q"
        rw [List.length_map]
        refine cq0 (.fr (.fr .nil)) nl ⟨_, rfl, by omega, by omega, fun r r0 r1 => ?_⟩
        obtain ⟨x, hx, mx, _⟩ := atI_lt (l := ls.map Kd.d) r0 (by rw [List.length_map]; exact r1)
        refine ar_ixL rfl hx ?_
        obtain ⟨k, hkm, rfl⟩ := List.mem_map.mp mx
        obtain ⟨q, t, rfl⟩ := hn k hkm
        exact ⟨[], rfl, rfl, hk (.nm q t) m1 hkm⟩
      · repeat walk_at "q"
        rfl
    · repeat walk_at "q"
      rfl
  rintro G rfl
  repeat walk_at "q"
  refine ar_IIC (by unfold CPow; decide) ?_
  repeat walk_at "q"
  refine cq0 (.fr (.fr .nil)) nl ⟨_, rfl, by decide, by decide, fun r r0 r1 => ?_⟩
  repeat walk_at "q"
  exact ⟨[], rfl, rfl, hk (.num (1 + r)) m1 True.intro⟩
theorem ok_l_word {f : Addr} {fd : FuncData} (T : Txt K mg) (F : Fun K "_law_word" "_law_word" s_l_word f fd) (c_l_draw : Callee P w K mg base 1 "_law_draw" p_l_draw [] false S_draw) (c_l_name : Callee P w K mg base 2 "_law_name" p_l_name [] false S_name) :
    FnOk P w K mg base CX0 3 f fd p_l_word (spOf false S_word) := by
  refine fun_ok F sc_l_word (by decide) (fun pm k h => by obtain ⟨_, _, rfl, _⟩ := h; rfl) (fun cdv A outer s H X hr => ⟨_, (pss_cons (ps_setLc (i := 3) (own := [("_law_word_here", 4)]) (g := gName 4) (by rfl) sc_l_word.nd rfl rfl (sw_true rfl rfl rfl (by decide +kernel)) (pi_list (pv 1)) (blkOk_by (N := n_l_word) (sc := defScope s_l_word) (by decide +kernel))
        (fun _ _ _ _ _ => (pg_name (i := 4) sc_l_word.nd rfl (Or.inl rfl))) (fun _ _ _ _ _ => pts_one (pt_cmpR (op_notIn_seqk (K := K) rfl) (pv 4) (pv 2) (by rfl)))
        (fun _ _ _ _ _ => (pv 4)))
    (pss_cons (ps_if (PW.pt (pw_and (pt_cmpR op_gt (pe_callB call_len_seq (by rfl) T.z_len PySem.boot_len (pa_cons (pv 3) pa_nil)) pe_int (nomark _)) (pw_and1 (pt_cmpR op_eq (pe_cal c_l_draw (hr.mono (by omega)) (by rfl) (pa_cons (pv 0) (pa_cons pe_int pa_nil))) pe_int (nomark _)))))
    (pss_one (ps_expr (pe_bm PySem.F.plainAttrs_list PySem.F.slot_list_append PySem.F.type_list_append mt_append (pv 2) (pa_cons (pe_ix ix_list (pv 3) (pe_cal c_l_draw (hr.mono (by omega)) (by rfl) (pa_cons (pv 0) (pa_cons (pe_callB call_len_seq (by rfl) T.z_len PySem.boot_len (pa_cons (pv 3) pa_nil)) pa_nil))) (fun _ _ => rfl)) pa_nil))))
    (pss_one (ps_expr (pe_bm PySem.F.plainAttrs_list PySem.F.slot_list_append PySem.F.type_list_append mt_append (pv 1) (pa_cons (pe_cal c_l_name (hr.mono (by omega)) (by rfl) (pa_cons (pv 0) (pa_cons (pv 2) pa_nil))) pa_nil)))))
    (pss_one (ps_ret (pe_ix ix_list (pv 2) (pe_un un_neg pe_int) (fun _ _ => rfl)))))), ?_⟩)
  rintro L hL pm av kk ⟨pool, own, rfl, hp, lp, lo, hk⟩
  refine as_seq ?_
  refine as_asg ?_
  refine ae_lcL ?_
  repeat walk_at "q"
  refine ⟨by rw [List.length_map]; omega, fun i acc G => G = [.fr .deal, .mt (av 1) (.lst (pool.map tD)), .mt (av 2) (.lst (own.map tD)), .no, .no] ∧ ∃ sm : List Str, acc = sm.map tD ∧ ∀ x ∈ sm, okW x ∧ x ∉ own, ⟨rfl, [], rfl, by simp⟩, fun n acc G' h => ⟨by rw [h.1]; rfl, by rw [h.1]; rfl⟩, ?_, ?_⟩
  · rintro i x acc G' hx ⟨rfl, sm, rfl, hs⟩
    obtain ⟨t, ht, rfl⟩ := map_get hx
    have tp := List.mem_of_getElem? ht
    refine aw_name (by decide) ?_
    repeat walk_at "q"
    refine ar_in (vs := own.map V.str) (by show some (D.lst _) = some (D.lst _); rw [tDs]) rfl (flatStr _) ?_
    rw [inV_str]
    repeat walk_at "q"
    refine itD (fun h => ?_) fun h => ?_
    · repeat walk_at "q"
      exact ⟨rfl, sm ++ [t], by rw [List.map_append]; rfl, fun y hy => by
        rcases List.mem_append.mp hy with z | z
        · exact hs y z
        · rw [List.mem_singleton.mp z]; exact ⟨hp t tp, by simpa using h⟩⟩
    · exact ⟨rfl, sm, rfl, hs⟩
  rintro acc G' hacc ⟨rfl, sm, rfl, hs⟩
  rw [List.length_map, List.length_map] at hacc
  repeat ((fail_if_success (with_reducible refine as_seq ?_)); walk_at "q")
  refine as_mid (fun G => ∃ (w : Str) (pool' : List Str) (g1 g2 : SV), okW w ∧ w ∉ own ∧ (∀ w ∈ pool', okW w) ∧ pool'.length ≤ pool.length + 1 ∧ G = [.fr .deal, .mt (av 1) (.lst (pool'.map tD)), .mt (av 2) (.lst ((own ++ [w]).map tD)), g1, g2]) ?_ ?_
  · repeat ((fail_if_success (with_reducible refine as_seq ?_)); walk_at "q")
    refine ae_pl rfl rfl ?_
    repeat ((fail_if_success (with_reducible refine as_seq ?_)); walk_at "q")
    refine ac_lenL rfl ?_
    repeat ((fail_if_success (with_reducible refine as_seq ?_)); walk_at "q")
    refine itD (fun h1 => ?_) fun h1 => ?_
    · repeat ((fail_if_success (with_reducible refine as_seq ?_)); walk_at "q")
      refine cq0 (.fr (.fr .nil)) nl ⟨2, rfl, by decide, by decide, fun r _ _ => ?_⟩
      repeat ((fail_if_success (with_reducible refine as_seq ?_)); walk_at "q")
      refine itD (fun h2 => ?_) fun h2 => ?_
      · have h1 : 0 < sm.length := by have h1 : (0 : Int) < ((sm.map tD).length : Int) := by simpa using h1
                                      rw [List.length_map] at h1; omega
        repeat walk_at "q"
        refine ae_pl rfl rfl ?_
        repeat walk_at "q"
        refine ae_pl rfl rfl ?_
        repeat walk_at "q"
        refine ac_lenL rfl ?_
        repeat walk_at "q"
        rw [List.length_map]
        refine cq0 (.fr (.fr .nil)) nl ⟨_, rfl, by omega, by omega, fun r r0 r1 => ?_⟩
        obtain ⟨x, hx, mx, _⟩ := atI_lt (l := sm.map tD) r0 (by rw [List.length_map]; exact r1)
        refine ar_ixL rfl hx ?_
        obtain ⟨t, ht, rfl⟩ := List.mem_map.mp mx
        refine ⟨_, _, _, rfl, rfl, rfl, rfl, by rw [List.length_map]; omega, ?_⟩
        refine ⟨t, pool, .own (.lst (sm.map tD)), .no, (hs t ht).1, (hs t ht).2, hp, by omega, ?_⟩
        rw [List.map_append]
        rfl
      · repeat walk_at "q"
        refine cqm [2] [] (.fr (.mtp rfl rfl rfl .nil)) nl ⟨own, rfl, lo, fun w' w1 w2 => ?_⟩
        refine ⟨_, _, _, rfl, rfl, rfl, rfl, by rw [List.length_map]; omega, ?_⟩
        refine ⟨w', pool ++ [w'], .own (.lst (sm.map tD)), .no, w1, w2, fun y hy => ?_, by rw [List.length_append]; simp, ?_⟩
        · rcases List.mem_append.mp hy with z | z
          · exact hp y z
          · rw [List.mem_singleton.mp z]; exact w1
        · rw [List.map_append (l₁ := pool)]
          rfl
    · repeat walk_at "q"
      refine cqm [2] [] (.fr (.mtp rfl rfl rfl .nil)) nl ⟨own, rfl, lo, fun w' w1 w2 => ?_⟩
      refine ⟨_, _, _, rfl, rfl, rfl, rfl, by rw [List.length_map]; omega, ?_⟩
      refine ⟨w', pool ++ [w'], .own (.lst (sm.map tD)), .no, w1, w2, fun y hy => ?_, by rw [List.length_append]; simp, ?_⟩
      · rcases List.mem_append.mp hy with z | z
        · exact hp y z
        · rw [List.mem_singleton.mp z]; exact w1
      · rw [List.map_append (l₁ := pool)]
        rfl
  rintro G ⟨w', pool', g1, g2, w1, w2, w3, w4, rfl⟩
  repeat walk_at "q"
  refine ar_ixL rfl (by rw [List.map_append]; exact atI_last _ _) ?_
  exact ⟨[_, _], rfl, ⟨rfl, rfl, rfl⟩, hk w' pool' w1 w2 w3 w4⟩
end
end Q
-- text C4
set_option Elab.async false
set_option linter.all false
set_option maxRecDepth 100000
set_option maxHeartbeats 4000000
namespace Q
open PySem PySem.Spec PyProof.Rows L2
local macro_rules | `(tactic| walk_at "q") => `(tactic| (first
  | with_reducible refine as_seq ?_ | with_reducible refine as_ret ?_ | with_reducible refine as_if ?_ | with_reducible refine as_deal ?_ | with_reducible refine as_asg ?_ | with_reducible refine as_drop ?_ | with_reducible refine as_dput ?_
  | with_reducible refine at_test ?_ | with_reducible refine at_B ?_ | with_reducible refine at_not ?_ | with_reducible refine at_and ?_ | with_reducible refine at_or ?_
  | with_reducible refine ae_op ?_ | with_reducible refine ae_c ?_ | with_reducible refine ae_andV ?_ | with_reducible refine ae_notV ?_ | with_reducible refine ae_join ?_ | with_reducible refine ae_index ?_ | with_reducible refine ae_from1 ?_ | refine ae_un (i := 0) ?_ | refine ae_var rfl ?_ | refine ae_rd rfl ?_ | refine ae_mt rfl ?_ | with_reducible refine ae_call ?_ | with_reducible refine ae_tup ?_ | with_reducible refine ae_fld ?_ | with_reducible refine ae_cb ?_
  | with_reducible refine aa_nil ?_ | with_reducible refine aa_cons ?_
  | with_reducible refine ae_dget ?_ | with_reducible refine ae_dget2 ?_ | with_reducible refine ae_dget1 ?_ | with_reducible refine ae_din ?_ | with_reducible refine ae_dnotin ?_ | with_reducible refine ae_newK ?_ | with_reducible refine ae_newT ?_ | with_reducible refine ae_lst ?_
  | with_reducible refine ae_meth ?_ | with_reducible refine ct_yes ?_ | with_reducible refine ct_if ?_
  | refine ar_ixT rfl rfl ?_ | refine ar_ixL rfl rfl ?_ | refine ar_II ?_ | refine ar_eq rfl ?_
  | refine itT (by decide +kernel) ?_ | refine itF (by decide +kernel) ?_ | refine itF Bool.false_ne_true ?_ | refine itT rfl ?_
  | refine ⟨.inr ⟨_, _, rfl⟩, ?_⟩ | refine ⟨.inl ⟨_, _, rfl⟩, ?_⟩ | refine ⟨_, _, .T rfl, rfl, ?_⟩ | refine ⟨_, rfl, ?_⟩ | refine ⟨[_, _], rfl, Nat.le_of_ble_eq_true rfl, ?_⟩ | refine ⟨[_, _, _], rfl, Nat.le_of_ble_eq_true rfl, ?_⟩ | refine ⟨[], rfl, Nat.le_of_ble_eq_true rfl, ?_⟩ | refine ⟨[_], rfl, Nat.le_of_ble_eq_true rfl, ?_⟩
  | with_reducible refine as_forL ?_ | with_reducible refine as_forT ?_ | with_reducible refine as_forR ?_ | refine ae_app (ae_pl rfl rfl ⟨_, rfl, ⟨_, rfl⟩, ?_⟩) | refine ae_ins (ae_pl rfl rfl ⟨_, rfl, ⟨_, rfl⟩, ?_⟩) | refine ag_rd rfl ?_ | refine ag_name ?_ | refine ag_own ?_ | refine ag_tup rfl (ags_cons (ags_cons (ags_nil ?_))) | with_reducible refine as_next ?_))
def ltr : Str := "abcdefghijklmnopqrstuvwxyz"
def kw9 : List Str := ["num", "pair", "lit", "as", "if", "let", "two", "first", "second"]
def nm9 : List Str := ["name", "face", "part", "kind", "hid", "told", "bare", "open", "far"]
def okWb (w : Str) : Bool := (match w.cps.toList with | c :: _ => decide (97 ≤ c) && decide (c < 123) | [] => false) && w.cps.all (· < 0x110000) && decide (w.length ≤ 100)
theorem okWb_ok {w : Str} (h : okWb w = true) : okW w := by
  unfold okWb at h
  rw [Bool.and_eq_true, Bool.and_eq_true] at h
  obtain ⟨⟨h1, h2⟩, h3⟩ := h
  refine ⟨?_, h2, of_decide_eq_true h3⟩
  cases e : w.cps.toList with
  | nil => rw [e] at h1; cases h1
  | cons c rest =>
    rw [e] at h1
    have h1 : (decide (97 ≤ c) && decide (c < 123)) = true := h1
    rw [Bool.and_eq_true] at h1
    have a := of_decide_eq_true h1.1
    have b := of_decide_eq_true h1.2
    exact ⟨c - 97, rest, by congr 1; omega, by omega⟩
theorem nm9_ok : ∀ w ∈ nm9, okW w := by
  have h : nm9.all okWb = true := by decide +kernel
  exact fun w hw => okWb_ok (List.all_eq_true.mp h w hw)
def ch (c : Nat) : Str := ⟨#[97 + c]⟩
theorem join_ch (cs : List Nat) : Txt.join "" (cs.map ch) = ⟨(cs.map (97 + ·)).toArray⟩ := by
  have e0 : ("" : Str) = ⟨#[]⟩ := by decide +kernel
  rw [show Txt.join "" (cs.map ch) = Str.join "" (cs.map ch) from TL.join_eq _ _]
  induction cs with
  | nil => show Str.empty = _; decide +kernel
  | cons c cs ih =>
    cases cs with
    | nil => rfl
    | cons d r =>
      show ch c ++ "" ++ Str.join "" ((d :: r).map ch) = _
      rw [ih, e0]
      have e1 : ch c ++ (⟨#[]⟩ : Str) = ch c := rfl
      rw [e1]
      show (⟨#[97 + c] ++ _⟩ : Str) = ⟨_⟩
      simp
theorem ltr_at : ∀ c : Fin 26, ltr.cps.toList[c.val]? = some (97 + c.val) := by decide +kernel
theorem ltr_len : ltr.length = 26 := by decide +kernel
theorem ltr_i {r : Int} (h0 : 0 ≤ r) (h1 : r < 26) : atI ltr.cps.toList r = some (97 + r.toNat) := by
  obtain ⟨n, rfl⟩ := Int.eq_ofNat_of_zero_le h0
  exact atI_nat (ltr_at ⟨n, by omega⟩)
theorem mk_cut (c : Nat) (rest : List Nat) : cutS (mkW c rest) (some 1) none = ⟨rest.toArray⟩ := by
  unfold cutS
  have h1 : (mkW c rest).length = rest.length + 1 := by simp [mkW, Str.length]
  have e1 : HT.sIx (mkW c rest).length 0 (some 1) = 1 := by rw [h1]; show min 1 (rest.length + 1) = 1; omega
  have e2 : HT.sIx (mkW c rest).length (mkW c rest).length none = rest.length + 1 := h1
  rw [e1, e2]
  simp [mkW]
section
variable {P : Program} {w : World} {K : PySem.W.Frag} {mg : Str → Option Value} {base : Heap}
theorem ok_l_name {f : Addr} {fd : FuncData} (T : Txt K mg) (F : Fun K "_law_name" "_law_name" s_l_name f fd) (c_l_draw : Callee P w K mg base 1 "_law_draw" p_l_draw [] false S_draw) :
    FnOk P w K mg base CX0 2 f fd p_l_name (spOf false S_name) := by
  refine fun_ok F sc_l_name (by decide) (fun pm k h => by obtain ⟨_, rfl, _⟩ := h; rfl) (fun cdv A outer s H X hr => ⟨_, (pss_cons (ps_set (i := 2) sc_l_name.nd rfl (Or.inr rfl) pe_str)
    (pss_cons (ps_set (i := 3) sc_l_name.nd rfl (Or.inl rfl) (pe_lst (pa_cons pe_str (pa_cons pe_str (pa_cons pe_str (pa_cons pe_str (pa_cons pe_str (pa_cons pe_str (pa_cons pe_str (pa_cons pe_str (pa_cons pe_str pa_nil)))))))))))
    (pss_cons (ps_set (i := 4) sc_l_name.nd rfl (Or.inl rfl) (pe_join pe_str (pe_lc (own := [("_law_k", 5)]) (g := gName 5) (tt := tYes) (by rfl) sc_l_name.nd (pi_range1 (by rfl) T.z_range (pa_cons (pe_op op_add pe_int (pe_cal c_l_draw (hr.mono (by omega)) (by rfl) (pa_cons (pv 0) (pa_cons pe_int pa_nil)))) pa_nil)) (blkOk_by (N := n_l_name) (sc := defScope s_l_name) (by decide +kernel))
        (fun _ _ _ _ _ => (pg_name (i := 5) sc_l_name.nd rfl (Or.inl rfl))) (fun _ _ _ _ _ => pts_nil)
        (fun _ _ _ _ _ => (pe_ix ix_str (pv 2) (pe_cal c_l_draw (hr.mono (by omega)) (by rfl) (pa_cons (pv 0) (pa_cons pe_int pa_nil))) (fun _ _ => rfl))))))
    (pss_cons (ps_if (pt_cmpR op_eq (pe_cal c_l_draw (hr.mono (by omega)) (by rfl) (pa_cons (pv 0) (pa_cons pe_int pa_nil))) pe_int (nomark _))
    (pss_one (ps_set (i := 4) sc_l_name.nd rfl (Or.inl rfl) (pe_ix ix_list (pe_lst (pa_cons pe_str (pa_cons pe_str (pa_cons pe_str (pa_cons pe_str (pa_cons pe_str (pa_cons pe_str (pa_cons pe_str (pa_cons pe_str (pa_cons pe_str pa_nil)))))))))) (pe_cal c_l_draw (hr.mono (by omega)) (by rfl) (pa_cons (pv 0) (pa_cons pe_int pa_nil))) (fun _ _ => rfl))))
    pss_nil)
    (pss_cons (ps_while PassesOwn.never (PW.pt (pw_or (pt_cmpR op_in_seq (pv 4) (pv 1) (by rfl)) (pw_or1 (pt_cmpR op_in_seq (pv 4) (pv 3) (by rfl)))))
    (pss_one (ps_set (i := 4) sc_l_name.nd rfl (Or.inl rfl) (pe_op op_add_str (pe_ix ix_str (pv 2) (pe_op op_mod (pe_op op_add (pe_bm PySem.F.plainAttrs_str PySem.F.slot_str_index PySem.F.type_str_index mt_sindex (pv 2) (pa_cons (pe_ix ix_str (pv 4) pe_int (fun _ _ => rfl)) pa_nil)) pe_int) pe_int) (fun _ _ => rfl)) (pe_slice sl_str (pv 4) (po_some pe_int) po_none)))))
    (pss_cons (ps_expr (pe_bm PySem.F.plainAttrs_list PySem.F.slot_list_append PySem.F.type_list_append mt_append (pv 1) (pa_cons (pv 4) pa_nil)))
    (pss_one (ps_ret (pv 4))))))))), ?_⟩)
  rintro L hL pm av kk ⟨tk, rfl, lt, hk⟩
  refine as_seq ?_
  repeat ((fail_if_success (with_reducible refine as_seq ?_)); walk_at "q")
  refine as_seq ?_
  repeat ((fail_if_success (with_reducible refine as_seq ?_)); walk_at "q")
  refine ⟨[_, _, _, _, _, _, _, _, _], rfl, Nat.le_of_ble_eq_true rfl, ?_⟩
  repeat ((fail_if_success (with_reducible refine as_seq ?_)); walk_at "q")
  refine as_seq ?_
  repeat ((fail_if_success (with_reducible refine as_seq ?_)); walk_at "q")
  refine ae_lcR ?_
  repeat ((fail_if_success (with_reducible refine as_seq ?_)); walk_at "q")
  refine cq0 (.fr (.fr .nil)) nl ⟨12, rfl, by decide, by decide, fun r r0 r1 => ?_⟩
  repeat ((fail_if_success (with_reducible refine as_seq ?_)); walk_at "q")
  have e1 : (1 : Int) + r = ((1 + r.toNat : Nat) : Int) := by omega
  rw [e1]
  refine ⟨_, rfl, by omega, fun i acc G => ∃ cs : List Nat, (∀ c ∈ cs, c < 26) ∧ cs.length = i ∧ acc = (cs.map ch).map tD ∧ G = [.fr .deal, .mt (av 1) (.lst (tk.map tD)), .fr (tD ltr), .own (.lst (kw9.map tD)), .no, .no], ⟨[], by simp, rfl, rfl, rfl⟩, fun n acc G' h => by obtain ⟨_, _, _, _, rfl⟩ := h; rfl, ?_, ?_⟩
  · rintro i acc G' hi ⟨cs, hc, lc, rfl, rfl⟩
    refine aw_name (by decide) ?_
    repeat ((fail_if_success (with_reducible refine as_seq ?_)); walk_at "q")
    refine cq0 (.fr (.fr .nil)) nl ⟨26, rfl, by decide, by decide, fun q q0 q1 => ?_⟩
    refine ar_ixS (by rw [ltr_len]; decide) (ltr_i q0 q1) ?_
    refine ⟨_, rfl, cs ++ [q.toNat], fun c h => ?_, by rw [List.length_append, lc]; rfl, ?_, rfl⟩
    · rcases List.mem_append.mp h with z | z
      · exact hc c z
      · rw [List.mem_singleton.mp z]; omega
    · rw [List.map_append, List.map_append]; rfl
  rintro acc G' ha ⟨cs, hc, lc, rfl, rfl⟩
  rw [List.length_map, List.length_map] at ha
  have c13 : cs.length ≤ 12 := by omega
  have hsum : ∀ l : List Nat, ((l.map ch).map (·.length)).sum = l.length := fun l => by
    induction l with
    | nil => rfl
    | cons x l ih => rw [List.map_cons, List.map_cons, List.sum_cons, ih, List.length_cons]; show 1 + l.length = _; omega
  have e0 : ("" : Str).length = 0 := by decide +kernel
  refine ⟨cs.map ch, by show some (D.lst _) = some (D.lst _); rw [tDs], by rw [hsum, e0]; omega, ?_⟩
  rw [join_ch]
  have w0 : ∃ c rest, c < 26 ∧ rest.all (· < 0x110000) = true ∧ rest.length < 100 ∧ (⟨(cs.map (97 + ·)).toArray⟩ : Str) = mkW c rest := by
    cases cs with
    | nil => exact absurd lc (by simp; omega)
    | cons c cs =>
      refine ⟨c, cs.map (97 + ·), hc c (List.mem_cons_self ..), ?_, by rw [List.length_map]; rw [List.length_cons] at c13; omega, rfl⟩
      rw [List.all_map, List.all_eq_true]
      intro x hx
      have := hc x (List.mem_cons_of_mem _ hx)
      show decide (97 + x < 0x110000) = true
      exact decide_eq_true (by omega)
  obtain ⟨c, rest, hc26, hr1, hr2, ew⟩ := w0
  rw [ew]
  repeat ((fail_if_success (with_reducible refine as_seq ?_)); walk_at "q")
  refine as_mid (fun G => ∃ c rest, c < 26 ∧ rest.all (· < 0x110000) = true ∧ rest.length < 100 ∧ G = [.fr .deal, .mt (av 1) (.lst (tk.map tD)), .fr (tD ltr), .own (.lst (kw9.map tD)), .fr (tD (mkW c rest)), .no]) ?_ ?_
  · repeat ((fail_if_success (with_reducible refine as_seq ?_)); walk_at "q")
    refine cq0 (.fr (.fr .nil)) nl ⟨4, rfl, by decide, by decide, fun r _ _ => ?_⟩
    repeat ((fail_if_success (with_reducible refine as_seq ?_)); walk_at "q")
    refine itD (fun h => ?_) fun h => ?_
    · repeat ((fail_if_success (with_reducible refine as_seq ?_)); walk_at "q")
      refine ⟨[_, _, _, _, _, _, _, _, _], rfl, Nat.le_of_ble_eq_true rfl, ?_⟩
      repeat ((fail_if_success (with_reducible refine as_seq ?_)); walk_at "q")
      refine cq0 (.fr (.fr .nil)) nl ⟨9, rfl, by decide, by decide, fun r r0 r1 => ?_⟩
      obtain ⟨x, hx, mx, _⟩ := atI_lt (l := nm9.map tD) r0 r1
      refine ar_ixL rfl hx ?_
      obtain ⟨t, ht, rfl⟩ := List.mem_map.mp mx
      obtain ⟨c', rest', rfl, a1, a2, a3⟩ := okW_mk (nm9_ok t ht)
      repeat walk_at "q"
      exact ⟨c', rest', a1, a2, a3, rfl⟩
    · repeat walk_at "q"
      exact ⟨c, rest, hc26, hr1, hr2, rfl⟩
  rintro G ⟨c, rest, hc26, hr1, hr2, rfl⟩
  have hk9 : kw9.length = 9 := rfl
  obtain ⟨j0, hj0, hfree⟩ := free_letter (tk ++ kw9) (by rw [List.length_append]; omega) rest hc26
  refine as_mid (fun G => ∃ c, c < 26 ∧ mkW c rest ∉ tk ∧ G = [.fr .deal, .mt (av 1) (.lst (tk.map tD)), .fr (tD ltr), .own (.lst (kw9.map tD)), .fr (tD (mkW c rest)), .no]) ?_ ?_
  · refine as_while (fun m G => ∃ c, c < 26 ∧ mkW ((c + m) % 26) rest ∉ tk ++ kw9 ∧ G = [.fr .deal, .mt (av 1) (.lst (tk.map tD)), .fr (tD ltr), .own (.lst (kw9.map tD)), .fr (tD (mkW c rest)), .no]) ⟨j0, _, Wk.refl _, c, hc26, hfree, rfl⟩ ?_
    rintro m G ⟨c, hc26, hf, rfl⟩
    have wlen : (mkW c rest).length = rest.length + 1 := by simp [mkW, Str.length]
    repeat ((fail_if_success (with_reducible refine as_seq ?_)); walk_at "q")
    refine ar_in (vs := tk.map V.str) (by show some (D.lst _) = some (D.lst _); rw [tDs]) rfl (flatStr _) ?_
    rw [inV_str]
    repeat ((fail_if_success (with_reducible refine as_seq ?_)); walk_at "q")
    refine itD (fun h => ?_) fun h => ?_
    · refine itT rfl ?_
      have hin : mkW c rest ∈ tk ++ kw9 := List.mem_append.mpr (.inl (by simpa using h))
      have hm : m ≠ 0 := fun e => by
        subst e
        rw [Nat.add_zero, Nat.mod_eq_of_lt hc26] at hf
        exact hf hin
      repeat ((fail_if_success (with_reducible refine as_seq ?_)); walk_at "q")
      refine ar_ixS (c := 97 + c) (by rw [wlen]; omega) (atI_nat (n := 0) (by simp [mkW])) ?_
      repeat ((fail_if_success (with_reducible refine as_seq ?_)); walk_at "q")
      refine ⟨_, c, [], rfl, by rw [ltr_len]; exact occ26 ⟨c, hc26⟩, ?_⟩
      repeat ((fail_if_success (with_reducible refine as_seq ?_)); walk_at "q")
      refine ar_IIC (by decide) ?_
      have ed : ((c : Int) + 1) % 26 = (((c + 1) % 26 : Nat) : Int) := by omega
      rw [ed]
      refine ar_ixS (by rw [ltr_len]; decide) (ltr_i (by omega) (by omega)) ?_
      repeat ((fail_if_success (with_reducible refine as_seq ?_)); walk_at "q")
      refine ⟨by rw [wlen]; omega, ?_⟩
      rw [mk_cut]
      refine ar_addS (by show 1 + rest.toArray.size ≤ 100000; simp; omega) ?_
      repeat ((fail_if_success (with_reducible refine as_seq ?_)); walk_at "q")
      refine ⟨_, Wk.refl _, m - 1, by omega, (c + 1) % 26, Nat.mod_lt _ (by decide), ?_, ?_⟩
      · have e : ((c + 1) % 26 + (m - 1)) % 26 = (c + m) % 26 := by omega
        rw [e]
        exact hf
      · have e : (⟨#[97 + (((c + 1) % 26 : Nat) : Int).toNat]⟩ : Str) ++ (⟨rest.toArray⟩ : Str) = mkW ((c + 1) % 26) rest := by
          rw [Int.toNat_natCast]
          show (⟨_⟩ : Str) = ⟨_⟩
          simp
        rw [e]
        rfl
    · repeat ((fail_if_success (with_reducible refine as_seq ?_)); walk_at "q")
      refine ae_pl rfl rfl ?_
      repeat ((fail_if_success (with_reducible refine as_seq ?_)); walk_at "q")
      refine ar_in (vs := kw9.map V.str) (by show some (D.lst _) = some (D.lst _); rw [tDs]) rfl (flatStr _) ?_
      rw [inV_str]
      repeat ((fail_if_success (with_reducible refine as_seq ?_)); walk_at "q")
      refine itD (fun h2 => ?_) fun h2 => ?_
      · have hin : mkW c rest ∈ tk ++ kw9 := List.mem_append.mpr (.inr (by simpa using h2))
        have hm : m ≠ 0 := fun e => by
          subst e
          rw [Nat.add_zero, Nat.mod_eq_of_lt hc26] at hf
          exact hf hin
        repeat ((fail_if_success (with_reducible refine as_seq ?_)); walk_at "q")
        refine ar_ixS (c := 97 + c) (by rw [wlen]; omega) (atI_nat (n := 0) (by simp [mkW])) ?_
        repeat ((fail_if_success (with_reducible refine as_seq ?_)); walk_at "q")
        refine ⟨_, c, [], rfl, by rw [ltr_len]; exact occ26 ⟨c, hc26⟩, ?_⟩
        repeat ((fail_if_success (with_reducible refine as_seq ?_)); walk_at "q")
        refine ar_IIC (by decide) ?_
        have ed : ((c : Int) + 1) % 26 = (((c + 1) % 26 : Nat) : Int) := by omega
        rw [ed]
        refine ar_ixS (by rw [ltr_len]; decide) (ltr_i (by omega) (by omega)) ?_
        repeat ((fail_if_success (with_reducible refine as_seq ?_)); walk_at "q")
        refine ⟨by rw [wlen]; omega, ?_⟩
        rw [mk_cut]
        refine ar_addS (by show 1 + rest.toArray.size ≤ 100000; simp; omega) ?_
        repeat ((fail_if_success (with_reducible refine as_seq ?_)); walk_at "q")
        refine ⟨_, Wk.refl _, m - 1, by omega, (c + 1) % 26, Nat.mod_lt _ (by decide), ?_, ?_⟩
        · have e : ((c + 1) % 26 + (m - 1)) % 26 = (c + m) % 26 := by omega
          rw [e]
          exact hf
        · have e : (⟨#[97 + (((c + 1) % 26 : Nat) : Int).toNat]⟩ : Str) ++ (⟨rest.toArray⟩ : Str) = mkW ((c + 1) % 26) rest := by
            rw [Int.toNat_natCast]
            show (⟨_⟩ : Str) = ⟨_⟩
            simp
          rw [e]
          rfl
      · exact ⟨c, hc26, by simpa using h, rfl⟩
  rintro G ⟨c, hc26, hf, rfl⟩
  repeat walk_at "q"
  refine ⟨_, _, _, rfl, rfl, rfl, rfl, by rw [List.length_map]; omega, ?_⟩
  repeat walk_at "q"
  refine ⟨[_], rfl, ⟨rfl, rfl⟩, ?_⟩
  have := hk (mkW c rest) (mkW_ok hc26 hr1 hr2) hf
  rw [List.map_append] at this
  exact this
end
end Q
-- text M4
set_option Elab.async false
set_option linter.all false
/-! The mathematics, part 4: the law's faces. -/
namespace Q
open PySem
def Kd.G (k : Kd) : Prop := k.ok = true ∧ k.dep < 60
structure Fc.V (f : Fc) : Prop where
  nk : (f.kinds.map (·.1)).Nodup
  nf : (f.funs.map (·.1)).Nodup
  lk : f.kinds.length ≤ 50
  lf : f.funs.length ≤ 50
  k : ∀ p ∈ f.kinds, okS p.1 = true ∧ p.2.G
  f : ∀ p ∈ f.funs, p.2.1.length ≤ 50 ∧ (∀ a ∈ p.2.1, a.G) ∧ p.2.2.G
/-- no kind of more than 40 words -/
structure Fc.sm (f : Fc) : Prop where
  k : ∀ p ∈ f.kinds, p.2.words ≤ 40
  f : ∀ p ∈ f.funs, (∀ a ∈ p.2.1, a.words ≤ 40) ∧ p.2.2.words ≤ 40
theorem Fc.V.B {f : Fc} (h : f.V) (s : f.sm) : f.B :=
  ⟨h.nk, h.nf, by have := h.lk; omega, by have := h.lf; omega, fun p hp => ⟨(h.k p hp).1, s.k p hp, (h.k p hp).2.1⟩, fun p hp => ⟨by have := (h.f p hp).1; omega, fun a ha => ⟨(s.f p hp).1 a ha, ((h.f p hp).2.1 a ha).1⟩, (s.f p hp).2, (h.f p hp).2.2.1⟩⟩
/-- the words of a face's kinds -/
def szF (l : List (Str × Sg)) : List Nat := l.flatMap fun p => p.2.1.map Kd.words ++ [p.2.2.words]
def szs (f : Fc) : List Nat := [1] ++ f.kinds.map (fun p => p.2.words) ++ szF f.funs
theorem szF_more {l : List (Str × Sg)} {i : Nat} {t : Str} {s : Sg} (h : l[i]? = some (t, s)) : szF (l.take (i + 1)) = szF (l.take i) ++ (s.1.map Kd.words ++ [s.2.words]) := by
  rw [take_more h]; unfold szF; rw [List.flatMap_append]; simp
theorem szF_len : ∀ (l : List (Str × Sg)), (∀ p ∈ l, p.2.1.length ≤ 50) → (szF l).length ≤ 51 * l.length
  | [], _ => Nat.zero_le _
  | p :: l, h => by
    have ih := szF_len l fun q hq => h q (List.mem_cons_of_mem _ hq)
    have h1 := h p (List.mem_cons_self ..)
    unfold szF at ih ⊢
    rw [List.flatMap_cons, List.length_append, List.length_append, List.length_map, List.length_cons]
    simp only [List.length_cons, List.length_nil]
    omega
theorem szs_sm {f : Fc} (h : ∀ n ∈ szs f, n ≤ 40) : f.sm := by
  refine ⟨fun p hp => h _ ?_, fun p hp => ⟨fun a ha => h _ ?_, h _ ?_⟩⟩
  · unfold szs; exact List.mem_append.mpr (.inl (List.mem_append.mpr (.inr (List.mem_map.mpr ⟨p, hp, rfl⟩))))
  · unfold szs szF; exact List.mem_append.mpr (.inr (List.mem_flatMap.mpr ⟨p, hp, List.mem_append.mpr (.inl (List.mem_map.mpr ⟨a, ha, rfl⟩))⟩))
  · unfold szs szF; exact List.mem_append.mpr (.inr (List.mem_flatMap.mpr ⟨p, hp, List.mem_append.mpr (.inr (List.mem_singleton.mpr rfl))⟩))
def knowG (q : Str) (l : List (Str × Kd)) : Gv := l.map fun p => ((q, p.1), p.2)
theorem knowG_more {q : Str} {l : List (Str × Kd)} {i : Nat} {t : Str} {k : Kd} (h : l[i]? = some (t, k)) : knowG q (l.take (i + 1)) = knowG q (l.take i) ++ [((q, t), k)] := by
  rw [take_more h]; unfold knowG; rw [List.map_append]; rfl
def farK (g : Gv) : List Kd := g.map fun p => .nm p.1.1 p.1.2
theorem nd_snoc {κ α : Type} {l : List (κ × α)} {t : κ} {x : α} (h : (l.map (·.1)).Nodup) (n : t ∉ l.map (·.1)) : ((l ++ [(t, x)]).map (·.1)).Nodup := by
  rw [List.map_append]
  refine List.nodup_append.mpr ⟨h, by simp, fun a ha b hb e => ?_⟩
  have hb : b = t := List.mem_singleton.mp hb
  rw [e, hb] at ha
  exact n ha
end Q
-- text C5
set_option Elab.async false
set_option linter.all false
set_option maxRecDepth 100000
set_option maxHeartbeats 4000000
namespace Q
open PySem PySem.Spec PyProof.Rows L2
local macro_rules | `(tactic| walk_at "q") => `(tactic| (first
  | with_reducible refine as_seq ?_ | with_reducible refine as_ret ?_ | with_reducible refine as_if ?_ | with_reducible refine as_deal ?_ | with_reducible refine as_asg ?_ | with_reducible refine as_drop ?_ | with_reducible refine as_dput ?_
  | with_reducible refine at_test ?_ | with_reducible refine at_B ?_ | with_reducible refine at_not ?_ | with_reducible refine at_and ?_ | with_reducible refine at_or ?_
  | with_reducible refine ae_op ?_ | with_reducible refine ae_c ?_ | with_reducible refine ae_andV ?_ | with_reducible refine ae_notV ?_ | with_reducible refine ae_join ?_ | with_reducible refine ae_index ?_ | with_reducible refine ae_from1 ?_ | refine ae_un (i := 0) ?_ | refine ae_var rfl ?_ | refine ae_rd rfl ?_ | refine ae_mt rfl ?_ | with_reducible refine ae_call ?_ | with_reducible refine ae_tup ?_ | with_reducible refine ae_fld ?_ | with_reducible refine ae_cb ?_
  | with_reducible refine aa_nil ?_ | with_reducible refine aa_cons ?_
  | with_reducible refine ae_dget ?_ | with_reducible refine ae_dget2 ?_ | with_reducible refine ae_dget1 ?_ | with_reducible refine ae_din ?_ | with_reducible refine ae_dnotin ?_ | with_reducible refine ae_newK ?_ | with_reducible refine ae_newT ?_ | with_reducible refine ae_lst ?_
  | with_reducible refine ae_meth ?_ | with_reducible refine ct_yes ?_ | with_reducible refine ct_if ?_
  | refine ar_ixT rfl rfl ?_ | refine ar_ixL rfl rfl ?_ | refine ar_II ?_ | refine ar_eq rfl ?_
  | refine itT (by decide +kernel) ?_ | refine itF (by decide +kernel) ?_ | refine itF Bool.false_ne_true ?_ | refine itT rfl ?_
  | refine ⟨.inr ⟨_, _, rfl⟩, ?_⟩ | refine ⟨.inl ⟨_, _, rfl⟩, ?_⟩ | refine ⟨_, _, .T rfl, rfl, ?_⟩ | refine ⟨_, rfl, ?_⟩ | refine ⟨[_, _], rfl, Nat.le_of_ble_eq_true rfl, ?_⟩ | refine ⟨[_, _, _], rfl, Nat.le_of_ble_eq_true rfl, ?_⟩ | refine ⟨[], rfl, Nat.le_of_ble_eq_true rfl, ?_⟩ | refine ⟨[_], rfl, Nat.le_of_ble_eq_true rfl, ?_⟩
  | with_reducible refine as_forL ?_ | with_reducible refine as_forT ?_ | with_reducible refine as_forR ?_ | refine ae_app (ae_pl rfl rfl ⟨_, rfl, ⟨_, rfl⟩, ?_⟩) | refine ae_ins (ae_pl rfl rfl ⟨_, rfl, ⟨_, rfl⟩, ?_⟩) | refine ag_rd rfl ?_ | refine ag_name ?_ | refine ag_own ?_ | refine ag_tup rfl (ags_cons (ags_cons (ags_nil ?_))) | with_reducible refine as_next ?_))
abbrev s_l_hidden : Stmt := topS 42
abbrev n_l_hidden : List Str := ["_law_kinds", "_law_word_here", "_law_kind_here"]
abbrev p_l_hidden : List Str := ["_law_kinds"]
theorem sc_l_hidden : FnScope n_l_hidden p_l_hidden (defScope s_l_hidden) := ⟨rfl, rfl, rfl, by decide +kernel, rfl, by decide +kernel, by decide +kernel⟩
abbrev s_l_put_all : Stmt := topS 43
abbrev n_l_put_all : List Str := ["_law_face_here", "_law_given_here", "_law_kinds", "_law_funs", "_law_fun", "_law_row", "_law_word_here", "_law_kind_here"]
abbrev p_l_put_all : List Str := ["_law_face_here", "_law_given_here"]
theorem sc_l_put_all : FnScope n_l_put_all p_l_put_all (defScope s_l_put_all) := ⟨rfl, rfl, rfl, by decide +kernel, rfl, by decide +kernel, by decide +kernel⟩
abbrev s_l_greatest : Stmt := topS 44
abbrev n_l_greatest : List Str := ["_law_face_here", "_law_sizes", "_law_fun", "_law_row", "_law_word_here", "_law_kind_here"]
abbrev p_l_greatest : List Str := ["_law_face_here"]
theorem sc_l_greatest : FnScope n_l_greatest p_l_greatest (defScope s_l_greatest) := ⟨rfl, rfl, rfl, by decide +kernel, rfl, by decide +kernel, by decide +kernel⟩
abbrev s_l_hiding : Stmt := topS 45
abbrev n_l_hiding : List Str := ["_law_face_here", "_law_part", "_law_given_here", "_law_word_here"]
abbrev p_l_hiding : List Str := ["_law_face_here", "_law_part"]
theorem sc_l_hiding : FnScope n_l_hiding p_l_hiding (defScope s_l_hiding) := ⟨rfl, rfl, rfl, by decide +kernel, rfl, by decide +kernel, by decide +kernel⟩
abbrev s_l_know : Stmt := topS 46
abbrev n_l_know : List Str := ["_law_names", "_law_part", "_law_face_here", "_law_word_here", "_law_kind_here"]
abbrev p_l_know : List Str := ["_law_names", "_law_part", "_law_face_here"]
theorem sc_l_know : FnScope n_l_know p_l_know (defScope s_l_know) := ⟨rfl, rfl, rfl, by decide +kernel, rfl, by decide +kernel, by decide +kernel⟩
abbrev s_l_far : Stmt := topS 47
abbrev n_l_far : List Str := ["_law_names", "_law_name_here"]
abbrev p_l_far : List Str := ["_law_names"]
theorem sc_l_far : FnScope n_l_far p_l_far (defScope s_l_far) := ⟨rfl, rfl, rfl, by decide +kernel, rfl, by decide +kernel, by decide +kernel⟩
abbrev s_l_face_made : Stmt := topS 57
abbrev n_l_face_made : List Str := ["_law_face_here"]
abbrev p_l_face_made : List Str := ["_law_face_here"]
theorem sc_l_face_made : FnScope n_l_face_made p_l_face_made (defScope s_l_face_made) := ⟨rfl, rfl, rfl, by decide +kernel, rfl, by decide +kernel, by decide +kernel⟩
theorem pyK_shG {k : Kd} (h : k.G) : SeqAt.shaped (pyK k) = true := by
  have h1 := pyK_lay k h.1
  have h2 := pyK_dep k
  have h4 := h.2
  unfold SeqAt.shaped
  rw [Bool.and_eq_true]
  exact ⟨h1, decide_eq_true (by omega)⟩
theorem nmG {q t : Str} (h1 : okS q = true) (h2 : okS t = true) : (Kd.nm q t).G := ⟨by show (okS q && okS t) = true; rw [h1, h2]; rfl, by show 0 < 60; omega⟩
def fsD (l : List (Str × Sg)) : List D := l.map fun p => prd p.1 (Sg.d p.2)
theorem Fc.l_def (f : Fc) : f.l = .tup [.lst (wsD f.kinds), .lst (fsD f.funs)] := rfl
def S_lhid : Spec := fun pm kk => ∃ l : List (Str × Kd), pm = [.fr (.lst (wsD l))] ∧ l.length ≤ 50 ∧ (∀ p ∈ l, okS p.1 = true ∧ p.2.G) ∧ kk (.o (.lst ((hidK l).map tD))) []
def S_pall : Spec := fun pm kk => ∃ (f : Fc) (g : Gv), pm = [.fr f.l, .rd (gD g)] ∧ f.V ∧ kk (.v (f.put g).l) []
def S_great : Spec := fun pm kk => ∃ (f : Fc), pm = [.fr f.l] ∧ f.V ∧ ∀ m : Int, (m ≤ 40 → f.sm) → kk (.v (.raw (.int m))) []
def S_lhiding : Spec := fun pm kk => ∃ (f : Fc) (q : Str), pm = [.fr f.l, .fr (tD q)] ∧ f.V ∧ kk (.v (hidF q f).l) []
def S_know : Spec := fun pm kk => ∃ (N : Gv) (q : Str) (l : List (Str × Kd)) (d : D), pm = [.mt (gD N), .fr (tD q), .fr (.tup [.lst (wsD l), d])] ∧ (∀ p ∈ N, p.1.1 ≠ q) ∧ (l.map (·.1)).Nodup ∧ N.length ≤ 1000 ∧ l.length ≤ 1000 ∧ kk (.v (.raw .non)) [gD (N ++ knowG q l)]
def S_far : Spec := fun pm kk => ∃ N : Gv, pm = [.rd (gD N)] ∧ N.length ≤ 1000 ∧ kk (.o (.lst ((farK N).map Kd.d))) []
def S_fmade (C : Addr) : Spec := fun pm kk => ∃ f : Fc, pm = [.fr f.l] ∧ (f.kinds.map (·.1)).Nodup ∧ (f.funs.map (·.1)).Nodup ∧ kk (.v (f.o C)) []
section
variable {P : Program} {w : World} {K : PySem.W.Frag} {mg : Str → Option Value} {base : Heap}
theorem ok_l_hidden {f : Addr} {fd : FuncData} (F : Fun K "_law_hidden" "_law_hidden" s_l_hidden f fd) : FnOk P w K mg base CX0 1 f fd p_l_hidden (spOf false S_lhid) := by
  refine fun_ok F sc_l_hidden (by decide) (fun pm k h => by obtain ⟨_, rfl, _⟩ := h; rfl) (fun cdv A outer s H X hr => ⟨_, (pss_one (ps_ret (pe_lc (own := [("_law_word_here", 1), ("_law_kind_here", 2)]) (g := gTup K 2 (gCons (gName 1) (gCons (gName 2) gNil))) (by rfl) sc_l_hidden.nd (pi_list (pv 0)) (blkOk_by (N := n_l_hidden) (sc := defScope s_l_hidden) (by decide +kernel))
        (fun _ _ _ _ _ => (pg_tup (by rfl) (pgs_cons (pg_name (i := 1) sc_l_hidden.nd rfl (Or.inl rfl)) (pgs_cons (pg_name (i := 2) sc_l_hidden.nd rfl (Or.inl rfl)) pgs_nil)))) (fun _ _ _ _ _ => pts_one (pt_cmpR (op_eqDk (K := K) rfl hr.units) (pv 2) (pe_tup (pa_cons pe_str (pa_cons pe_str (pa_cons (pv 1) pa_nil)))) (nomark _)))
        (fun _ _ _ _ _ => (pv 1))))), ?_⟩)
  rintro L hL pm av kk ⟨l, rfl, ll, hl, hk⟩
  repeat ((fail_if_success (with_reducible refine as_seq ?_)); walk_at "q")
  refine ae_lcL ?_
  repeat ((fail_if_success (with_reducible refine as_seq ?_)); walk_at "q")
  refine ⟨by unfold wsD; rw [List.length_map]; omega, fun i acc G => acc = (hidK (l.take i)).map tD ∧ G = [.fr (.lst (wsD l)), .no, .no], ⟨rfl, rfl⟩, fun n acc G' h => ⟨by rw [h.2]; rfl, by rw [h.2]; rfl⟩, ?_, ?_⟩
  · rintro n x acc G' hx ⟨rfl, rfl⟩
    obtain ⟨⟨t, k⟩, hk1, rfl⟩ := map_get hx
    have b1 := hl _ (List.mem_of_getElem? hk1)
    refine aw_tup rfl (aws_cons (by decide) (aws_cons (by decide) (aws_nil ?_)))
    repeat walk_at "q"
    refine ar_eqD (pyD_K k) (pyD_K (.nm "" t)) (pyK_shG b1.2) (pyK_shG (nmG okS_nil b1.1)) ?_
    rw [pyK_eqv]
    repeat walk_at "q"
    by_cases e : k = .nm "" t
    · refine itT (decide_eq_true e) ?_
      repeat walk_at "q"
      refine ⟨?_, rfl⟩
      rw [hidK_more hk1, if_pos e, List.map_append]
      rfl
    · refine itF (by simp [e]) ?_
      refine ⟨?_, rfl⟩
      rw [hidK_more hk1, if_neg e]
  · rintro acc G' _ ⟨rfl, rfl⟩
    have e2 : l.take (wsD l).length = l := by unfold wsD; rw [List.length_map, List.take_length]
    rw [e2]
    exact ⟨[], rfl, rfl, hk⟩
theorem ok_l_put_all {f : Addr} {fd : FuncData} (T : Txt K mg) (F : Fun K "_law_put_all" "_law_put_all" s_l_put_all f fd) (c_l_put : Callee P w K mg base 100 "_law_put" p_l_put [] false (S_put 100)) :
    FnOk P w K mg base CX0 101 f fd p_l_put_all (spOf false S_pall) := by
  refine fun_ok F sc_l_put_all (by decide) (fun pm k h => by obtain ⟨_, _, rfl, _⟩ := h; rfl) (fun cdv A outer s H X hr => ⟨_, (pss_cons (ps_setLc (i := 2) (own := [("_law_word_here", 6), ("_law_kind_here", 7)]) (g := gTup K 2 (gCons (gName 6) (gCons (gName 7) gNil))) (tt := tYes) (by rfl) sc_l_put_all.nd rfl rfl (sw_true rfl rfl rfl (by decide +kernel)) (pi_list (pe_ix ix_tup (pv 0) pe_int (fun _ _ => rfl))) (blkOk_by (N := n_l_put_all) (sc := defScope s_l_put_all) (by decide +kernel))
        (fun _ _ _ _ _ => (pg_tup (by rfl) (pgs_cons (pg_name (i := 6) sc_l_put_all.nd rfl (Or.inl rfl)) (pgs_cons (pg_name (i := 7) sc_l_put_all.nd rfl (Or.inl rfl)) pgs_nil)))) (fun _ _ _ _ _ => pts_nil)
        (fun _ _ _ _ _ => (pe_tup (pa_cons (pv 6) (pa_cons (pe_cal c_l_put (hr.mono (by omega)) (by rfl) (pa_cons (pv 7) (pa_cons (pv 1) pa_nil))) pa_nil)))))
    (pss_cons (ps_set (i := 3) sc_l_put_all.nd rfl (Or.inl rfl) (pe_lst pa_nil))
    (pss_cons (ps_for PassesOwn.never rfl (pi_list (pe_ix ix_tup (pv 0) pe_int (fun _ _ => rfl))) (pg_tup (by rfl) (pgs_cons (pg_name (i := 4) sc_l_put_all.nd rfl (Or.inl rfl)) (pgs_cons (pg_name (i := 5) sc_l_put_all.nd rfl (Or.inl rfl)) pgs_nil)))
    (pss_one (ps_expr (pe_bm PySem.F.plainAttrs_list PySem.F.slot_list_append PySem.F.type_list_append mt_append (pv 3) (pa_cons (pe_tup (pa_cons (pv 4) (pa_cons (pe_tup (pa_cons (pe_callTy call_tuple_of (by rfl) T.z_tuple (by decide +kernel) (pa_cons (pe_lc (own := [("_law_kind_here", 7)]) (g := gName 7) (tt := tYes) (by rfl) sc_l_put_all.nd (pi_tup (pe_ix ix_tup (pv 5) pe_int (fun _ _ => rfl))) (blkOk_by (N := n_l_put_all) (sc := defScope s_l_put_all) (by decide +kernel))
        (fun _ _ _ _ _ => (pg_name (i := 7) sc_l_put_all.nd rfl (Or.inl rfl))) (fun _ _ _ _ _ => pts_nil)
        (fun _ _ _ _ _ => (pe_cal c_l_put (hr.mono (by omega)) (by rfl) (pa_cons (pv 7) (pa_cons (pv 1) pa_nil))))) pa_nil)) (pa_cons (pe_cal c_l_put (hr.mono (by omega)) (by rfl) (pa_cons (pe_ix ix_tup (pv 5) pe_int (fun _ _ => rfl)) (pa_cons (pv 1) pa_nil))) pa_nil))) pa_nil))) pa_nil)))))
    (pss_one (ps_ret (pe_tup (pa_cons (pv 2) (pa_cons (pv 3) pa_nil)))))))), ?_⟩)
  rintro L hL pm av kk ⟨f, g, rfl, hv, hk⟩
  refine as_seq ?_
  repeat ((fail_if_success (with_reducible refine as_seq ?_)); walk_at "q")
  refine ae_lcL ?_
  repeat ((fail_if_success (with_reducible refine as_seq ?_)); walk_at "q")
  refine ⟨by rw [List.length_map]; have := hv.lk; omega, fun i acc G => acc = wsD (putK g (f.kinds.take i)) ∧ G = [.fr f.l, .rd (gD g), .no, .no, .no, .no, .no, .no], ⟨rfl, rfl⟩, fun n acc G' h => ⟨by rw [h.2]; rfl, rfl⟩, ?_, ?_⟩
  · rintro n x acc G' hx ⟨rfl, rfl⟩
    obtain ⟨⟨t, k⟩, hk1, rfl⟩ := map_get hx
    have b1 := hv.k _ (List.mem_of_getElem? hk1)
    refine aw_tup rfl (aws_cons (by decide) (aws_cons (by decide) (aws_nil ?_)))
    repeat walk_at "q"
    refine cq0 (.fr (.rdp rfl rfl .nil)) nl ⟨k, g, rfl, Nat.lt_of_lt_of_le b1.2.2 (by decide : 60 ≤ 100), ?_⟩
    repeat walk_at "q"
    refine ⟨?_, rfl⟩
    rw [putK_more hk1]
    unfold wsD
    rw [List.map_append]
    rfl
  rintro acc G' _ ⟨rfl, rfl⟩
  have e1 : f.kinds.take (f.kinds.map fun p => prd p.1 p.2.d).length = f.kinds := by rw [List.length_map, List.take_length]
  rw [e1]
  repeat walk_at "q"
  refine ⟨fun i G => G = [.fr f.l, .rd (gD g), .own (.lst (wsD (putK g f.kinds))), .own (.lst (fsD (putF g (f.funs.take i)))), .no, .no, .no, .no], ⟨_, (by repeat (first | exact Wk.nil | refine Wk.keep ?_ | refine Wk.drop ?_)), rfl⟩, ?_, ?_⟩
  · rintro i d G hi rfl
    obtain ⟨⟨t, as, r⟩, hp, rfl⟩ := map_get hi
    have b1 := hv.f _ (List.mem_of_getElem? hp)
    have lf := hv.lf
    repeat walk_at "q"
    refine ae_lcT ?_
    repeat walk_at "q"
    refine ⟨by rw [List.length_map]; have := b1.1; omega, fun i' acc G => acc = ((as.take i').map fun a => (a.put g).d) ∧ G = [.fr f.l, .rd (gD g), .own (.lst (wsD (putK g f.kinds))), .own (.lst (fsD (putF g (f.funs.take i)))), .fr (tD t), .fr (Sg.d (as, r)), .no, .no], ⟨rfl, rfl⟩, fun n acc G' h => by rw [h.2]; rfl, ?_, ?_⟩
    · rintro n x acc G' hx ⟨rfl, rfl⟩
      obtain ⟨a, ha, rfl⟩ := map_get hx
      have c1 := b1.2.1 a (List.mem_of_getElem? ha)
      refine aw_name (by decide) ?_
      repeat walk_at "q"
      refine cq0 (.fr (.rdp rfl rfl .nil)) nl ⟨a, g, rfl, Nat.lt_of_lt_of_le c1.2 (by decide : 60 ≤ 100), ?_⟩
      refine ⟨_, rfl, ?_, rfl⟩
      rw [take_more ha, List.map_append]
      rfl
    · rintro acc G' hl ⟨rfl, rfl⟩
      repeat walk_at "q"
      refine ac_tupL rfl ?_
      repeat walk_at "q"
      refine cq0 (.fr (.rdp rfl rfl .nil)) nl ⟨r, g, rfl, Nat.lt_of_lt_of_le b1.2.2.2 (by decide : 60 ≤ 100), ?_⟩
      repeat walk_at "q"
      refine ⟨_, _, _, rfl, rfl, rfl, rfl, ?_, ?_⟩
      · unfold fsD putF
        rw [List.length_map, List.length_map, List.length_take]
        omega
      refine ⟨_, ?_, rfl⟩
      have e3 : Sg.d (Sg.put g (as, r)) = .tup [.tup ((as.take (as.map Kd.d).length).map fun a => (a.put g).d), (r.put g).d] := by
        rw [List.length_map, List.take_length]
        show D.tup [.tup ((as.map (Kd.put g)).map Kd.d), _] = _
        rw [List.map_map]
        rfl
      rw [putF_more hp]
      unfold fsD
      rw [List.map_append, List.map_cons, List.map_nil, e3]
      repeat (first | exact Wk.nil | refine Wk.keep ?_ | refine Wk.drop ?_)
  rintro G rfl
  have e3 : f.funs.take (f.funs.map fun p => prd p.1 (Sg.d p.2)).length = f.funs := by rw [List.length_map, List.take_length]
  rw [e3]
  repeat walk_at "q"
  refine ae_frz rfl ?_
  repeat walk_at "q"
  refine ae_frz rfl ?_
  repeat walk_at "q"
  exact ⟨[], rfl, rfl, hk⟩
theorem ok_l_hiding {f : Addr} {fd : FuncData} (F : Fun K "_law_hiding" "_law_hiding" s_l_hiding f fd) (c_l_hidden : Callee P w K mg base 1 "_law_hidden" p_l_hidden [] false S_lhid) (c_l_put_all : Callee P w K mg base 101 "_law_put_all" p_l_put_all [] false S_pall) :
    FnOk P w K mg base CX0 102 f fd p_l_hiding (spOf false S_lhiding) := by
  refine fun_ok F sc_l_hiding (by decide) (fun pm k h => by obtain ⟨_, _, rfl, _⟩ := h; rfl) (fun cdv A outer s H X hr => ⟨_, (pss_cons (ps_set (i := 2) sc_l_hiding.nd rfl (Or.inl rfl) pe_dnewT)
    (pss_cons (ps_for PassesOwn.never rfl (pi_list (pe_cal c_l_hidden (hr.mono (by omega)) (by rfl) (pa_cons (pe_ix ix_tup (pv 0) pe_int (fun _ _ => rfl)) pa_nil))) (pg_name (i := 3) sc_l_hiding.nd rfl (Or.inl rfl))
    (pss_one (ps_dput (hu_of hr) (pv 2) (pe_tup (pa_cons pe_str (pa_cons (pv 3) pa_nil))) (pe_tup (pa_cons pe_str (pa_cons (pv 1) (pa_cons (pv 3) pa_nil)))) rfl)))
    (pss_one (ps_ret (pe_cal c_l_put_all (hr.mono (by omega)) (by rfl) (pa_cons (pv 0) (pa_cons (pv 2) pa_nil))))))), ?_⟩)
  rintro L hL pm av kk ⟨f, q, rfl, hv, hk⟩
  repeat walk_at "q"
  refine cq0 (.fr .nil) nl ⟨f.kinds, rfl, hv.lk, hv.k, ?_⟩
  repeat walk_at "q"
  refine ⟨fun i G => G = [.fr f.l, .fr (tD q), .own (gD (wG "" (fun t => .nm q t) ((hidK f.kinds).take i))), .no], ⟨_, (by repeat (first | exact Wk.nil | refine Wk.keep ?_ | refine Wk.drop ?_)), rfl⟩, ?_, ?_⟩
  · rintro i d G hi rfl
    obtain ⟨t, ht, rfl⟩ := map_get hi
    repeat walk_at "q"
    refine ae_pl rfl rfl ?_
    repeat walk_at "q"
    refine ⟨_, _, _, _, _, rfl, rfl, rfl, rfl, rfl, .T (wG_nin (hidK_nd hv.nk) ht) (wG_len (by have := hidK_len f.kinds; have := hv.lk; omega)), ?_⟩
    refine ⟨_, ?_, rfl⟩
    rw [wG_more ht, gD_put]
    repeat (first | exact Wk.nil | refine Wk.keep ?_ | refine Wk.drop ?_)
  rintro G rfl
  have e1 : (hidK f.kinds).take ((hidK f.kinds).map tD).length = hidK f.kinds := by rw [List.length_map, List.take_length]
  rw [e1, ← hideG_w]
  repeat walk_at "q"
  refine ae_pl rfl rfl ?_
  repeat walk_at "q"
  refine cq0 (.fr (.rdp rfl rfl .nil)) nl ⟨f, hideG q f, rfl, hv, ?_⟩
  exact ⟨[], rfl, rfl, hk⟩
theorem ok_l_face_made {f : Addr} {fd : FuncData} (T : Txt K mg) (F : Fun K "_law_face_made" "_law_face_made" s_l_face_made f fd) (m_Face : MakeC P w K mg base 1 "Face" T.C_Face p_Face_init (spFace T.C_Face)) :
    FnOk P w K mg base CX0 3 f fd p_l_face_made (spOf false (S_fmade T.C_Face)) := by
  refine fun_ok F sc_l_face_made (by decide) (fun pm k h => by obtain ⟨_, rfl, _⟩ := h; rfl) (fun cdv A outer s H X hr => ⟨_, (pss_one (ps_ret (pe_mk m_Face (hr.mono (by omega)) (by rfl) (pa_cons (pe_callTy (call_dictP rfl) (by rfl) T.z_dict (by decide +kernel) (pa_cons (pe_ix ix_tup (pv 0) pe_int (fun _ _ => rfl)) pa_nil)) (pa_cons (pe_callTy (call_dictP rfl) (by rfl) T.z_dict (by decide +kernel) (pa_cons (pe_ix ix_tup (pv 0) pe_int (fun _ _ => rfl)) pa_nil)) pa_nil))))), ?_⟩)
  rintro L hL pm av kk ⟨f, rfl, h1, h2, hk⟩
  have p1 : wsD f.kinds = prD (f.kinds.map (·.1)) (f.kinds.map fun p => p.2.d) := by unfold wsD prD; rw [List.zip_map']; rw [List.map_map]; rfl
  have p2 : fsD f.funs = prD (f.funs.map (·.1)) (f.funs.map fun p => Sg.d p.2) := by unfold fsD prD; rw [List.zip_map']; rw [List.map_map]; rfl
  refine as_ret (ae_face ?_)
  repeat walk_at "q"
  refine ac_dpairs (by rw [List.length_map, List.length_map]) h1 (congrArg (fun l => some (D.lst l)) p1) ?_
  repeat walk_at "q"
  refine ac_dpairs (by rw [List.length_map, List.length_map]) h2 (congrArg (fun l => some (D.lst l)) p2) ?_
  repeat walk_at "q"
  refine ⟨_, _, _, _, _, _, rfl, rfl, rfl, ?_⟩
  exact ⟨[], rfl, rfl, hk⟩
end
end Q
-- text C6
set_option Elab.async false
set_option linter.all false
set_option maxRecDepth 100000
set_option maxHeartbeats 4000000
namespace Q
open PySem PySem.Spec PyProof.Rows L2
local macro_rules | `(tactic| walk_at "q") => `(tactic| (first
  | with_reducible refine as_seq ?_ | with_reducible refine as_ret ?_ | with_reducible refine as_if ?_ | with_reducible refine as_deal ?_ | with_reducible refine as_asg ?_ | with_reducible refine as_drop ?_ | with_reducible refine as_dput ?_
  | with_reducible refine at_test ?_ | with_reducible refine at_B ?_ | with_reducible refine at_not ?_ | with_reducible refine at_and ?_ | with_reducible refine at_or ?_
  | with_reducible refine ae_op ?_ | with_reducible refine ae_c ?_ | with_reducible refine ae_andV ?_ | with_reducible refine ae_notV ?_ | with_reducible refine ae_join ?_ | with_reducible refine ae_index ?_ | with_reducible refine ae_from1 ?_ | refine ae_un (i := 0) ?_ | refine ae_var rfl ?_ | refine ae_rd rfl ?_ | refine ae_mt rfl ?_ | with_reducible refine ae_call ?_ | with_reducible refine ae_tup ?_ | with_reducible refine ae_fld ?_ | with_reducible refine ae_cb ?_
  | with_reducible refine aa_nil ?_ | with_reducible refine aa_cons ?_
  | with_reducible refine ae_dget ?_ | with_reducible refine ae_dget2 ?_ | with_reducible refine ae_dget1 ?_ | with_reducible refine ae_din ?_ | with_reducible refine ae_dnotin ?_ | with_reducible refine ae_newK ?_ | with_reducible refine ae_newT ?_ | with_reducible refine ae_lst ?_
  | with_reducible refine ae_meth ?_ | with_reducible refine ct_yes ?_ | with_reducible refine ct_if ?_
  | refine ar_ixT rfl rfl ?_ | refine ar_ixL rfl rfl ?_ | refine ar_II ?_ | refine ar_eq rfl ?_
  | refine itT (by decide +kernel) ?_ | refine itF (by decide +kernel) ?_ | refine itF Bool.false_ne_true ?_ | refine itT rfl ?_
  | refine ⟨.inr ⟨_, _, rfl⟩, ?_⟩ | refine ⟨.inl ⟨_, _, rfl⟩, ?_⟩ | refine ⟨_, _, .T rfl, rfl, ?_⟩ | refine ⟨_, rfl, ?_⟩ | refine ⟨[_, _], rfl, Nat.le_of_ble_eq_true rfl, ?_⟩ | refine ⟨[_, _, _], rfl, Nat.le_of_ble_eq_true rfl, ?_⟩ | refine ⟨[], rfl, Nat.le_of_ble_eq_true rfl, ?_⟩ | refine ⟨[_], rfl, Nat.le_of_ble_eq_true rfl, ?_⟩
  | with_reducible refine as_forL ?_ | with_reducible refine as_forT ?_ | with_reducible refine as_forR ?_ | refine ae_app (ae_pl rfl rfl ⟨_, rfl, ⟨_, rfl⟩, ?_⟩) | refine ae_ins (ae_pl rfl rfl ⟨_, rfl, ⟨_, rfl⟩, ?_⟩) | refine ag_rd rfl ?_ | refine ag_name ?_ | refine ag_own ?_ | refine ag_tup rfl (ags_cons (ags_cons (ags_nil ?_))) | with_reducible refine as_next ?_))
abbrev s_l_moved : Stmt := topS 53
abbrev n_l_moved : List Str := ["_law_kind_here", "_law_words"]
abbrev p_l_moved : List Str := ["_law_kind_here", "_law_words"]
theorem sc_l_moved : FnScope n_l_moved p_l_moved (defScope s_l_moved) := ⟨rfl, rfl, rfl, by decide +kernel, rfl, by decide +kernel, by decide +kernel⟩
abbrev s_l_moved_item : Stmt := topS 54
abbrev n_l_moved_item : List Str := ["_law_item", "_law_words", "_law_params", "_law_x", "_law_kind_here"]
abbrev p_l_moved_item : List Str := ["_law_item", "_law_words"]
theorem sc_l_moved_item : FnScope n_l_moved_item p_l_moved_item (defScope s_l_moved_item) := ⟨rfl, rfl, rfl, by decide +kernel, rfl, by decide +kernel, by decide +kernel⟩
abbrev s_l_moved_seal : Stmt := topS 55
abbrev n_l_moved_seal : List Str := ["_law_seal_here", "_law_words", "_law_word_here", "_law_kind_here"]
abbrev p_l_moved_seal : List Str := ["_law_seal_here", "_law_words"]
theorem sc_l_moved_seal : FnScope n_l_moved_seal p_l_moved_seal (defScope s_l_moved_seal) := ⟨rfl, rfl, rfl, by decide +kernel, rfl, by decide +kernel, by decide +kernel⟩
abbrev s_l_known : Stmt := topS 58
abbrev n_l_known : List Str := ["_law_deal_here", "_law_word_here", "_law_pool", "_law_own", "_law_kinds", "_law_k", "_law_t"]
abbrev p_l_known : List Str := ["_law_deal_here", "_law_word_here", "_law_pool"]
theorem sc_l_known : FnScope n_l_known p_l_known (defScope s_l_known) := ⟨rfl, rfl, rfl, by decide +kernel, rfl, by decide +kernel, by decide +kernel⟩
abbrev s_l_apart : Stmt := topS 50
abbrev n_l_apart : List Str := ["_law_face_here", "_law_other", "_law_words", "_law_funs", "_law_row"]
abbrev p_l_apart : List Str := ["_law_face_here", "_law_other"]
theorem sc_l_apart : FnScope n_l_apart p_l_apart (defScope s_l_apart) := ⟨rfl, rfl, rfl, by decide +kernel, rfl, by decide +kernel, by decide +kernel⟩
def iD (ns : List Nat) : List D := ns.map fun n => .raw (.int (n : Nat))
theorem iD_app (a b : List Nat) : iD (a ++ b) = iD a ++ iD b := List.map_append ..
theorem iD_len (a : List Nat) : (iD a).length = a.length := List.length_map ..
section
variable {P : Program} {w : World} {K : PySem.W.Frag} {mg : Str → Option Value} {base : Heap}
theorem ok_l_greatest {f : Addr} {fd : FuncData} (T : Txt K mg) (F : Fun K "_law_greatest" "_law_greatest" s_l_greatest f fd) (c_l_size : Callee P w K mg base 100 "_law_size" p_l_size [] false (S_words 100)) :
    FnOk P w K mg base CX0 101 f fd p_l_greatest (spOf false S_great) := by
  refine fun_ok F sc_l_greatest (by decide) (fun pm k h => by obtain ⟨_, rfl, _⟩ := h; rfl) (fun cdv A outer s H X hr => ⟨_, (pss_cons (ps_set (i := 1) sc_l_greatest.nd rfl (Or.inl rfl) (pe_op op_cat (pe_lst (pa_cons pe_int pa_nil)) (pe_lc (own := [("_law_word_here", 4), ("_law_kind_here", 5)]) (g := gTup K 2 (gCons (gName 4) (gCons (gName 5) gNil))) (tt := tYes) (by rfl) sc_l_greatest.nd (pi_list (pe_ix ix_tup (pv 0) pe_int (fun _ _ => rfl))) (blkOk_by (N := n_l_greatest) (sc := defScope s_l_greatest) (by decide +kernel))
        (fun _ _ _ _ _ => (pg_tup (by rfl) (pgs_cons (pg_name (i := 4) sc_l_greatest.nd rfl (Or.inl rfl)) (pgs_cons (pg_name (i := 5) sc_l_greatest.nd rfl (Or.inl rfl)) pgs_nil)))) (fun _ _ _ _ _ => pts_nil)
        (fun _ _ _ _ _ => (pe_cal c_l_size (hr.mono (by omega)) (by rfl) (pa_cons (pv 5) pa_nil))))))
    (pss_cons (ps_for PassesOwn.never rfl (pi_list (pe_ix ix_tup (pv 0) pe_int (fun _ _ => rfl))) (pg_tup (by rfl) (pgs_cons (pg_name (i := 2) sc_l_greatest.nd rfl (Or.inl rfl)) (pgs_cons (pg_name (i := 3) sc_l_greatest.nd rfl (Or.inl rfl)) pgs_nil)))
    (pss_one (ps_set (i := 1) sc_l_greatest.nd rfl (Or.inl rfl) (pe_op op_cat (pe_op op_cat (pv 1) (pe_lc (own := [("_law_kind_here", 5)]) (g := gName 5) (tt := tYes) (by rfl) sc_l_greatest.nd (pi_tup (pe_ix ix_tup (pv 3) pe_int (fun _ _ => rfl))) (blkOk_by (N := n_l_greatest) (sc := defScope s_l_greatest) (by decide +kernel))
        (fun _ _ _ _ _ => (pg_name (i := 5) sc_l_greatest.nd rfl (Or.inl rfl))) (fun _ _ _ _ _ => pts_nil)
        (fun _ _ _ _ _ => (pe_cal c_l_size (hr.mono (by omega)) (by rfl) (pa_cons (pv 5) pa_nil))))) (pe_lst (pa_cons (pe_cal c_l_size (hr.mono (by omega)) (by rfl) (pa_cons (pe_ix ix_tup (pv 3) pe_int (fun _ _ => rfl)) pa_nil)) pa_nil))))))
    (pss_one (ps_ret (pe_callB (cr_max rfl) (by rfl) T.z_max (by decide +kernel) (pa_cons (pv 1) pa_nil)))))), ?_⟩)
  rintro L hL pm av kk ⟨f, rfl, hv, hk⟩
  refine as_seq ?_
  repeat ((fail_if_success (with_reducible refine as_seq ?_)); walk_at "q")
  refine ae_lcL ?_
  repeat ((fail_if_success (with_reducible refine as_seq ?_)); walk_at "q")
  refine ⟨by rw [List.length_map]; have := hv.lk; omega, fun i acc G => acc = iD ((f.kinds.take i).map fun p => p.2.words) ∧ G = [.fr f.l, .no, .no, .no, .no, .no], ⟨rfl, rfl⟩, fun n acc G' h => ⟨by rw [h.2]; rfl, rfl⟩, ?_, ?_⟩
  · rintro n x acc G' hx ⟨rfl, rfl⟩
    obtain ⟨⟨t, k⟩, hk1, rfl⟩ := map_get hx
    have b1 := hv.k _ (List.mem_of_getElem? hk1)
    refine aw_tup rfl (aws_cons (by decide) (aws_cons (by decide) (aws_nil ?_)))
    repeat walk_at "q"
    refine cq0 (.fr .nil) nl ⟨k, rfl, Nat.lt_of_lt_of_le b1.2.2 (by decide : 60 ≤ 100), ?_⟩
    repeat walk_at "q"
    refine ⟨?_, rfl⟩
    rw [take_more hk1, List.map_append, iD_app]
    rfl
  rintro acc G' _ ⟨rfl, rfl⟩
  have e1 : f.kinds.take (f.kinds.map fun p => prd p.1 p.2.d).length = f.kinds := by rw [List.length_map, List.take_length]
  rw [e1]
  have lk := hv.lk
  have lf := hv.lf
  have e2 : ∀ i, (szF (f.funs.take i)).length ≤ 51 * 50 := fun i => by
    have := szF_len (f.funs.take i) fun p hp => (hv.f p (List.mem_of_mem_take hp)).1
    rw [List.length_take] at this
    omega
  refine ar_cat (ds := iD [1]) rfl rfl (by rw [iD_len, iD_len, List.length_map]; show 1 + _ ≤ _; omega) ?_
  rw [← iD_app]
  repeat walk_at "q"
  refine ⟨fun i G => G = [.fr f.l, .own (.lst (iD ([1] ++ f.kinds.map (fun p => p.2.words) ++ szF (f.funs.take i)))), .no, .no, .no, .no], ⟨[.fr f.l, .own (.lst (iD ([1] ++ f.kinds.map (fun p => p.2.words)))), .no, .no, .no, .no], (by repeat (first | exact Wk.nil | refine Wk.keep ?_ | refine Wk.drop ?_)), by show _ = [_, SV.own (.lst (iD ([1] ++ f.kinds.map (fun p => p.2.words) ++ []))), _, _, _, _]; rw [List.append_nil]⟩, ?_, ?_⟩
  · rintro i d G hi rfl
    obtain ⟨⟨t, as, r⟩, hp, rfl⟩ := map_get hi
    have b1 := hv.f _ (List.mem_of_getElem? hp)
    repeat walk_at "q"
    refine ae_pl rfl rfl ?_
    repeat walk_at "q"
    refine ae_lcT ?_
    repeat walk_at "q"
    refine ⟨by rw [List.length_map]; have := b1.1; omega, fun i' acc G => acc = iD ((as.take i').map Kd.words) ∧ G = [.fr f.l, .own (.lst (iD ([1] ++ f.kinds.map (fun p => p.2.words) ++ szF (f.funs.take i)))), .fr (tD t), .fr (Sg.d (as, r)), .no, .no], ⟨rfl, rfl⟩, fun n acc G' h => by rw [h.2]; rfl, ?_, ?_⟩
    · rintro n x acc G' hx ⟨rfl, rfl⟩
      obtain ⟨a, ha, rfl⟩ := map_get hx
      have c1 := b1.2.1 a (List.mem_of_getElem? ha)
      refine aw_name (by decide) ?_
      repeat walk_at "q"
      refine cq0 (.fr .nil) nl ⟨a, rfl, Nat.lt_of_lt_of_le c1.2 (by decide : 60 ≤ 100), ?_⟩
      refine ⟨_, rfl, ?_, rfl⟩
      rw [take_more ha, List.map_append, iD_app]
      rfl
    · rintro acc G' hl ⟨rfl, rfl⟩
      have e4 : as.take (as.map Kd.d).length = as := by rw [List.length_map, List.take_length]
      rw [e4]
      have e5 := e2 i
      have e6 : as.length ≤ 50 := b1.1
      refine ar_cat rfl rfl (by rw [iD_len, iD_len, List.length_append, List.length_append, List.length_map, List.length_map]; show 1 + _ + _ + _ ≤ _; omega) ?_
      repeat walk_at "q"
      refine cq0 (.fr .nil) nl ⟨r, rfl, Nat.lt_of_lt_of_le b1.2.2.2 (by decide : 60 ≤ 100), ?_⟩
      repeat walk_at "q"
      refine ar_cat (es := iD [r.words]) rfl rfl (by rw [List.length_append, iD_len, iD_len, iD_len, List.length_append, List.length_append, List.length_map, List.length_map]; show 1 + _ + _ + _ + 1 ≤ _; omega) ?_
      repeat walk_at "q"
      refine ⟨_, ?_, rfl⟩
      have e7 : iD ([1] ++ f.kinds.map (fun p => p.2.words) ++ szF (f.funs.take (i + 1))) = iD ([1] ++ f.kinds.map (fun p => p.2.words) ++ szF (f.funs.take i)) ++ iD (as.map Kd.words) ++ iD [r.words] := by
        rw [szF_more hp, ← iD_app, ← iD_app, ← List.append_assoc, ← List.append_assoc]
      rw [e7]
      repeat (first | exact Wk.nil | refine Wk.keep ?_ | refine Wk.drop ?_)
  rintro G rfl
  have e3 : f.funs.take (f.funs.map fun p => prd p.1 (Sg.d p.2)).length = f.funs := by rw [List.length_map, List.take_length]
  rw [e3]
  repeat walk_at "q"
  refine ae_pl rfl rfl ?_
  repeat walk_at "q"
  refine ac_max (ns := (szs f).map fun n => ((n : Nat) : Int)) (by show some (D.lst _) = some (D.lst _); rw [List.map_map]; rfl) (by rw [List.length_map]; unfold szs; simp) fun m hm hmax => ?_
  refine ⟨[], rfl, rfl, hk m fun h40 => szs_sm fun n hn => ?_⟩
  have := hmax n (List.mem_map.mpr ⟨n, hn, rfl⟩)
  omega
theorem ok_l_know {f : Addr} {fd : FuncData} (F : Fun K "_law_know" "_law_know" s_l_know f fd) : FnOk P w K mg base CX0 1 f fd p_l_know (spOf false S_know) := by
  refine fun_ok F sc_l_know (by decide) (fun pm k h => by obtain ⟨_, _, _, _, rfl, _⟩ := h; rfl) (fun cdv A outer s H X hr => ⟨_, (pss_one (ps_for PassesOwn.never rfl (pi_list (pe_ix ix_tup (pv 2) pe_int (fun _ _ => rfl))) (pg_tup (by rfl) (pgs_cons (pg_name (i := 3) sc_l_know.nd rfl (Or.inl rfl)) (pgs_cons (pg_name (i := 4) sc_l_know.nd rfl (Or.inl rfl)) pgs_nil)))
    (pss_one (ps_dput (hu_of hr) (pv 0) (pe_tup (pa_cons (pv 1) (pa_cons (pv 3) pa_nil))) (pv 4) rfl)))), ?_⟩)
  rintro L hL pm av kk ⟨N, q, l, d, rfl, nq, nd, lN, ll, hk⟩
  repeat walk_at "q"
  refine ⟨fun i G => G = [.mt (av 0) (gD (N ++ knowG q (l.take i))), .fr (tD q), .fr (.tup [.lst (wsD l), d]), .no, .no], ⟨[.mt (av 0) (gD N), .fr (tD q), .fr (.tup [.lst (wsD l), d]), .no, .no], (by repeat (first | exact Wk.nil | refine Wk.keep ?_ | refine Wk.drop ?_)), by show _ = [SV.mt (av 0) (gD (N ++ [])), _, _, _, _]; rw [List.append_nil]⟩, ?_, ?_⟩
  · rintro i x G hi rfl
    obtain ⟨⟨t, k⟩, hp, rfl⟩ := map_get hi
    have nin : (q, t) ∉ (N ++ knowG q (l.take i)).map (·.1) := by
      rw [List.map_append]
      intro m
      rcases List.mem_append.mp m with m | m
      · obtain ⟨p, hp, e⟩ := List.mem_map.mp m
        exact nq p hp (by rw [e])
      · obtain ⟨p, hp2, e⟩ := List.mem_map.mp m
        obtain ⟨u, hu, rfl⟩ := List.mem_map.mp hp2
        injection e with _ e
        exact key_take nd hp (List.mem_map.mpr ⟨u, hu, e⟩)
    repeat walk_at "q"
    refine ⟨_, _, _, _, _, rfl, rfl, rfl, rfl, rfl, .T nin ?_, ?_⟩
    · rw [List.length_map, List.length_append]
      unfold knowG
      rw [List.length_map, List.length_take]
      omega
    refine ⟨_, ?_, rfl⟩
    rw [knowG_more hp, ← List.append_assoc, gD_put]
    repeat (first | exact Wk.nil | refine Wk.keep ?_ | refine Wk.drop ?_)
  rintro G rfl
  have e1 : l.take (wsD l).length = l := by unfold wsD; rw [List.length_map, List.take_length]
  rw [e1]
  exact ⟨[_], ⟨rfl, rfl⟩, hk⟩
theorem ok_l_far {f : Addr} {fd : FuncData} (F : Fun K "_law_far" "_law_far" s_l_far f fd) : FnOk P w K mg base CX0 1 f fd p_l_far (spOf true S_far) := by
  refine fun_ok F sc_l_far (by decide) (fun pm k h => by obtain ⟨_, rfl, _⟩ := h; rfl) (fun cdv A outer s H X hr => ⟨_, (pss_one (ps_ret (pe_lock (pe_lc (own := [("_law_name_here", 1)]) (g := gName 1) (tt := tYes) (by rfl) sc_l_far.nd (pi_keys (pv 0)) (blkOk_by (N := n_l_far) (sc := defScope s_l_far) (by decide +kernel))
        (fun _ _ _ _ _ => (pg_name (i := 1) sc_l_far.nd rfl (Or.inl rfl))) (fun _ _ _ _ _ => pts_nil)
        (fun _ _ _ _ _ => (pe_tup (pa_cons pe_str (pa_cons (pe_ix (ix_tupk (K := K) rfl) (pv 1) pe_int (fun _ _ => rfl)) (pa_cons (pe_ix (ix_tupk (K := K) rfl) (pv 1) pe_int (fun _ _ => rfl)) pa_nil))))))))), ?_⟩)
  rintro L hL pm av kk ⟨N, rfl, lN, hk⟩
  have hL0 : L = none := hL rfl
  repeat ((fail_if_success (with_reducible refine as_seq ?_)); walk_at "q")
  refine ae_lcM (j := 1) hL0 rfl (by intro g hg; simp [svs] at hg; rcases hg with rfl | rfl <;> rfl) (by rw [List.length_map]; omega) (by decide) (fun i acc G => acc = (farK (N.take i)).map Kd.d ∧ G = [.rd (gD N), .no]) ⟨rfl, rfl⟩ (fun n acc G' h => by rw [h.2]; rfl) ?_ ?_
  · rintro d n p acc G' hp ⟨rfl, rfl⟩
    obtain ⟨⟨p', k⟩, hk1, rfl⟩ := map_get hp
    repeat walk_at "q"
    refine ⟨?_, rfl⟩
    rw [take_more hk1]
    unfold farK
    rw [List.map_append, List.map_append]
    rfl
  · rintro acc G' _ ⟨rfl, rfl⟩
    have e1 : N.take (N.map (·.1)).length = N := by rw [List.length_map, List.take_length]
    rw [e1]
    exact ⟨[], rfl, rfl, hk⟩
end
end Q
-- text C7
set_option Elab.async false
set_option linter.all false
set_option maxRecDepth 100000
set_option maxHeartbeats 4000000
namespace Q
open PySem PySem.Spec PyProof.Rows L2
local macro_rules | `(tactic| walk_at "q") => `(tactic| (first
  | with_reducible refine as_seq ?_ | with_reducible refine as_ret ?_ | with_reducible refine as_if ?_ | with_reducible refine as_deal ?_ | with_reducible refine as_asg ?_ | with_reducible refine as_drop ?_ | with_reducible refine as_dput ?_
  | with_reducible refine at_test ?_ | with_reducible refine at_B ?_ | with_reducible refine at_not ?_ | with_reducible refine at_and ?_ | with_reducible refine at_or ?_
  | with_reducible refine ae_op ?_ | with_reducible refine ae_c ?_ | with_reducible refine ae_andV ?_ | with_reducible refine ae_notV ?_ | with_reducible refine ae_join ?_ | with_reducible refine ae_index ?_ | with_reducible refine ae_from1 ?_ | refine ae_un (i := 0) ?_ | refine ae_var rfl ?_ | refine ae_rd rfl ?_ | refine ae_mt rfl ?_ | with_reducible refine ae_call ?_ | with_reducible refine ae_tup ?_ | with_reducible refine ae_fld ?_ | with_reducible refine ae_cb ?_
  | with_reducible refine aa_nil ?_ | with_reducible refine aa_cons ?_
  | with_reducible refine ae_dget ?_ | with_reducible refine ae_dget2 ?_ | with_reducible refine ae_dget1 ?_ | with_reducible refine ae_din ?_ | with_reducible refine ae_dnotin ?_ | with_reducible refine ae_newK ?_ | with_reducible refine ae_newT ?_ | with_reducible refine ae_lst ?_
  | with_reducible refine ae_meth ?_ | with_reducible refine ct_yes ?_ | with_reducible refine ct_if ?_
  | refine ar_ixT rfl rfl ?_ | refine ar_ixL rfl rfl ?_ | refine ar_II ?_ | refine ar_eq rfl ?_
  | refine itT (by decide +kernel) ?_ | refine itF (by decide +kernel) ?_ | refine itF Bool.false_ne_true ?_ | refine itT rfl ?_
  | refine ⟨.inr ⟨_, _, rfl⟩, ?_⟩ | refine ⟨.inl ⟨_, _, rfl⟩, ?_⟩ | refine ⟨_, _, .T rfl, rfl, ?_⟩ | refine ⟨_, rfl, ?_⟩ | refine ⟨[_, _], rfl, Nat.le_of_ble_eq_true rfl, ?_⟩ | refine ⟨[_, _, _], rfl, Nat.le_of_ble_eq_true rfl, ?_⟩ | refine ⟨[], rfl, Nat.le_of_ble_eq_true rfl, ?_⟩ | refine ⟨[_], rfl, Nat.le_of_ble_eq_true rfl, ?_⟩
  | with_reducible refine as_forL ?_ | with_reducible refine as_forT ?_ | with_reducible refine as_forR ?_ | refine ae_app (ae_pl rfl rfl ⟨_, rfl, ⟨_, rfl⟩, ?_⟩) | refine ae_ins (ae_pl rfl rfl ⟨_, rfl, ⟨_, rfl⟩, ?_⟩) | refine ag_rd rfl ?_ | refine ag_name ?_ | refine ag_own ?_ | refine ag_tup rfl (ags_cons (ags_cons (ags_nil ?_))) | with_reducible refine as_next ?_))
def mvK (m : List (Str × Str)) : Kd → Kd
  | .pair a b => .pair (mvK m a) (mvK m b)
  | .nm q t => .nm ((look m q).getD q) t
  | .num n => .num n
def mvI (m : List (Str × Str)) : It → It
  | .kind t k => .kind t (mvK m k)
  | .opn x => .opn ((look m x).getD x)
  | .fn t ps r => .fn t (ps.map fun p => (p.1, mvK m p.2)) (mvK m r)
def mvS (m : List (Str × Str)) : Sl → Sl
  | none => none
  | some (w, ws) => some (w, ws.map fun p => (p.1, mvK m p.2))
def mD (m : List (Str × Str)) : D := .dK (m.map (·.1)) (m.map fun p => tD p.2)
def S_moved (n : Nat) : Spec := fun pm kk => ∃ (k : Kd) (m : List (Str × Str)), pm = [.fr k.d, .rd (mD m)] ∧ k.dep < n ∧ kk (.v (mvK m k).d) []
def It.dp : It → Prop
  | .kind _ k => k.dep < 100
  | .opn _ => True
  | .fn _ ps r => ps.length ≤ 100 ∧ (∀ p ∈ ps, p.2.dep < 100) ∧ r.dep < 100
def S_mitem : Spec := fun pm kk => ∃ (it : It) (m : List (Str × Str)), pm = [.fr it.d, .rd (mD m)] ∧ it.dp ∧ kk (.v (mvI m it).d) []
def S_mseal : Spec := fun pm kk => ∃ (s : Sl) (m : List (Str × Str)), pm = [.fr (slD s), .rd (mD m)] ∧ (∀ w ws, s = some (w, ws) → ws.length ≤ 100 ∧ ∀ p ∈ ws, p.2.dep < 100) ∧ kk (.v (slD (mvS m s))) []
structure KnownOk (w0 : Str) (ks : List (Str × Kd)) : Prop where
  l : ks.length ≤ 4
  nd : (ks.map (·.1)).Nodup
  k : ∀ p ∈ ks, okW p.1 ∧ (p.2 = .nm w0 p.1 ∨ (p.2.words ≤ 3 ∧ p.2.All fun _ _ => False))
def S_known : Spec := fun pm kk => ∃ (w0 : Str) (pool : List Str), pm = [.fr .deal, .fr (tD w0), .mt (.lst (pool.map tD))] ∧ (∀ w ∈ pool, okW w) ∧ pool.length ≤ 900 ∧ ∀ (ks : List (Str × Kd)) (pool' : List Str), KnownOk w0 ks → (∀ w ∈ pool', okW w) → pool'.length ≤ pool.length + 4 → kk (.v (.lst (wsD ks))) [.lst (pool'.map tD)]
section
variable {P : Program} {w : World} {K : PySem.W.Frag} {mg : Str → Option Value} {base : Heap}
theorem ok_l_moved {n : Nat} {f : Addr} {fd : FuncData} (F : Fun K "_law_moved" "_law_moved" s_l_moved f fd) (c_l_moved : Callee P w K mg base n "_law_moved" p_l_moved [] false (S_moved n)) :
    FnOk P w K mg base CX0 (n + 1) f fd p_l_moved (spOf false (S_moved (n + 1))) := by
  refine fun_ok F sc_l_moved (by decide) (fun pm k h => by obtain ⟨_, _, rfl, _⟩ := h; rfl) (fun cdv A outer s H X hr => ⟨_, (pss_cons (ps_if (pt_cmpR op_eq (pe_ix ix_tup (pv 0) pe_int (fun _ _ => rfl)) pe_str (nomark _))
    (pss_one (ps_ret (pe_tup (pa_cons pe_str (pa_cons (pe_cal c_l_moved (hr.mono (by omega)) (by rfl) (pa_cons (pe_ix ix_tup (pv 0) pe_int (fun _ _ => rfl)) (pa_cons (pv 1) pa_nil))) (pa_cons (pe_cal c_l_moved (hr.mono (by omega)) (by rfl) (pa_cons (pe_ix ix_tup (pv 0) pe_int (fun _ _ => rfl)) (pa_cons (pv 1) pa_nil))) pa_nil))))))
    pss_nil)
    (pss_cons (ps_if (PW.pt (pw_and (pt_cmpR op_eq (pe_ix ix_tup (pv 0) pe_int (fun _ _ => rfl)) pe_str (nomark _)) (pw_and1 (pt_cmp (pc_din (hu_of hr) (pe_ix ix_tup (pv 0) pe_int (fun _ _ => rfl)) (pv 1))))))
    (pss_one (ps_ret (pe_tup (pa_cons pe_str (pa_cons (pe_dget (hu_of hr) (pv 1) (pe_ix ix_tup (pv 0) pe_int (fun _ _ => rfl)) (fun _ _ => rfl)) (pa_cons (pe_ix ix_tup (pv 0) pe_int (fun _ _ => rfl)) pa_nil))))))
    pss_nil)
    (pss_one (ps_ret (pv 0))))), ?_⟩)
  rintro L hL pm av kk ⟨k, m, rfl, hd, hk⟩
  cases k with
  | pair a b =>
    have hd : 1 + max a.dep b.dep < n + 1 := hd
    repeat walk_at "q"
    refine cq0 (.fr (.rdp rfl rfl .nil)) nl ⟨a, m, rfl, by omega, ?_⟩
    repeat walk_at "q"
    refine cq0 (.fr (.rdp rfl rfl .nil)) nl ⟨b, m, rfl, by omega, ?_⟩
    repeat walk_at "q"
    exact ⟨[], rfl, rfl, hk⟩
  | num n =>
    repeat walk_at "q"
    exact ⟨[], rfl, rfl, hk⟩
  | nm q t =>
    have hk : kk (.v (Kd.nm ((look m q).getD q) t).d) [] := hk
    repeat walk_at "q"
    refine ⟨_, .K rfl, ?_⟩
    cases hl : look m q with
    | none =>
      rw [hl] at hk
      rw [lk_none (f := tD) hl]
      refine ⟨_, rfl, ?_⟩
      refine itF (by decide) ?_
      repeat walk_at "q"
      exact ⟨[], rfl, rfl, hk⟩
    | some v =>
      rw [hl] at hk
      rw [lk_some (f := tD) hl]
      refine ⟨_, rfl, ?_⟩
      refine itT rfl ?_
      repeat walk_at "q"
      refine ⟨_, .K' rfl (lk_some (f := tD) hl), ?_⟩
      repeat walk_at "q"
      exact ⟨[], rfl, rfl, hk⟩
theorem ok_l_moved_item {f : Addr} {fd : FuncData} (T : Txt K mg) (F : Fun K "_law_moved_item" "_law_moved_item" s_l_moved_item f fd) (c_l_moved : Callee P w K mg base 100 "_law_moved" p_l_moved [] false (S_moved 100)) :
    FnOk P w K mg base CX0 101 f fd p_l_moved_item (spOf false S_mitem) := by
  refine fun_ok F sc_l_moved_item (by decide) (fun pm k h => by obtain ⟨_, _, rfl, _⟩ := h; rfl) (fun cdv A outer s H X hr => ⟨_, (pss_cons (ps_if (pt_cmpR op_eq (pe_ix ix_tup (pv 0) pe_int (fun _ _ => rfl)) pe_str (nomark _))
    (pss_one (ps_ret (pe_tup (pa_cons pe_str (pa_cons (pe_ix ix_tup (pv 0) pe_int (fun _ _ => rfl)) (pa_cons (pe_cal c_l_moved (hr.mono (by omega)) (by rfl) (pa_cons (pe_ix ix_tup (pv 0) pe_int (fun _ _ => rfl)) (pa_cons (pv 1) pa_nil))) pa_nil))))))
    pss_nil)
    (pss_cons (ps_if (pt_cmpR op_eq (pe_ix ix_tup (pv 0) pe_int (fun _ _ => rfl)) pe_str (nomark _))
    (pss_one (ps_ret (pe_tup (pa_cons pe_str (pa_cons (pe_dget2 (hu_of hr) (pv 1) (pe_ix ix_tup (pv 0) pe_int (fun _ _ => rfl)) (pe_ix ix_tup (pv 0) pe_int (fun _ _ => rfl)) ⟨by rfl, by rfl, by rfl, by rfl⟩) pa_nil)))))
    pss_nil)
    (pss_cons (ps_set (i := 2) sc_l_moved_item.nd rfl (Or.inl rfl) (pe_callTy call_tuple_of (by rfl) T.z_tuple (by decide +kernel) (pa_cons (pe_lc (own := [("_law_x", 3), ("_law_kind_here", 4)]) (g := gTup K 2 (gCons (gName 3) (gCons (gName 4) gNil))) (tt := tYes) (by rfl) sc_l_moved_item.nd (pi_tup (pe_ix ix_tup (pv 0) pe_int (fun _ _ => rfl))) (blkOk_by (N := n_l_moved_item) (sc := defScope s_l_moved_item) (by decide +kernel))
        (fun _ _ _ _ _ => (pg_tup (by rfl) (pgs_cons (pg_name (i := 3) sc_l_moved_item.nd rfl (Or.inl rfl)) (pgs_cons (pg_name (i := 4) sc_l_moved_item.nd rfl (Or.inl rfl)) pgs_nil)))) (fun _ _ _ _ _ => pts_nil)
        (fun _ _ _ _ _ => (pe_tup (pa_cons (pv 3) (pa_cons (pe_cal c_l_moved (hr.mono (by omega)) (by rfl) (pa_cons (pv 4) (pa_cons (pv 1) pa_nil))) pa_nil))))) pa_nil)))
    (pss_one (ps_ret (pe_tup (pa_cons pe_str (pa_cons (pe_ix ix_tup (pv 0) pe_int (fun _ _ => rfl)) (pa_cons (pv 2) (pa_cons (pe_cal c_l_moved (hr.mono (by omega)) (by rfl) (pa_cons (pe_ix ix_tup (pv 0) pe_int (fun _ _ => rfl)) (pa_cons (pv 1) pa_nil))) (pa_cons (pe_ix ix_tup (pv 0) pe_int (fun _ _ => rfl)) pa_nil))))))))))), ?_⟩)
  rintro L hL pm av kk ⟨it, m, rfl, hd, hk⟩
  cases it with
  | kind t k =>
    repeat walk_at "q"
    refine cq0 (.fr (.rdp rfl rfl .nil)) nl ⟨k, m, rfl, hd, ?_⟩
    repeat walk_at "q"
    exact ⟨[], rfl, rfl, hk⟩
  | opn x =>
    repeat walk_at "q"
    refine ⟨_, _, .K rfl, rfl, ?_⟩
    have e : ((lkp (m.map (·.1)) (m.map fun p => tD p.2) x).getD (tD x)) = tD ((look m x).getD x) := by
      rw [lkp_look]
      cases look m x <;> rfl
    rw [e]
    repeat walk_at "q"
    exact ⟨[], rfl, rfl, hk⟩
  | fn t ps r =>
    obtain ⟨pl, pd, rd⟩ := hd
    repeat walk_at "q"
    refine ae_lcT ?_
    repeat walk_at "q"
    refine ⟨by unfold wsD; rw [List.length_map]; omega, fun i acc G => acc = wsD ((ps.take i).map fun p => (p.1, mvK m p.2)) ∧ G = [.fr (It.fn t ps r).d, .rd (mD m), .no, .no, .no], ⟨rfl, rfl⟩, fun n acc G' h => by rw [h.2]; rfl, ?_, ?_⟩
    · rintro n x acc G' hx ⟨rfl, rfl⟩
      obtain ⟨⟨u, k⟩, ha, rfl⟩ := map_get hx
      refine aw_tup rfl (aws_cons (by decide) (aws_cons (by decide) (aws_nil ?_)))
      repeat walk_at "q"
      refine cq0 (.fr (.rdp rfl rfl .nil)) nl ⟨k, m, rfl, pd _ (List.mem_of_getElem? ha), ?_⟩
      repeat walk_at "q"
      refine ⟨?_, rfl⟩
      rw [take_more ha, List.map_append]
      unfold wsD
      rw [List.map_append]
      rfl
    · rintro acc G' hl ⟨rfl, rfl⟩
      have e1 : ps.take (wsD ps).length = ps := by unfold wsD; rw [List.length_map, List.take_length]
      rw [e1]
      repeat walk_at "q"
      refine ac_tupL rfl ?_
      repeat walk_at "q"
      refine cq0 (.fr (.rdp rfl rfl .nil)) nl ⟨r, m, rfl, rd, ?_⟩
      repeat walk_at "q"
      refine ⟨[_, _, _, _, _], rfl, Nat.le_of_ble_eq_true rfl, ?_⟩
      exact ⟨[], rfl, rfl, hk⟩
theorem ok_l_moved_seal {f : Addr} {fd : FuncData} (T : Txt K mg) (F : Fun K "_law_moved_seal" "_law_moved_seal" s_l_moved_seal f fd) (c_l_moved : Callee P w K mg base 100 "_law_moved" p_l_moved [] false (S_moved 100)) :
    FnOk P w K mg base CX0 101 f fd p_l_moved_seal (spOf false S_mseal) := by
  refine fun_ok F sc_l_moved_seal (by decide) (fun pm k h => by obtain ⟨_, _, rfl, _⟩ := h; rfl) (fun cdv A outer s H X hr => ⟨_, (pss_cons (ps_if (pt_cmpR op_isN (pv 0) pe_non (nomark _))
    (pss_one (ps_ret pe_non))
    pss_nil)
    (pss_one (ps_ret (pe_tup (pa_cons (pe_ix ix_tup (pv 0) pe_int (fun _ _ => rfl)) (pa_cons (pe_callTy call_tuple_of (by rfl) T.z_tuple (by decide +kernel) (pa_cons (pe_lc (own := [("_law_word_here", 2), ("_law_kind_here", 3)]) (g := gTup K 2 (gCons (gName 2) (gCons (gName 3) gNil))) (tt := tYes) (by rfl) sc_l_moved_seal.nd (pi_tup (pe_ix ix_tup (pv 0) pe_int (fun _ _ => rfl))) (blkOk_by (N := n_l_moved_seal) (sc := defScope s_l_moved_seal) (by decide +kernel))
        (fun _ _ _ _ _ => (pg_tup (by rfl) (pgs_cons (pg_name (i := 2) sc_l_moved_seal.nd rfl (Or.inl rfl)) (pgs_cons (pg_name (i := 3) sc_l_moved_seal.nd rfl (Or.inl rfl)) pgs_nil)))) (fun _ _ _ _ _ => pts_nil)
        (fun _ _ _ _ _ => (pe_tup (pa_cons (pv 2) (pa_cons (pe_cal c_l_moved (hr.mono (by omega)) (by rfl) (pa_cons (pv 3) (pa_cons (pv 1) pa_nil))) pa_nil))))) pa_nil)) pa_nil)))))), ?_⟩)
  rintro L hL pm av kk ⟨s, m, rfl, hd, hk⟩
  cases s with
  | none =>
    repeat walk_at "q"
    refine ar_isN ?_
    repeat walk_at "q"
    exact ⟨[], rfl, rfl, hk⟩
  | some s =>
    obtain ⟨wd, ws⟩ := s
    obtain ⟨pl, pd⟩ := hd wd ws rfl
    repeat walk_at "q"
    refine ar_isN_obj rfl rfl ?_
    repeat walk_at "q"
    refine ae_lcT ?_
    repeat walk_at "q"
    refine ⟨by unfold wsD; rw [List.length_map]; omega, fun i acc G => acc = wsD ((ws.take i).map fun p => (p.1, mvK m p.2)) ∧ G = [.fr (slD (some (wd, ws))), .rd (mD m), .no, .no], ⟨rfl, rfl⟩, fun n acc G' h => by rw [h.2]; rfl, ?_, ?_⟩
    · rintro n x acc G' hx ⟨rfl, rfl⟩
      obtain ⟨⟨u, k⟩, ha, rfl⟩ := map_get hx
      refine aw_tup rfl (aws_cons (by decide) (aws_cons (by decide) (aws_nil ?_)))
      repeat walk_at "q"
      refine cq0 (.fr (.rdp rfl rfl .nil)) nl ⟨k, m, rfl, pd _ (List.mem_of_getElem? ha), ?_⟩
      repeat walk_at "q"
      refine ⟨?_, rfl⟩
      rw [take_more ha, List.map_append]
      unfold wsD
      rw [List.map_append]
      rfl
    · rintro acc G' hl ⟨rfl, rfl⟩
      have e1 : ws.take (wsD ws).length = ws := by unfold wsD; rw [List.length_map, List.take_length]
      rw [e1]
      repeat walk_at "q"
      refine ac_tupL rfl ?_
      repeat walk_at "q"
      exact ⟨[], rfl, rfl, hk⟩
theorem ok_l_known {f : Addr} {fd : FuncData} (T : Txt K mg) (F : Fun K "_law_known" "_law_known" s_l_known f fd) (c_l_draw : Callee P w K mg base 1 "_law_draw" p_l_draw [] false S_draw) (c_l_word : Callee P w K mg base 3 "_law_word" p_l_word [] false S_word)
    (c_l_kind : Callee P w K mg base 110 "_law_kind" p_l_kind [] false (S_kind 10)) :
    FnOk P w K mg base CX0 111 f fd p_l_known (spOf false S_known) := by
  refine fun_ok F sc_l_known (by decide) (fun pm k h => by obtain ⟨_, _, rfl, _⟩ := h; rfl) (fun cdv A outer s H X hr => ⟨_, (pss_cons (ps_set (i := 3) sc_l_known.nd rfl (Or.inl rfl) (pe_lst pa_nil))
    (pss_cons (ps_set (i := 4) sc_l_known.nd rfl (Or.inl rfl) (pe_lst pa_nil))
    (pss_cons (ps_for PassesOwn.never rfl (pi_range1 (by rfl) T.z_range (pa_cons (pe_op op_add pe_int (pe_cal c_l_draw (hr.mono (by omega)) (by rfl) (pa_cons (pv 0) (pa_cons pe_int pa_nil)))) pa_nil)) (pg_name (i := 5) sc_l_known.nd rfl (Or.inl rfl))
    (pss_cons (ps_set (i := 6) sc_l_known.nd rfl (Or.inl rfl) (pe_cal c_l_word (hr.mono (by omega)) (by rfl) (pa_cons (pv 0) (pa_cons (pv 2) (pa_cons (pv 3) pa_nil)))))
    (pss_one (ps_expr (pe_bm PySem.F.plainAttrs_list PySem.F.slot_list_append PySem.F.type_list_append mt_append (pv 4) (pa_cons (pe_tup (pa_cons (pv 6) (pa_cons (pe_ix ix_list (pe_lst (pa_cons (pe_tup (pa_cons pe_str (pa_cons (pv 1) (pa_cons (pv 6) pa_nil)))) (pa_cons (pe_cal c_l_kind (hr.mono (by omega)) (by rfl) (pa_cons (pv 0) (pa_cons (pe_lst pa_nil) (pa_cons pe_int pa_nil)))) pa_nil))) (pe_cal c_l_draw (hr.mono (by omega)) (by rfl) (pa_cons (pv 0) (pa_cons pe_int pa_nil))) (fun _ _ => rfl)) pa_nil))) pa_nil))))))
    (pss_one (ps_ret (pv 4)))))), ?_⟩)
  rintro L hL pm av kk ⟨w0, pool, rfl, hp, lp, hk⟩
  repeat walk_at "q"
  refine cq0 (.fr (.fr .nil)) nl ⟨4, rfl, by decide, by decide, fun r r0 r1 => ?_⟩
  repeat walk_at "q"
  have e1 : (1 : Int) + r = ((1 + r.toNat : Nat) : Int) := by omega
  rw [e1]
  have r4 : 1 + r.toNat ≤ 4 := by omega
  refine ⟨_, rfl, by omega, fun i G => ∃ (ks : List (Str × Kd)) (pool' : List Str), KnownOk w0 ks ∧ ks.length ≤ i ∧ (∀ w ∈ pool', okW w) ∧ pool'.length ≤ pool.length + i ∧ G = [.fr .deal, .fr (tD w0), .mt (av 2) (.lst (pool'.map tD)), .own (.lst ((ks.map (·.1)).map tD)), .own (.lst (wsD ks)), .no, .no], ⟨_, (by repeat (first | exact Wk.nil | refine Wk.keep ?_ | refine Wk.drop ?_)), [], pool, ⟨Nat.zero_le _, List.nodup_nil, fun p hp => by cases hp⟩, Nat.le_refl _, hp, Nat.le_refl _, rfl⟩, ?_, ?_⟩
  · rintro i G hi ⟨ks, pool', ho, lk, hp', lp', rfl⟩
    repeat walk_at "q"
    refine ae_pl rfl rfl ?_
    repeat walk_at "q"
    refine cqm [2, 3] [] (.fr (.mtp rfl rfl rfl (.mtp rfl rfl rfl .nil))) nl ⟨pool', ks.map (·.1), rfl, hp', by omega, by rw [List.length_map]; omega, fun t pool2 t1 t2 p2 l2 => ?_⟩
    repeat walk_at "q"
    refine cq0 (.fr (.rdv rfl (.fr .nil))) nl ⟨[], 3, rfl, by decide, by decide, by decide, (by intro k h; cases h), fun k k1 k2 => ?_⟩
    repeat walk_at "q"
    refine cq0 (.fr (.fr .nil)) nl ⟨2, rfl, by decide, by decide, fun b b0 b1 => ?_⟩
    have hx : ∃ x : Kd, (x = .nm w0 t ∨ (x.words ≤ 3 ∧ x.All fun _ _ => False)) ∧ atI [D.tup [.raw (.str "name"), .raw (.str w0), .raw (.str t)], k.d] b = some x.d := by
      have hb : b = 0 ∨ b = 1 := by omega
      rcases hb with rfl | rfl
      · exact ⟨.nm w0 t, .inl rfl, rfl⟩
      · exact ⟨k, .inr ⟨k1, k2.mono _ fun q u h => by cases h⟩, rfl⟩
    obtain ⟨x, hx, ex⟩ := hx
    refine ar_ixL rfl ex ?_
    repeat walk_at "q"
    refine ⟨_, _, _, rfl, rfl, rfl, rfl, by unfold wsD; rw [List.length_map]; have := ho.l; omega, ?_⟩
    refine ⟨[.fr .deal, .fr (tD w0), .mt (av 2) (.lst (pool2.map tD)), .own (.lst ((ks.map (·.1) ++ [t]).map tD)), .own (.lst (wsD ks ++ [prd t x.d])), .no, .no], (by repeat (first | exact Wk.nil | refine Wk.keep ?_ | refine Wk.drop ?_)), ks ++ [(t, x)], pool2, ⟨by rw [List.length_append]; simp; omega, ?_, ?_⟩, by rw [List.length_append]; simp; omega, p2, by omega, ?_⟩
    · exact nd_snoc ho.nd t2
    · intro p hp
      rcases List.mem_append.mp hp with z | z
      · exact ho.k p z
      · rw [List.mem_singleton.mp z]; exact ⟨t1, hx⟩
    · rw [List.map_append (l₁ := ks)]
      unfold wsD
      rw [List.map_append (l₁ := ks)]
      rfl
  rintro G ⟨ks, pool', ho, lk, hp', lp', rfl⟩
  repeat walk_at "q"
  refine ae_frz rfl ?_
  exact ⟨[_], rfl, ⟨rfl, rfl⟩, hk ks pool' ho hp' (by omega)⟩
end
end Q
-- text C8
set_option Elab.async false
set_option linter.all false
set_option maxRecDepth 100000
set_option maxHeartbeats 4000000
namespace Q
open PySem PySem.Spec PyProof.Rows L2
local macro_rules | `(tactic| walk_at "q") => `(tactic| (first
  | with_reducible refine as_seq ?_ | with_reducible refine as_ret ?_ | with_reducible refine as_if ?_ | with_reducible refine as_deal ?_ | with_reducible refine as_asg ?_ | with_reducible refine as_drop ?_ | with_reducible refine as_dput ?_
  | with_reducible refine at_test ?_ | with_reducible refine at_B ?_ | with_reducible refine at_not ?_ | with_reducible refine at_and ?_ | with_reducible refine at_or ?_
  | with_reducible refine ae_op ?_ | with_reducible refine ae_c ?_ | with_reducible refine ae_andV ?_ | with_reducible refine ae_notV ?_ | with_reducible refine ae_join ?_ | with_reducible refine ae_index ?_ | with_reducible refine ae_from1 ?_ | refine ae_un (i := 0) ?_ | refine ae_var rfl ?_ | refine ae_rd rfl ?_ | refine ae_mt rfl ?_ | with_reducible refine ae_call ?_ | with_reducible refine ae_tup ?_ | with_reducible refine ae_fld ?_ | with_reducible refine ae_cb ?_
  | with_reducible refine aa_nil ?_ | with_reducible refine aa_cons ?_
  | with_reducible refine ae_dget ?_ | with_reducible refine ae_dget2 ?_ | with_reducible refine ae_dget1 ?_ | with_reducible refine ae_din ?_ | with_reducible refine ae_dnotin ?_ | with_reducible refine ae_newK ?_ | with_reducible refine ae_newT ?_ | with_reducible refine ae_lst ?_
  | with_reducible refine ae_meth ?_ | with_reducible refine ct_yes ?_ | with_reducible refine ct_if ?_
  | refine ar_ixT rfl rfl ?_ | refine ar_ixL rfl rfl ?_ | refine ar_II ?_ | refine ar_eq rfl ?_
  | refine itT (by decide +kernel) ?_ | refine itF (by decide +kernel) ?_ | refine itF Bool.false_ne_true ?_ | refine itT rfl ?_
  | refine ⟨.inr ⟨_, _, rfl⟩, ?_⟩ | refine ⟨.inl ⟨_, _, rfl⟩, ?_⟩ | refine ⟨_, _, .T rfl, rfl, ?_⟩ | refine ⟨_, rfl, ?_⟩ | refine ⟨[_, _], rfl, Nat.le_of_ble_eq_true rfl, ?_⟩ | refine ⟨[_, _, _], rfl, Nat.le_of_ble_eq_true rfl, ?_⟩ | refine ⟨[], rfl, Nat.le_of_ble_eq_true rfl, ?_⟩ | refine ⟨[_], rfl, Nat.le_of_ble_eq_true rfl, ?_⟩
  | with_reducible refine as_forL ?_ | with_reducible refine as_forT ?_ | with_reducible refine as_forR ?_ | refine ae_app (ae_pl rfl rfl ⟨_, rfl, ⟨_, rfl⟩, ?_⟩) | refine ae_ins (ae_pl rfl rfl ⟨_, rfl, ⟨_, rfl⟩, ?_⟩) | refine ag_rd rfl ?_ | refine ag_name ?_ | refine ag_own ?_ | refine ag_tup rfl (ags_cons (ags_cons (ags_nil ?_))) | with_reducible refine as_next ?_))
abbrev s_l_alike : Stmt := topS 39
abbrev n_l_alike : List Str := ["_law_found", "_law_due", "_law_k"]
abbrev p_l_alike : List Str := ["_law_found", "_law_due"]
theorem sc_l_alike : FnScope n_l_alike p_l_alike (defScope s_l_alike) := ⟨rfl, rfl, rfl, by decide +kernel, rfl, by decide +kernel, by decide +kernel⟩
abbrev s_l_same : Stmt := topS 40
abbrev n_l_same : List Str := ["_law_face_here", "_law_kinds", "_law_funs"]
abbrev p_l_same : List Str := ["_law_face_here", "_law_kinds", "_law_funs"]
theorem sc_l_same : FnScope n_l_same p_l_same (defScope s_l_same) := ⟨rfl, rfl, rfl, by decide +kernel, rfl, by decide +kernel, by decide +kernel⟩
abbrev s_l_face : Stmt := topS 41
abbrev n_l_face : List Str := ["_law_deal_here", "_law_pool", "_law_leaves", "_law_own", "_law_hidden_here", "_law_some", "_law_kinds", "_law_k", "_law_word_here", "_law_funs", "_law_args", "_law_fun", "_law_j"]
abbrev p_l_face : List Str := ["_law_deal_here", "_law_pool", "_law_leaves"]
theorem sc_l_face : FnScope n_l_face p_l_face (defScope s_l_face) := ⟨rfl, rfl, rfl, by decide +kernel, rfl, by decide +kernel, by decide +kernel⟩
abbrev s_l_formals : Stmt := topS 48
abbrev n_l_formals : List Str := ["_law_deals", "_law_words", "_law_some", "_law_names", "_law_formals_here", "_law_wants", "_law_k", "_law_deal_here", "_law_which", "_law_face_here", "_law_withs", "_law_given_here", "_law_word_here", "_law_want"]
abbrev p_l_formals : List Str := ["_law_deals", "_law_words", "_law_some", "_law_names"]
theorem sc_l_formals : FnScope n_l_formals p_l_formals (defScope s_l_formals) := ⟨rfl, rfl, rfl, by decide +kernel, rfl, by decide +kernel, by decide +kernel⟩
abbrev s_l_items : Stmt := topS 49
abbrev n_l_items : List Str := ["_law_deal_here", "_law_result", "_law_names", "_law_items_here", "_law_own", "_law_made", "_law_given_here", "_law_order", "_law_word_here", "_law_kind_here", "_law_full", "_law_funs", "_law_fun", "_law_row", "_law_params", "_law_k"]
abbrev p_l_items : List Str := ["_law_deal_here", "_law_result", "_law_names"]
theorem sc_l_items : FnScope n_l_items p_l_items (defScope s_l_items) := ⟨rfl, rfl, rfl, by decide +kernel, rfl, by decide +kernel, by decide +kernel⟩
abbrev s_l_opened : Stmt := topS 51
abbrev n_l_opened : List Str := ["_law_deal_here", "_law_words", "_law_wants", "_law_got", "_law_items_here", "_law_own", "_law_funs", "_law_made", "_law_at", "_law_seen", "_law_word_here", "_law_row"]
abbrev p_l_opened : List Str := ["_law_deal_here", "_law_words", "_law_wants", "_law_got"]
theorem sc_l_opened : FnScope n_l_opened p_l_opened (defScope s_l_opened) := ⟨rfl, rfl, rfl, by decide +kernel, rfl, by decide +kernel, by decide +kernel⟩
abbrev s_l_seal : Stmt := topS 52
abbrev n_l_seal : List Str := ["_law_deal_here", "_law_word_here", "_law_result", "_law_made", "_law_t"]
abbrev p_l_seal : List Str := ["_law_deal_here", "_law_word_here", "_law_result", "_law_made"]
theorem sc_l_seal : FnScope n_l_seal p_l_seal (defScope s_l_seal) := ⟨rfl, rfl, rfl, by decide +kernel, rfl, by decide +kernel, by decide +kernel⟩
abbrev s_l_given : Stmt := topS 56
abbrev n_l_given : List Str := ["_law_deals", "_law_wants", "_law_words", "_law_opened_here", "_law_leaves", "_law_names", "_law_parts", "_law_k", "_law_deal_here", "_law_x", "_law_want", "_law_own", "_law_word_here", "_law_kinds", "_law_funs", "_law_row"]
abbrev p_l_given : List Str := ["_law_deals", "_law_wants", "_law_words", "_law_opened_here", "_law_leaves"]
theorem sc_l_given : FnScope n_l_given p_l_given (defScope s_l_given) := ⟨rfl, rfl, rfl, by decide +kernel, rfl, by decide +kernel, by decide +kernel⟩
abbrev s_l_direct : Stmt := topS 59
abbrev n_l_direct : List Str := ["_law_got", "_law_words", "_law_wants", "_law_faces", "_law_parts", "_law_seal_here", "_law_items_here", "_law_moved_here", "_law_k", "_law_full", "_law_item"]
abbrev p_l_direct : List Str := ["_law_got", "_law_words", "_law_wants", "_law_faces", "_law_parts"]
theorem sc_l_direct : FnScope n_l_direct p_l_direct (defScope s_l_direct) := ⟨rfl, rfl, rfl, by decide +kernel, rfl, by decide +kernel, by decide +kernel⟩
def Tm : Nat → D → Prop
  | 0, _ => False
  | n + 1, .tup ds => ds.length ≤ 1000 ∧ ∀ d ∈ ds, Tm n d
  | _ + 1, .raw (.int _) => True
  | _ + 1, .raw (.str _) => True
  | _ + 1, _ => False
def S_alike (n : Nat) : Spec := fun pm kk => ∃ d : D, pm = [.fr d, .fr d] ∧ Tm n d ∧ kk (.v (.raw (.bl true))) []
def S_same (C : Addr) : Spec := fun pm kk => ∃ f : Fc, pm = [.fr (f.o C), .fr (.lst (wsD f.kinds)), .fr (.lst (fsD f.funs))] ∧ f.B ∧ kk (.v (.raw (.bl true))) []
theorem Tm_K : ∀ (k : Kd) (n : Nat), k.dep + 2 ≤ n → Tm n k.d
  | .num _, 0, h => by omega
  | .num _, 1, h => by simp [Kd.dep] at h
  | .num _, n + 2, _ => ⟨by simp, by intro d hd; simp at hd; rcases hd with rfl | rfl <;> exact True.intro⟩
  | .nm _ _, 0, h => by omega
  | .nm _ _, 1, h => by simp [Kd.dep] at h
  | .nm _ _, n + 2, _ => ⟨by simp, by intro d hd; simp at hd; rcases hd with rfl | rfl | rfl <;> exact True.intro⟩
  | .pair a b, 0, h => by omega
  | .pair a b, 1, h => by omega
  | .pair a b, n + 2, h => by
    have h : 1 + max a.dep b.dep + 2 ≤ n + 2 := h
    exact ⟨by simp, by
      intro d hd
      simp at hd
      rcases hd with rfl | rfl | rfl
      · exact True.intro
      · exact Tm_K a (n + 1) (by omega)
      · exact Tm_K b (n + 1) (by omega)⟩
theorem Tm_ws {l : List (Str × Kd)} (hl : l.length ≤ 1000) (h : ∀ p ∈ l, p.2.dep < 60) : Tm 90 (.tup (wsD l)) := by
  refine ⟨by unfold wsD; rw [List.length_map]; exact hl, fun d hd => ?_⟩
  obtain ⟨p, hp, rfl⟩ := List.mem_map.mp hd
  refine ⟨by simp, fun d hd => ?_⟩
  simp at hd
  rcases hd with rfl | rfl
  · exact True.intro
  · exact Tm_K _ _ (show p.2.dep + 2 ≤ 88 by have := h p hp; omega)
theorem Tm_fs {l : List (Str × Sg)} (hl : l.length ≤ 1000) (h : ∀ p ∈ l, p.2.1.length ≤ 1000 ∧ (∀ a ∈ p.2.1, a.dep < 60) ∧ p.2.2.dep < 60) : Tm 90 (.tup (fsD l)) := by
  refine ⟨by unfold fsD; rw [List.length_map]; exact hl, fun d hd => ?_⟩
  obtain ⟨p, hp, rfl⟩ := List.mem_map.mp hd
  obtain ⟨h1, h2, h3⟩ := h p hp
  refine ⟨by simp, fun d hd => ?_⟩
  simp at hd
  rcases hd with rfl | rfl
  · exact True.intro
  · refine ⟨by simp, fun d hd => ?_⟩
    simp at hd
    rcases hd with rfl | rfl
    · refine ⟨by rw [List.length_map]; exact h1, fun d hd => ?_⟩
      obtain ⟨a, ha, rfl⟩ := List.mem_map.mp hd
      exact Tm_K _ _ (show a.dep + 2 ≤ 86 by have := h2 a ha; omega)
    · exact Tm_K _ _ (show p.2.2.dep + 2 ≤ 87 by omega)
section
variable {P : Program} {w : World} {K : PySem.W.Frag} {mg : Str → Option Value} {base : Heap}
theorem ok_l_alike {n : Nat} {f : Addr} {fd : FuncData} (T : Txt K mg) (F : Fun K "_law_alike" "_law_alike" s_l_alike f fd) (c_l_alike : Callee P w K mg base n "_law_alike" p_l_alike [] true (S_alike n)) :
    FnOk P w K mg base CX0 (n + 1) f fd p_l_alike (spOf true (S_alike (n + 1))) := by
  refine fun_ok F sc_l_alike (by decide) (fun pm k h => by obtain ⟨_, rfl, _⟩ := h; rfl) (fun cdv A outer s H X hr => ⟨_, (pss_cons (ps_if (pt_cmpR op_isN (pv 1) pe_non (nomark _))
    (pss_one (ps_ret (pe_cmpR op_isN (pv 0) pe_non (nomark _))))
    pss_nil)
    (pss_cons (ps_if (pt_val (pe_callB call_isi (by rfl) T.z_isinstance (by decide +kernel) (pa_cons (pv 1) (pa_cons (pe_bltn (v := .ty "tuple") (by rfl) T.z_tuple (by decide +kernel) rfl) pa_nil))))
    (pss_cons (ps_if (PW.pt (pw_or (pt_not (pt_val (pe_callB call_isi (by rfl) T.z_isinstance (by decide +kernel) (pa_cons (pv 0) (pa_cons (pe_bltn (v := .ty "tuple") (by rfl) T.z_tuple (by decide +kernel) rfl) pa_nil))))) (pw_or1 (pt_cmpR op_ne (pe_callB call_len_seq (by rfl) T.z_len PySem.boot_len (pa_cons (pv 0) pa_nil)) (pe_callB call_len_seq (by rfl) T.z_len PySem.boot_len (pa_cons (pv 1) pa_nil)) (nomark _)))))
    (pss_one (ps_ret pe_bl))
    pss_nil)
    (pss_one (ps_ret (pe_callB (cr_all rfl) (by rfl) T.z_all (by decide +kernel) (pa_cons (pe_lc (own := [("_law_k", 2)]) (g := gName 2) (tt := tYes) (by rfl) sc_l_alike.nd (pi_range1 (by rfl) T.z_range (pa_cons (pe_callB call_len_seq (by rfl) T.z_len PySem.boot_len (pa_cons (pv 1) pa_nil)) pa_nil)) (blkOk_by (N := n_l_alike) (sc := defScope s_l_alike) (by decide +kernel))
        (fun _ _ _ _ _ => (pg_name (i := 2) sc_l_alike.nd rfl (Or.inl rfl))) (fun _ _ _ _ _ => pts_nil)
        (fun _ _ _ _ _ => (pe_cal c_l_alike (hr.mono (by omega)) (by rfl) (pa_cons (pe_ix (ix_tupk (K := K) rfl) (pv 0) (pv 2) (fun _ _ => rfl)) (pa_cons (pe_ix (ix_tupk (K := K) rfl) (pv 1) (pv 2) (fun _ _ => rfl)) pa_nil))))) pa_nil)))))
    pss_nil)
    (pss_cons (ps_if (pt_val (pe_callB call_isi (by rfl) T.z_isinstance (by decide +kernel) (pa_cons (pv 1) (pa_cons (pe_bltn (v := .ty "int") (by rfl) T.z_int (by decide +kernel) rfl) pa_nil))))
    (pss_one (ps_ret (pe_and (pe_callB call_isi (by rfl) T.z_isinstance (by decide +kernel) (pa_cons (pv 0) (pa_cons (pe_bltn (v := .ty "int") (by rfl) T.z_int (by decide +kernel) rfl) pa_nil))) (pe_and (pe_not (pe_callB call_isi (by rfl) T.z_isinstance (by decide +kernel) (pa_cons (pv 0) (pa_cons (pe_bltn (v := .ty "bool") (by rfl) T.z_bool (by decide +kernel) rfl) pa_nil)))) (pe_one (pe_cmpR op_eq (pv 0) (pv 1) (nomark _)))))))
    pss_nil)
    (pss_one (ps_ret (pe_and (pe_callB call_isi (by rfl) T.z_isinstance (by decide +kernel) (pa_cons (pv 0) (pa_cons (pe_bltn (v := .ty "str") (by rfl) T.z_str (by decide +kernel) rfl) pa_nil))) (pe_one (pe_cmpR op_eq (pv 0) (pv 1) (nomark _))))))))), ?_⟩)
  rintro L hL pm av kk ⟨d, rfl, ht, hk⟩
  have hL0 : L = none := hL rfl
  have hi : ∀ i : Int, ∀ {A : Prop}, A → (if decide (V.int i = V.non) = true then False else A) := fun i A a => by simpa using a
  cases d with
  | tup ds =>
    obtain ⟨hl, hd⟩ := ht
    repeat walk_at "q"
    refine ar_isN_obj rfl rfl ?_
    repeat walk_at "q"
    refine ac_isi hL0 rfl (.ty _) (kit_ty (r := true) (by decide +kernel)) ?_
    repeat walk_at "q"
    refine ac_isi hL0 rfl (.ty _) (kit_ty (r := true) (by decide +kernel)) ?_
    repeat walk_at "q"
    refine ac_lenT rfl ?_
    repeat walk_at "q"
    refine ac_lenT rfl ?_
    refine ar_ne rfl ?_
    repeat walk_at "q"
    refine itF (by simp) ?_
    repeat walk_at "q"
    refine ae_lcR ?_
    repeat walk_at "q"
    refine ac_lenT rfl ?_
    repeat walk_at "q"
    refine ⟨by omega, fun i acc G => acc = (List.replicate i true).map (fun b => .raw (.bl b)) ∧ G = [.fr (.tup ds), .fr (.tup ds), .no], ⟨rfl, rfl⟩, fun n acc G' h => by rw [h.2]; rfl, ?_, ?_⟩
    · rintro i acc G' hi ⟨rfl, rfl⟩
      have e : atI ds (i : Int) = some ds[i] := atI_nat (List.getElem?_eq_getElem hi)
      refine aw_name (by decide) ?_
      repeat walk_at "q"
      refine ar_ixT rfl e ?_
      repeat walk_at "q"
      refine ar_ixT rfl e ?_
      repeat walk_at "q"
      refine cq0 (.fr (.fr .nil)) hL ⟨ds[i], rfl, hd _ (List.getElem_mem hi), ?_⟩
      refine ⟨_, rfl, ?_, rfl⟩
      rw [List.replicate_succ', List.map_append]
      rfl
    · rintro acc G' _ ⟨rfl, rfl⟩
      repeat walk_at "q"
      refine ac_all rfl ?_
      have e : (List.replicate ds.length true).all id = true := by rw [List.all_eq_true]; intro x hx; rw [List.eq_of_mem_replicate hx]; rfl
      rw [e]
      exact ⟨[], rfl, rfl, hk⟩
  | raw v =>
    cases v with
    | int i =>
      repeat walk_at "q"
      refine ar_isN ?_
      repeat walk_at "q"
      refine ac_isi hL0 rfl (.ty _) (kit_ty (r := false) (by decide +kernel)) ?_
      repeat walk_at "q"
      refine ac_isi hL0 rfl (.ty _) (kit_ty (r := true) (by decide +kernel)) ?_
      repeat walk_at "q"
      refine ac_isi hL0 rfl (.ty _) (kit_ty (r := true) (by decide +kernel)) ?_
      repeat walk_at "q"
      refine ac_isi hL0 rfl (.ty _) (kit_ty (r := false) (by decide +kernel)) ?_
      repeat walk_at "q"
      refine ⟨[], rfl, rfl, ?_⟩
      rw [decide_eq_true rfl]
      exact hk
    | str i =>
      repeat walk_at "q"
      refine ar_isN ?_
      repeat walk_at "q"
      refine ac_isi hL0 rfl (.ty _) (kit_ty (r := false) (by decide +kernel)) ?_
      repeat walk_at "q"
      refine ac_isi hL0 rfl (.ty _) (kit_ty (r := false) (by decide +kernel)) ?_
      repeat walk_at "q"
      refine ac_isi hL0 rfl (.ty _) (kit_ty (r := true) (by decide +kernel)) ?_
      repeat walk_at "q"
      refine ⟨[], rfl, rfl, ?_⟩
      rw [decide_eq_true rfl]
      exact hk
    | _ => exact ht.elim
  | _ => exact ht.elim
theorem ok_l_same {f : Addr} {fd : FuncData} (T : Txt K mg) (F : Fun K "_law_same" "_law_same" s_l_same f fd) (c_l_alike : Callee P w K mg base 90 "_law_alike" p_l_alike [] true (S_alike 90)) :
    FnOk P w K mg base CX0 91 f fd p_l_same (spOf true (S_same T.C_Face)) := by
  refine fun_ok F sc_l_same (by decide) (fun pm k h => by obtain ⟨_, rfl, _⟩ := h; rfl) (fun cdv A outer s H X hr => ⟨_, (pss_cons (ps_if (PW.pt (pw_or (pt_not (pt_val (pe_callB call_isi (by rfl) T.z_isinstance (by decide +kernel) (pa_cons (pv 0) (pa_cons (pe_glob (v := .ref T.C_Face) (by rfl) T.g_Face rfl) pa_nil))))) (pw_or (pt_not (pt_val (pe_callB call_isi (by rfl) T.z_isinstance (by decide +kernel) (pa_cons (pe_fld (pv 0) rfl) (pa_cons (pe_bltn (v := .ty "dict") (by rfl) T.z_dict (by decide +kernel) rfl) pa_nil))))) (pw_or1 (pt_not (pt_val (pe_callB call_isi (by rfl) T.z_isinstance (by decide +kernel) (pa_cons (pe_fld (pv 0) rfl) (pa_cons (pe_bltn (v := .ty "dict") (by rfl) T.z_dict (by decide +kernel) rfl) pa_nil)))))))))
    (pss_one (ps_ret pe_bl))
    pss_nil)
    (pss_cons (ps_if (pt_not (pt_val (pe_cal c_l_alike (hr.mono (by omega)) (by rfl) (pa_cons (pe_tupleItems rfl (pe_fld (pv 0) rfl) (by rfl) T.z_tuple (by decide +kernel)) (pa_cons (pe_callTy call_tuple_of (by rfl) T.z_tuple (by decide +kernel) (pa_cons (pv 1) pa_nil)) pa_nil)))))
    (pss_one (ps_ret pe_bl))
    pss_nil)
    (pss_one (ps_ret (pe_cal c_l_alike (hr.mono (by omega)) (by rfl) (pa_cons (pe_tupleItems rfl (pe_fld (pv 0) rfl) (by rfl) T.z_tuple (by decide +kernel)) (pa_cons (pe_callTy call_tuple_of (by rfl) T.z_tuple (by decide +kernel) (pa_cons (pv 2) pa_nil)) pa_nil))))))), ?_⟩)
  rintro L hL pm av kk ⟨f, rfl, hb, hk⟩
  have hL0 : L = none := hL rfl
  have p1 : wsD f.kinds = prD (f.kinds.map (·.1)) (f.kinds.map fun p => p.2.d) := by unfold wsD prD; rw [List.zip_map']; rw [List.map_map]; rfl
  have p2 : fsD f.funs = prD (f.funs.map (·.1)) (f.funs.map fun p => Sg.d p.2) := by unfold fsD prD; rw [List.zip_map']; rw [List.map_map]; rfl
  have dk : ∀ {k : Kd}, k.B → k.dep < 60 := fun {k} h => by have := k.dep_le; have := h.1; omega
  repeat (first | walk_at "q" | refine ⟨_, _, _, _, rfl, T.cl_Face, T.n_kinds, fld_kinds (C := T.C_Face) _, ?_⟩ | refine ⟨_, _, _, _, rfl, T.cl_Face, T.n_funs, fld_funs (C := T.C_Face) _, ?_⟩)
  refine ac_isiO T.ty_Face (.own _) T.kt_Face ?_
  repeat (first | walk_at "q" | refine ⟨_, _, _, _, rfl, T.cl_Face, T.n_kinds, fld_kinds (C := T.C_Face) _, ?_⟩ | refine ⟨_, _, _, _, rfl, T.cl_Face, T.n_funs, fld_funs (C := T.C_Face) _, ?_⟩)
  refine ac_isi hL0 rfl (.ty _) (kit_ty (r := true) (by decide +kernel)) ?_
  repeat (first | walk_at "q" | refine ⟨_, _, _, _, rfl, T.cl_Face, T.n_kinds, fld_kinds (C := T.C_Face) _, ?_⟩ | refine ⟨_, _, _, _, rfl, T.cl_Face, T.n_funs, fld_funs (C := T.C_Face) _, ?_⟩)
  refine ac_isi hL0 rfl (.ty _) (kit_ty (r := true) (by decide +kernel)) ?_
  repeat (first | walk_at "q" | refine ⟨_, _, _, _, rfl, T.cl_Face, T.n_kinds, fld_kinds (C := T.C_Face) _, ?_⟩ | refine ⟨_, _, _, _, rfl, T.cl_Face, T.n_funs, fld_funs (C := T.C_Face) _, ?_⟩)
  refine ae_tupI hL0 ?_
  repeat (first | walk_at "q" | refine ⟨_, _, _, _, rfl, T.cl_Face, T.n_kinds, fld_kinds (C := T.C_Face) _, ?_⟩ | refine ⟨_, _, _, _, rfl, T.cl_Face, T.n_funs, fld_funs (C := T.C_Face) _, ?_⟩)
  refine ⟨_, _, rfl, ?_⟩
  rw [← p1]
  repeat (first | walk_at "q" | refine ⟨_, _, _, _, rfl, T.cl_Face, T.n_kinds, fld_kinds (C := T.C_Face) _, ?_⟩ | refine ⟨_, _, _, _, rfl, T.cl_Face, T.n_funs, fld_funs (C := T.C_Face) _, ?_⟩)
  refine ac_tupL rfl ?_
  repeat (first | walk_at "q" | refine ⟨_, _, _, _, rfl, T.cl_Face, T.n_kinds, fld_kinds (C := T.C_Face) _, ?_⟩ | refine ⟨_, _, _, _, rfl, T.cl_Face, T.n_funs, fld_funs (C := T.C_Face) _, ?_⟩)
  refine cq0 (.fr (.fr .nil)) hL ⟨.tup (wsD f.kinds), rfl, Tm_ws hb.lk fun p hp => dk (hb.k p hp).2, ?_⟩
  repeat (first | walk_at "q" | refine ⟨_, _, _, _, rfl, T.cl_Face, T.n_kinds, fld_kinds (C := T.C_Face) _, ?_⟩ | refine ⟨_, _, _, _, rfl, T.cl_Face, T.n_funs, fld_funs (C := T.C_Face) _, ?_⟩)
  refine ae_tupI hL0 ?_
  repeat (first | walk_at "q" | refine ⟨_, _, _, _, rfl, T.cl_Face, T.n_kinds, fld_kinds (C := T.C_Face) _, ?_⟩ | refine ⟨_, _, _, _, rfl, T.cl_Face, T.n_funs, fld_funs (C := T.C_Face) _, ?_⟩)
  refine ⟨_, _, rfl, ?_⟩
  rw [← p2]
  repeat (first | walk_at "q" | refine ⟨_, _, _, _, rfl, T.cl_Face, T.n_kinds, fld_kinds (C := T.C_Face) _, ?_⟩ | refine ⟨_, _, _, _, rfl, T.cl_Face, T.n_funs, fld_funs (C := T.C_Face) _, ?_⟩)
  refine ac_tupL rfl ?_
  repeat (first | walk_at "q" | refine ⟨_, _, _, _, rfl, T.cl_Face, T.n_kinds, fld_kinds (C := T.C_Face) _, ?_⟩ | refine ⟨_, _, _, _, rfl, T.cl_Face, T.n_funs, fld_funs (C := T.C_Face) _, ?_⟩)
  refine cq0 (.fr (.fr .nil)) hL ⟨.tup (fsD f.funs), rfl, Tm_fs hb.lf fun p hp => ⟨(hb.f p hp).1, fun a ha => dk ((hb.f p hp).2.1 a ha), dk (hb.f p hp).2.2⟩, ?_⟩
  exact ⟨[], rfl, rfl, hk⟩
end
end Q
-- text M5
set_option Elab.async false
set_option linter.all false
/-! The mathematics, part 5: laws of put. -/
namespace Q
open PySem
theorem Kd.put_nm (g : Gv) (q t : Str) : (Kd.nm q t).put g = (look g (q, t)).getD (.nm q t) := rfl
theorem Kd.put_congr : ∀ (k : Kd) {g h : Gv}, k.All (fun q t => look g (q, t) = look h (q, t)) → k.put g = k.put h
  | .num _, _, _, _ => rfl
  | .nm q t, g, h, e => by have e : look g (q, t) = look h (q, t) := e; rw [Kd.put_nm, Kd.put_nm, e]
  | .pair a b, g, h, e => by
    show Kd.pair _ _ = Kd.pair _ _
    rw [Kd.put_congr a e.1, Kd.put_congr b e.2]
/-- equal by names -/
theorem Kd.sub_put : ∀ (k : Kd) (φ : Str → Str → Kd) (h : Gv), (k.sub φ).put h = k.sub fun q t => (φ q t).put h
  | .num _, _, _ => rfl
  | .nm _ _, _, _ => rfl
  | .pair a b, φ, h => by
    show Kd.pair _ _ = Kd.pair _ _
    rw [Kd.sub_put a, Kd.sub_put b]
def pφ (g : Gv) (q t : Str) : Kd := (look g (q, t)).getD (.nm q t)
theorem Kd.put_eq (k : Kd) (g : Gv) : k.put g = k.sub (pφ g) := Kd.put_sub k g
theorem Kd.put_put (k : Kd) (g h : Gv) : (k.put g).put h = k.sub fun q t => (pφ g q t).put h := by rw [Kd.put_eq k g, Kd.sub_put]
theorem Kd.sub_nm : ∀ (k : Kd), k.sub .nm = k
  | .num _ => rfl
  | .nm _ _ => rfl
  | .pair a b => by
    show Kd.pair _ _ = _
    rw [Kd.sub_nm a, Kd.sub_nm b]
theorem pφ_some {g : Gv} {q t : Str} {v : Kd} (h : look g (q, t) = some v) : pφ g q t = v := by unfold pφ; rw [h]; rfl
theorem pφ_none {g : Gv} {q t : Str} (h : look g (q, t) = none) : pφ g q t = .nm q t := by unfold pφ; rw [h]; rfl
theorem Kd.put_id (k : Kd) {g : Gv} (h : k.All fun q t => look g (q, t) = none) : k.put g = k := by
  rw [Kd.put_eq]
  exact (Kd.sub_congr k (h.mono _ fun q t e => pφ_none e)).trans (Kd.sub_nm k)
theorem Kd.words_pos : ∀ k : Kd, 1 ≤ k.words
  | .num _ => Nat.le_refl _
  | .nm _ _ => Nat.le_refl _
  | .pair a b => by show 1 ≤ 1 + a.words + b.words; omega
theorem Kd.words_sub : ∀ (k : Kd) (φ : Str → Str → Kd), k.words ≤ (k.sub φ).words
  | .num _, _ => Nat.le_refl _
  | .nm q t, φ => Kd.words_pos (φ q t)
  | .pair a b, φ => by
    have h1 := Kd.words_sub a φ
    have h2 := Kd.words_sub b φ
    show 1 + a.words + b.words ≤ 1 + (a.sub φ).words + (b.sub φ).words
    omega
theorem Kd.words_put (k : Kd) (g : Gv) : k.words ≤ (k.put g).words := by rw [Kd.put_eq]; exact Kd.words_sub k _
theorem Kd.All_sub : ∀ (k : Kd) {φ : Str → Str → Kd} {p : Str → Str → Prop}, k.All (fun q t => (φ q t).All p) → (k.sub φ).All p
  | .num _, _, _, _ => True.intro
  | .nm _ _, _, _, h => h
  | .pair a b, _, _, h => ⟨Kd.All_sub a h.1, Kd.All_sub b h.2⟩
theorem Kd.ok_sub : ∀ (k : Kd) {φ : Str → Str → Kd}, k.All (fun q t => (φ q t).ok = true) → (k.sub φ).ok = true
  | .num _, _, _ => rfl
  | .nm _ _, _, h => h
  | .pair a b, φ, h => by
    show ((a.sub φ).ok && (b.sub φ).ok) = true
    rw [Kd.ok_sub a h.1, Kd.ok_sub b h.2]; rfl
theorem Kd.dep_sub : ∀ (k : Kd) {φ : Str → Str → Kd} {n : Nat}, k.All (fun q t => (φ q t).dep ≤ n) → (k.sub φ).dep ≤ k.dep + n
  | .num _, _, _, _ => Nat.zero_le _
  | .nm _ _, _, n, h => by show _ ≤ 0 + n; rw [Nat.zero_add]; exact h
  | .pair a b, φ, n, h => by
    have h1 := Kd.dep_sub a h.1
    have h2 := Kd.dep_sub b h.2
    show 1 + max (a.sub φ).dep (b.sub φ).dep ≤ 1 + max a.dep b.dep + n
    omega
theorem Kd.all_true : ∀ (k : Kd), k.All fun _ _ => True
  | .num _ => True.intro
  | .nm _ _ => True.intro
  | .pair a b => ⟨Kd.all_true a, Kd.all_true b⟩
theorem Kd.ok_of : ∀ (k : Kd), k.All (fun q t => okS q = true ∧ okS t = true) → k.ok = true
  | .num _, _ => rfl
  | .nm q t, h => by show (okS q && okS t) = true; rw [h.1, h.2]; rfl
  | .pair a b, h => by show (a.ok && b.ok) = true; rw [Kd.ok_of a h.1, Kd.ok_of b h.2]; rfl
/-- no name of one's own -/
abbrev Kd.far (k : Kd) : Prop := k.All fun q _ => q ≠ ""
/-- a dict of names of others, with far kinds -/
structure Nm (N : Gv) : Prop where
  q : ∀ p ∈ N, p.1.1 ≠ "" ∧ okS p.1.1 = true ∧ okS p.1.2 = true
  v : ∀ p ∈ N, p.2.ok = true ∧ p.2.words ≤ 40 ∧ p.2.far
theorem Nm.look {N : Gv} (h : Nm N) {q t : Str} {v : Kd} (e : Q.look N (q, t) = some v) : q ≠ "" ∧ v.ok = true ∧ v.words ≤ 40 ∧ v.far := ⟨(h.q _ (look_mem e)).1, h.v _ (look_mem e)⟩
theorem Nm.own {N : Gv} (h : Nm N) (t : Str) : Q.look N ("", t) = none := by
  cases e : Q.look N ("", t) with
  | none => rfl
  | some v => exact absurd rfl (h.look e).1
theorem Nm.app {N M : Gv} (h : Nm N) (g : Nm M) : Nm (N ++ M) := ⟨fun p hp => (List.mem_append.mp hp).elim (h.q p) (g.q p), fun p hp => (List.mem_append.mp hp).elim (h.v p) (g.v p)⟩
theorem look_app {κ α : Type} [DecidableEq κ] (t : κ) : ∀ (a b : List (κ × α)), look (a ++ b) t = (look a t).or (look b t)
  | [], b => by show look b t = _; simp [look]
  | (k, v) :: a, b => by
    show (if k = t then some v else look (a ++ b) t) = (if k = t then some v else look a t).or (look b t)
    by_cases h : k = t
    · rw [if_pos h, if_pos h]; rfl
    · rw [if_neg h, if_neg h]; exact look_app t a b
theorem look_map2 {κ α β : Type} [DecidableEq κ] (F : α → β) (t : κ) : ∀ l : List (κ × α), look (l.map fun p => (p.1, F p.2)) t = (look l t).map F
  | [] => rfl
  | (k, v) :: l => by
    show (if k = t then some (F v) else look (l.map fun p => (p.1, F p.2)) t) = (if k = t then some v else look l t).map F
    by_cases h : k = t
    · rw [if_pos h, if_pos h]; rfl
    · rw [if_neg h, if_neg h]; exact look_map2 F t l
theorem look_knowG (q : Str) : ∀ (l : List (Str × Kd)) (q' t : Str), look (knowG q l) (q', t) = if q = q' then look l t else none
  | [], q', t => by split <;> rfl
  | (u, k) :: l, q', t => by
    show (if (q, u) = (q', t) then some k else look (knowG q l) (q', t)) = if q = q' then (if u = t then some k else look l t) else none
    rw [look_knowG q l]
    by_cases h : q = q'
    · subst h
      rw [if_pos rfl, if_pos rfl]
      by_cases h2 : u = t
      · subst h2; rw [if_pos rfl, if_pos rfl]
      · rw [if_neg (fun e => h2 (by injection e)), if_neg h2]
    · rw [if_neg h, if_neg (fun e => h (by injection e)), if_neg h]
theorem look_isSome {κ α : Type} [DecidableEq κ] : ∀ {l : List (κ × α)} {t : κ}, t ∈ l.map (·.1) → ∃ v, look l t = some v
  | [], _, h => by cases h
  | (k, v) :: l, t, h => by
    show ∃ w, (if k = t then some v else look l t) = some w
    by_cases e : k = t
    · exact ⟨v, by rw [if_pos e]⟩
    · rw [if_neg e]
      rcases List.mem_cons.mp h with z | z
      · exact absurd z.symm e
      · exact look_isSome z
end Q
-- text M6
set_option Elab.async false
set_option linter.all false
/-! The mathematics, part 6: what the law's data are. -/
namespace Q
open PySem
def Fc.All (p : Str → Str → Prop) (f : Fc) : Prop := (∀ x ∈ f.kinds, x.2.All p) ∧ ∀ x ∈ f.funs, (∀ a ∈ x.2.1, a.All p) ∧ x.2.2.All p
structure FaceOk (ls : List Kd) (f : Fc) : Prop where
  nk : (f.kinds.map (·.1)).Nodup
  nf : (f.funs.map (·.1)).Nodup
  lk : f.kinds.length ≤ 7
  lf : f.funs.length ≤ 3
  wk : ∀ p ∈ f.kinds, okW p.1
  wf : ∀ p ∈ f.funs, okW p.1 ∧ p.2.1.length ≤ 4
  sk : ∀ p ∈ f.kinds, p.2.words ≤ 7
  sf : ∀ p ∈ f.funs, (∀ a ∈ p.2.1, a.words ≤ 7) ∧ p.2.2.words ≤ 7
  a : f.All fun q t => (q = "" ∧ t ∈ hidK f.kinds) ∨ Kd.nm q t ∈ ls
def hidL (h : List Str) (ls : List Kd) : List Kd := h.map (Kd.nm "") ++ ls
theorem hidL_mem {h : List Str} {ls : List Kd} {q t : Str} (e : Kd.nm q t ∈ hidL h ls) : (q = "" ∧ t ∈ h) ∨ Kd.nm q t ∈ ls := by
  rcases List.mem_append.mp e with z | z
  · obtain ⟨u, hu, e⟩ := List.mem_map.mp z
    injection e with e1 e2
    subst e1; subst e2
    exact .inl ⟨rfl, hu⟩
  · exact .inr z
end Q
-- text M7
set_option Elab.async false
set_option linter.all false
/-! The mathematics, part 7: faces put, names known. -/
namespace Q
open PySem
structure LsOk (w0 : Str) (ls : List Kd) : Prop where
  ne : w0 ≠ ""
  ok : okS w0 = true
  k : ∀ k ∈ ls, ∃ t, k = .nm w0 t ∧ okS t = true
  l : ls.length ≤ 100
theorem LsOk.nm {w0 : Str} {ls : List Kd} (h : LsOk w0 ls) {q t : Str} (m : Kd.nm q t ∈ ls) : q = w0 ∧ okS t = true := by
  obtain ⟨u, e, o⟩ := h.k _ m
  injection e with e1 e2
  subst e1; subst e2
  exact ⟨rfl, o⟩
/-- a dict of kinds that are well formed -/
structure Gk (n : Nat) (g : Gv) : Prop where
  v : ∀ p ∈ g, p.2.ok = true ∧ p.2.dep ≤ n
theorem Gk.look {n : Nat} {g : Gv} (h : Gk n g) {p : Str × Str} {v : Kd} (e : Q.look g p = some v) : v.ok = true ∧ v.dep ≤ n := h.v _ (look_mem e)
theorem pφ_ok {n : Nat} {g : Gv} (h : Gk n g) {q t : Str} (hq : okS q = true) (ht : okS t = true) : (pφ g q t).ok = true ∧ (pφ g q t).dep ≤ n := by
  unfold pφ
  cases e : look g (q, t) with
  | none => exact ⟨by show (okS q && okS t) = true; rw [hq, ht]; rfl, Nat.zero_le _⟩
  | some v => exact h.look e
theorem put_G {k : Kd} {n : Nat} {g : Gv} (hk : k.ok = true) (h : Gk n g) : (k.put g).ok = true ∧ (k.put g).dep ≤ k.dep + n := by
  rw [Kd.put_eq]
  exact ⟨Kd.ok_sub k ((k.ok_all hk).mono _ fun q t z => (pφ_ok h z.1 z.2).1), Kd.dep_sub k ((k.ok_all hk).mono _ fun q t z => (pφ_ok h z.1 z.2).2)⟩
/-- faces with bounded depth -/
structure Fc.W (n : Nat) (f : Fc) : Prop where
  nk : (f.kinds.map (·.1)).Nodup
  nf : (f.funs.map (·.1)).Nodup
  lk : f.kinds.length ≤ 50
  lf : f.funs.length ≤ 50
  k : ∀ p ∈ f.kinds, okS p.1 = true ∧ p.2.ok = true ∧ p.2.dep ≤ n
  f : ∀ p ∈ f.funs, p.2.1.length ≤ 50 ∧ (∀ a ∈ p.2.1, a.ok = true ∧ a.dep ≤ n) ∧ p.2.2.ok = true ∧ p.2.2.dep ≤ n
theorem Fc.W.V {n : Nat} {f : Fc} (h : f.W n) (hn : n < 60) : f.V := ⟨h.nk, h.nf, h.lk, h.lf, fun p hp => ⟨(h.k p hp).1, (h.k p hp).2.1, Nat.lt_of_le_of_lt (h.k p hp).2.2 hn⟩, fun p hp => ⟨(h.f p hp).1, fun a ha => ⟨((h.f p hp).2.1 a ha).1, Nat.lt_of_le_of_lt ((h.f p hp).2.1 a ha).2 hn⟩, (h.f p hp).2.2.1, Nat.lt_of_le_of_lt (h.f p hp).2.2.2 hn⟩⟩
theorem Fc.W.put {n m : Nat} {f : Fc} {g : Gv} (h : f.W n) (hg : Gk m g) : (f.put g).W (n + m) := by
  refine ⟨by rw [Fc.put_def]; show ((putK g f.kinds).map (·.1)).Nodup; rw [putK_keys]; exact h.nk, by rw [Fc.put_def]; show ((putF g f.funs).map (·.1)).Nodup; rw [putF_keys]; exact h.nf, by rw [Fc.put_def]; show (putK g f.kinds).length ≤ 50; unfold putK; rw [List.length_map]; exact h.lk, by rw [Fc.put_def]; show (putF g f.funs).length ≤ 50; unfold putF; rw [List.length_map]; exact h.lf, fun p hp => ?_, fun p hp => ?_⟩
  · obtain ⟨x, hx, rfl⟩ := List.mem_map.mp hp
    obtain ⟨a, b, c⟩ := h.k x hx
    have := put_G b hg
    exact ⟨a, this.1, by have := this.2; show (x.2.put g).dep ≤ n + m; omega⟩
  · obtain ⟨x, hx, rfl⟩ := List.mem_map.mp hp
    obtain ⟨a, b, c, d⟩ := h.f x hx
    refine ⟨by show (x.2.1.map (Kd.put g)).length ≤ 50; rw [List.length_map]; exact a, fun y hy => ?_, (put_G c hg).1, by have := (put_G c hg).2; show (x.2.2.put g).dep ≤ n + m; omega⟩
    obtain ⟨z, hz, rfl⟩ := List.mem_map.mp hy
    have := put_G (b z hz).1 hg
    exact ⟨this.1, by have h2 := this.2; have h3 := (b z hz).2; omega⟩
theorem FaceOk.W {w0 : Str} {ls : List Kd} {f : Fc} (h : FaceOk ls f) (hl : LsOk w0 ls) : f.W 6 := by
  have ok : ∀ k : Kd, k.All (fun q t => (q = "" ∧ t ∈ hidK f.kinds) ∨ Kd.nm q t ∈ ls) → k.ok = true := fun k hk => Kd.ok_of k (hk.mono _ fun q t z => by
    rcases z with ⟨rfl, z⟩ | z
    · exact ⟨by decide +kernel, (h.wk _ (hidK_mem.mp z)).s⟩
    · obtain ⟨rfl, o⟩ := hl.nm z; exact ⟨hl.ok, o⟩)
  refine ⟨h.nk, h.nf, by have := h.lk; omega, by have := h.lf; omega, fun p hp => ⟨(h.wk p hp).s, ok _ (h.a.1 p hp), by have := h.sk p hp; have := p.2.dep_le; omega⟩, fun p hp => ⟨by have := (h.wf p hp).2; omega, fun a ha => ⟨ok _ ((h.a.2 p hp).1 a ha), by have := (h.sf p hp).1 a ha; have := a.dep_le; omega⟩, ok _ (h.a.2 p hp).2, by have := (h.sf p hp).2; have := p.2.2.dep_le; omega⟩⟩
/-- own names are hidden kinds -/
def Fc.cl (f : Fc) : Prop := f.All fun q t => q = "" → t ∈ hidK f.kinds
theorem Fc.All.mono {f : Fc} {p q : Str → Str → Prop} (h : f.All p) (g : ∀ a b, p a b → q a b) : f.All q := ⟨fun x hx => (h.1 x hx).mono _ g, fun x hx => ⟨fun a ha => ((h.2 x hx).1 a ha).mono _ g, (h.2 x hx).2.mono _ g⟩⟩
theorem Fc.All.put {f : Fc} {g : Gv} {p q : Str → Str → Prop} (h : f.All p) (hpq : ∀ a b, p a b → (pφ g a b).All q) : (f.put g).All q := by
  have st : ∀ k : Kd, k.All p → (k.put g).All q := fun k hk => by rw [Kd.put_eq]; exact Kd.All_sub k (hk.mono _ hpq)
  refine ⟨fun x hx => ?_, fun x hx => ?_⟩
  · obtain ⟨y, hy, rfl⟩ := List.mem_map.mp hx
    exact st _ (h.1 y hy)
  · obtain ⟨y, hy, rfl⟩ := List.mem_map.mp hx
    refine ⟨fun a ha => ?_, st _ (h.2 y hy).2⟩
    obtain ⟨z, hz, rfl⟩ := List.mem_map.mp ha
    exact st _ ((h.2 y hy).1 z hz)
theorem FaceOk.cl {w0 : Str} {ls : List Kd} {f : Fc} (h : FaceOk ls f) (hl : LsOk w0 ls) : f.cl := h.a.mono fun q t z e => by
  rcases z with z | z
  · exact z.2
  · exact absurd ((hl.nm z).1.symm.trans e) hl.ne
theorem hid_put {f : Fc} {g : Gv} {t : Str} (h : t ∈ hidK f.kinds) (n : look g ("", t) = none) : t ∈ hidK (f.put g).kinds := by
  refine hidK_mem.mpr (List.mem_map.mpr ⟨_, hidK_mem.mp h, ?_⟩)
  show (t, (look g ("", t)).getD (Kd.nm "" t)) = _
  rw [n]; rfl
theorem Fc.cl.put {f : Fc} {g : Gv} (h : f.cl) (hv : ∀ p ∈ g, p.2.far) : (f.put g).cl := by
  refine Fc.All.put h fun q t z => ?_
  unfold pφ
  cases e : look g (q, t) with
  | some v => exact (hv _ (look_mem e)).mono _ fun a b na ea => absurd ea na
  | none =>
    show q = "" → t ∈ hidK (f.put g).kinds
    rintro rfl
    exact hid_put (z rfl) e
theorem look_wG (q : Str) (φ : Str → Kd) : ∀ (l : List Str) (q' t : Str), look (wG q φ l) (q', t) = if q = q' ∧ t ∈ l then some (φ t) else none
  | [], q', t => by rw [if_neg (by simp)]; rfl
  | u :: l, q', t => by
    show (if (q, u) = (q', t) then some (φ u) else look (wG q φ l) (q', t)) = _
    rw [look_wG q φ l]
    by_cases h : q = q'
    · subst h
      by_cases h2 : u = t
      · subst h2
        rw [if_pos rfl, if_pos ⟨rfl, List.mem_cons_self ..⟩]
      · rw [if_neg (fun e => h2 (by injection e))]
        by_cases h3 : t ∈ l
        · rw [if_pos ⟨rfl, h3⟩, if_pos ⟨rfl, List.mem_cons_of_mem _ h3⟩]
        · rw [if_neg (fun e => h3 e.2), if_neg (fun e => (List.mem_cons.mp e.2).elim (fun z => h2 z.symm) h3)]
    · rw [if_neg (fun e => h (by injection e)), if_neg (fun e => h e.1), if_neg (fun e => h e.1)]
theorem pφ_hide (q : Str) (f : Fc) (a t : Str) : pφ (hideG q f) a t = if a = "" ∧ t ∈ hidK f.kinds then .nm q t else .nm a t := by
  unfold pφ
  rw [hideG_w, look_wG]
  by_cases h : a = "" ∧ t ∈ hidK f.kinds
  · rw [if_pos h, if_pos ⟨h.1.symm, h.2⟩]; rfl
  · rw [if_neg h, if_neg (fun z => h ⟨z.1.symm, z.2⟩)]; rfl
theorem Kd.words_sub1 : ∀ (k : Kd) {φ : Str → Str → Kd}, (∀ q t, (φ q t).words = 1) → (k.sub φ).words = k.words
  | .num _, _, _ => rfl
  | .nm q t, _, h => h q t
  | .pair a b, φ, h => by
    show 1 + (a.sub φ).words + (b.sub φ).words = 1 + a.words + b.words
    rw [Kd.words_sub1 a h, Kd.words_sub1 b h]
theorem hide_words (q : Str) (f : Fc) (k : Kd) : (k.put (hideG q f)).words = k.words := by
  rw [Kd.put_eq]
  exact Kd.words_sub1 k fun a t => by rw [pφ_hide]; split <;> rfl
theorem hidF_far {q : Str} (hq : q ≠ "") {f : Fc} (h : f.cl) : (hidF q f).All fun a _ => a ≠ "" := by
  refine Fc.All.put h fun a t z => ?_
  rw [pφ_hide]
  by_cases e : a = "" ∧ t ∈ hidK f.kinds
  · rw [if_pos e]; exact hq
  · rw [if_neg e]
    exact fun ea => e ⟨ea, z ea⟩
theorem hideG_k {q : Str} (hq : okS q = true) {f : Fc} (hf : ∀ p ∈ f.kinds, okS p.1 = true) : Gk 0 (hideG q f) := ⟨fun p hp => by
  obtain ⟨t, ht, rfl⟩ := List.mem_map.mp hp
  exact ⟨by show (okS q && okS t) = true; rw [hq, hf _ (hidK_mem.mp ht)]; rfl, Nat.le_refl _⟩⟩
theorem hid_sm {q : Str} {f : Fc} (h : f.sm) : (hidF q f).sm := by
  refine ⟨fun p hp => ?_, fun p hp => ?_⟩
  · obtain ⟨y, hy, rfl⟩ := List.mem_map.mp hp
    show (y.2.put (hideG q f)).words ≤ 40
    rw [hide_words]; exact h.k y hy
  · obtain ⟨y, hy, rfl⟩ := List.mem_map.mp hp
    refine ⟨fun a ha => ?_, ?_⟩
    · obtain ⟨z, hz, rfl⟩ := List.mem_map.mp ha
      rw [hide_words]; exact (h.f y hy).1 z hz
    · show (y.2.2.put (hideG q f)).words ≤ 40
      rw [hide_words]; exact (h.f y hy).2
theorem know_Nm {n : Nat} {x : Str} (hx : x ≠ "") (ox : okS x = true) {f : Fc} (hw : f.W n) (hs : f.sm) (hc : f.cl) : Nm (knowG x (hidF x f).kinds) := by
  have w := hw.put (hideG_k ox fun p hp => (hw.k p hp).1)
  have s := hid_sm (q := x) hs
  have a := hidF_far hx hc
  refine ⟨fun p hp => ?_, fun p hp => ?_⟩
  · obtain ⟨y, hy, rfl⟩ := List.mem_map.mp hp
    exact ⟨hx, ox, (w.k y hy).1⟩
  · obtain ⟨y, hy, rfl⟩ := List.mem_map.mp hp
    exact ⟨(w.k y hy).2.1, s.k y hy, a.1 y hy⟩
/-! rows of formals -/
structure FRow where
  x : Str
  wd : Str
  fc : Fc
  ws : List (Str × Kd)
  want : Fc
def wpG (N : Gv) (ws : List (Str × Kd)) : Gv := ws.map fun p => (("", p.1), p.2.put N)
structure RowOk (N : Gv) (r : FRow) : Prop where
  want : r.want = r.fc.put (wpG N r.ws)
  nd : (r.ws.map (·.1)).Nodup
  sub : ∀ p ∈ r.ws, p.1 ∈ hidK r.fc.kinds
  ws : ∀ p ∈ r.ws, p.2.words ≤ 3 ∧ p.2.All fun q t => (q, t) ∈ N.map (·.1)
  sm : r.want.sm
def nmsAt (N : Gv) (rows : List FRow) : Gv := N ++ rows.flatMap fun r => knowG r.x (hidF r.x r.want).kinds
theorem nmsAt_more {N : Gv} {rows : List FRow} {r : FRow} : nmsAt N (rows ++ [r]) = nmsAt N rows ++ knowG r.x (hidF r.x r.want).kinds := by
  unfold nmsAt
  rw [List.flatMap_append, ← List.append_assoc]
  simp
/-- a kind over the names that are known -/
theorem over_put {N : Gv} (h : Nm N) {k : Kd} (a : k.All fun q t => (q, t) ∈ N.map (·.1)) : (k.put N).ok = true ∧ (k.put N).dep ≤ k.dep + 39 ∧ (k.put N).far := by
  have st : ∀ q t, (q, t) ∈ N.map (·.1) → (pφ N q t).ok = true ∧ (pφ N q t).dep ≤ 39 ∧ (pφ N q t).far := fun q t m => by
    obtain ⟨v, e⟩ := look_isSome m
    rw [pφ_some e]
    obtain ⟨_, b, c, d⟩ := h.look e
    exact ⟨b, by have := v.dep_le; omega, d⟩
  rw [Kd.put_eq]
  exact ⟨Kd.ok_sub k (a.mono _ fun q t m => (st q t m).1), Kd.dep_sub k (a.mono _ fun q t m => (st q t m).2.1), Kd.All_sub k (a.mono _ fun q t m => (st q t m).2.2)⟩
theorem wpG_k {N : Gv} (h : Nm N) {ws : List (Str × Kd)} (hw : ∀ p ∈ ws, p.2.words ≤ 3 ∧ p.2.All fun q t => (q, t) ∈ N.map (·.1)) : Gk 41 (wpG N ws) ∧ ∀ p ∈ wpG N ws, p.2.far := by
  refine ⟨⟨fun p hp => ?_⟩, fun p hp => ?_⟩ <;> obtain ⟨y, hy, rfl⟩ := List.mem_map.mp hp <;> obtain ⟨a, b, c⟩ := over_put h (hw y hy).2
  · exact ⟨a, by have := (hw y hy).1; have := y.2.dep_le; show (y.2.put N).dep ≤ 41; omega⟩
  · exact c
theorem RowOk.W {w0 : Str} {ls : List Kd} {N : Gv} {r : FRow} (h : RowOk N r) (hN : Nm N) (hf : FaceOk ls r.fc) (hl : LsOk w0 ls) : r.want.W 47 ∧ r.want.cl := by
  obtain ⟨a, b⟩ := wpG_k hN h.ws
  rw [h.want]
  exact ⟨(hf.W hl).put a, (hf.cl hl).put b⟩
end Q
-- text M8
set_option Elab.async false
set_option linter.all false
/-! The mathematics, part 8: the formals. -/
namespace Q
open PySem
structure FormsOk (W : List Str) (ls : List Kd) (f0 f1 : Fc) (N : Gv) (rows : List FRow) : Prop where
  l : rows.length ≤ 4
  r : ∀ i r, rows[i]? = some r → RowOk (nmsAt N (rows.take i)) r ∧ W[1 + i]? = some r.x ∧ ((W[6]? = some r.wd ∧ r.fc = f0) ∨ (W[8]? = some r.wd ∧ r.fc = f1))
structure WsOk (W : List Str) : Prop where
  l : W.length = 13
  nd : W.Nodup
  k : ∀ w ∈ W, okW w
theorem WsOk.get {W : List Str} (h : WsOk W) {i : Nat} (hi : i < 13) : ∃ w, W[i]? = some w ∧ okW w := ⟨W[i]'(by rw [h.l]; exact hi), List.getElem?_eq_getElem _, h.k _ (List.getElem_mem _)⟩
theorem WsOk.ne {W : List Str} (h : WsOk W) {i j : Nat} {a b : Str} (ea : W[i]? = some a) (eb : W[j]? = some b) (n : i ≠ j) : a ≠ b := by
  rintro rfl
  obtain ⟨hi, e1⟩ := List.getElem?_eq_some_iff.mp ea
  obtain ⟨hj, e2⟩ := List.getElem?_eq_some_iff.mp eb
  exact n ((List.getElem_inj h.nd).mp (e1.trans e2.symm))
theorem nmsAt_q {N : Gv} {w0 : Str} (h0 : ∀ p ∈ N, p.1.1 = w0) {rows : List FRow} {p : (Str × Str) × Kd} (hp : p ∈ nmsAt N rows) : p.1.1 = w0 ∨ ∃ (j : Nat) (r : FRow), rows[j]? = some r ∧ p.1.1 = r.x := by
  rcases List.mem_append.mp hp with z | z
  · exact .inl (h0 p z)
  · obtain ⟨r, hr, hp⟩ := List.mem_flatMap.mp z
    obtain ⟨j, hj⟩ := List.mem_iff_getElem?.mp hr
    obtain ⟨y, _, rfl⟩ := List.mem_map.mp hp
    exact .inr ⟨j, r, hj, rfl⟩
theorem nmsAt_len {N : Gv} : ∀ (rows : List FRow), (∀ r ∈ rows, r.want.kinds.length ≤ 7) → (nmsAt N rows).length ≤ N.length + 7 * rows.length
  | [], _ => by unfold nmsAt; simp
  | r :: rows, h => by
    have ih := nmsAt_len (N := N) rows fun x hx => h x (List.mem_cons_of_mem _ hx)
    have h1 := h r (List.mem_cons_self ..)
    unfold nmsAt at ih ⊢
    have e : (knowG r.x (hidF r.x r.want).kinds).length = r.want.kinds.length := by
      unfold knowG hidF
      rw [List.length_map, Fc.put_def]
      show (putK _ _).length = _
      unfold putK
      rw [List.length_map]
    rw [List.flatMap_cons, List.length_append, List.length_append, e, List.length_cons]
    rw [List.length_append] at ih
    omega
theorem RowOk.len {N : Gv} {r : FRow} {ls : List Kd} (h : RowOk N r) (hf : FaceOk ls r.fc) : r.want.kinds.length ≤ 7 := by
  rw [h.want, Fc.put_def]
  show (putK _ _).length ≤ 7
  unfold putK
  rw [List.length_map]
  exact hf.lk
section
variable {W : List Str} {ls : List Kd} {f0 f1 : Fc} {N : Gv} {rows : List FRow} {w0 : Str}
theorem FormsOk.face (h : FormsOk W ls f0 f1 N rows) (h0 : FaceOk ls f0) (h1 : FaceOk ls f1) {i : Nat} {r : FRow} (e : rows[i]? = some r) : FaceOk ls r.fc := by
  rcases (h.r i r e).2.2 with z | z <;> rw [z.2] <;> assumption
theorem FormsOk.Nm (hW : WsOk W) (e0 : W[0]? = some w0) (hl : LsOk w0 ls) (hN : Nm N) (h0 : FaceOk ls f0) (h1 : FaceOk ls f1) : ∀ (rows : List FRow), FormsOk W ls f0 f1 N rows → ∀ i, i ≤ rows.length → Q.Nm (nmsAt N (rows.take i)) := fun rows h i => by
  induction i with
  | zero => intro _; rw [List.take_zero]; unfold nmsAt; simpa using hN
  | succ i ih =>
    intro hi
    have e : rows[i]? = some rows[i] := List.getElem?_eq_getElem (by omega)
    have ih := ih (by omega)
    obtain ⟨a, b, c⟩ := h.r i _ e
    obtain ⟨w1, w2⟩ := a.W ih (h.face h0 h1 e) hl
    rw [take_more e, nmsAt_more]
    have ox := hW.k _ (List.mem_of_getElem? b)
    exact ih.app (know_Nm ox.ne ox.s w1 a.sm w2)
theorem FormsOk.fresh (hW : WsOk W) (e0 : W[0]? = some w0) (hq : ∀ p ∈ N, p.1.1 = w0) (h : FormsOk W ls f0 f1 N rows) {k : Nat} (hk : rows.length ≤ k) {x : Str} (ex : W[1 + k]? = some x) : ∀ p ∈ nmsAt N rows, p.1.1 ≠ x := fun p hp e => by
  rcases nmsAt_q hq hp with z | ⟨j, r, hj, z⟩
  · exact hW.ne e0 ex (by omega) (z.symm.trans e)
  · have hjl := (List.getElem?_eq_some_iff.mp hj).1
    exact hW.ne (h.r j r hj).2.1 ex (by omega) (z.symm.trans e)
end
theorem Fc.put_nil (f : Fc) : f.put [] = f := by
  have e : ∀ k : Kd, k.put [] = k := fun k => Kd.put_id k ((Kd.all_true k).mono _ fun _ _ _ => rfl)
  have h1 : putK [] f.kinds = f.kinds := by
    unfold putK
    exact (List.map_congr_left fun p _ => by rw [e]).trans (List.map_id' _)
  have h2 : putF [] f.funs = f.funs := by
    unfold putF
    refine (List.map_congr_left fun p _ => ?_).trans (List.map_id' _)
    have h3 : p.2.1.map (Kd.put []) = p.2.1 := (List.map_congr_left fun a _ => e a).trans (List.map_id' _)
    show (p.1, (p.2.1.map (Kd.put []), p.2.2.put [])) = p
    rw [h3, e]
  rw [Fc.put_def, h1, h2]
theorem FaceOk.sm {ls : List Kd} {f : Fc} (h : FaceOk ls f) : f.sm := ⟨fun p hp => by have := h.sk p hp; omega, fun p hp => ⟨fun a ha => by have := (h.sf p hp).1 a ha; omega, by have := (h.sf p hp).2; omega⟩⟩
end Q
-- text C9
set_option Elab.async false
set_option linter.all false
set_option maxRecDepth 100000
set_option maxHeartbeats 4000000
namespace Q
open PySem PySem.Spec PyProof.Rows L2
local macro_rules | `(tactic| walk_at "q") => `(tactic| (first
  | with_reducible refine as_seq ?_ | with_reducible refine as_ret ?_ | with_reducible refine as_if ?_ | with_reducible refine as_deal ?_ | with_reducible refine as_asg ?_ | with_reducible refine as_drop ?_ | with_reducible refine as_dput ?_
  | with_reducible refine at_test ?_ | with_reducible refine at_B ?_ | with_reducible refine at_not ?_ | with_reducible refine at_and ?_ | with_reducible refine at_or ?_
  | with_reducible refine ae_op ?_ | with_reducible refine ae_c ?_ | with_reducible refine ae_andV ?_ | with_reducible refine ae_notV ?_ | with_reducible refine ae_join ?_ | with_reducible refine ae_index ?_ | with_reducible refine ae_from1 ?_ | refine ae_un (i := 0) ?_ | refine ae_var rfl ?_ | refine ae_rd rfl ?_ | refine ae_mt rfl ?_ | with_reducible refine ae_call ?_ | with_reducible refine ae_tup ?_ | with_reducible refine ae_fld ?_ | with_reducible refine ae_cb ?_
  | with_reducible refine aa_nil ?_ | with_reducible refine aa_cons ?_
  | with_reducible refine ae_dget ?_ | with_reducible refine ae_dget2 ?_ | with_reducible refine ae_dget1 ?_ | with_reducible refine ae_din ?_ | with_reducible refine ae_dnotin ?_ | with_reducible refine ae_newK ?_ | with_reducible refine ae_newT ?_ | with_reducible refine ae_lst ?_
  | with_reducible refine ae_meth ?_ | with_reducible refine ct_yes ?_ | with_reducible refine ct_if ?_
  | refine ar_ixT rfl rfl ?_ | refine ar_ixL rfl rfl ?_ | refine ar_II ?_ | refine ar_eq rfl ?_
  | refine itT (by decide +kernel) ?_ | refine itF (by decide +kernel) ?_ | refine itF Bool.false_ne_true ?_ | refine itT rfl ?_
  | refine ⟨.inr ⟨_, _, rfl⟩, ?_⟩ | refine ⟨.inl ⟨_, _, rfl⟩, ?_⟩ | refine ⟨_, _, .T rfl, rfl, ?_⟩ | refine ⟨_, rfl, ?_⟩ | refine ⟨[_, _], rfl, Nat.le_of_ble_eq_true rfl, ?_⟩ | refine ⟨[_, _, _], rfl, Nat.le_of_ble_eq_true rfl, ?_⟩ | refine ⟨[], rfl, Nat.le_of_ble_eq_true rfl, ?_⟩ | refine ⟨[_], rfl, Nat.le_of_ble_eq_true rfl, ?_⟩
  | with_reducible refine as_forL ?_ | with_reducible refine as_forT ?_ | with_reducible refine as_forR ?_ | refine ae_app (ae_pl rfl rfl ⟨_, rfl, ⟨_, rfl⟩, ?_⟩) | refine ae_ins (ae_pl rfl rfl ⟨_, rfl, ⟨_, rfl⟩, ?_⟩) | refine ag_rd rfl ?_ | refine ag_name ?_ | refine ag_own ?_ | refine ag_tup rfl (ags_cons (ags_cons (ags_nil ?_))) | with_reducible refine as_next ?_))
def S_face : Spec := fun pm kk => ∃ (pool : List Str) (ls : List Kd), pm = [.fr .deal, .mt (.lst (pool.map tD)), .rd (.lst (ls.map Kd.d))] ∧ (∀ w ∈ pool, okW w) ∧ pool.length ≤ 900 ∧ ls.length ≤ 100 ∧ (∀ k ∈ ls, ∃ q t, k = .nm q t) ∧
  ∀ (f : Fc) (pool' : List Str), FaceOk ls f → (∀ w ∈ pool', okW w) → pool'.length ≤ pool.length + 20 → kk (.v f.l) [.lst (pool'.map tD)]
theorem hidL_nm {h : List Str} {ls : List Kd} (hn : ∀ k ∈ ls, ∃ q t, k = Kd.nm q t) : ∀ k ∈ hidL h ls, ∃ q t, k = Kd.nm q t := fun k hk => by
  rcases List.mem_append.mp hk with z | z
  · obtain ⟨u, _, e⟩ := List.mem_map.mp z
    exact ⟨"", u, e.symm⟩
  · exact hn k z
section
variable {P : Program} {w : World} {K : PySem.W.Frag} {mg : Str → Option Value} {base : Heap}
theorem ok_l_face {f : Addr} {fd : FuncData} (T : Txt K mg) (F : Fun K "_law_face" "_law_face" s_l_face f fd) (c_l_draw : Callee P w K mg base 1 "_law_draw" p_l_draw [] false S_draw) (c_l_word : Callee P w K mg base 3 "_law_word" p_l_word [] false S_word)
    (c_l_kind : Callee P w K mg base 110 "_law_kind" p_l_kind [] false (S_kind 10)) :
    FnOk P w K mg base CX0 111 f fd p_l_face (spOf false S_face) := by
  refine fun_ok F sc_l_face (by decide) (fun pm k h => by obtain ⟨_, _, rfl, _⟩ := h; rfl) (fun cdv A outer s H X hr => ⟨_, (pss_cons (ps_set (i := 3) sc_l_face.nd rfl (Or.inr rfl) (pe_lst pa_nil))
    (pss_cons (ps_setLc (i := 4) (own := [("_law_k", 7)]) (g := gName 7) (tt := tYes) (by rfl) sc_l_face.nd rfl rfl (sw_true rfl rfl rfl (by decide +kernel)) (pi_range1 (by rfl) T.z_range (pa_cons (pe_cal c_l_draw (hr.mono (by omega)) (by rfl) (pa_cons (pv 0) (pa_cons pe_int pa_nil))) pa_nil)) (blkOk_by (N := n_l_face) (sc := defScope s_l_face) (by decide +kernel))
        (fun _ _ _ _ _ => (pg_name (i := 7) sc_l_face.nd rfl (Or.inl rfl))) (fun _ _ _ _ _ => pts_nil)
        (fun _ _ _ _ _ => (pe_cal c_l_word (hr.mono (by omega)) (by rfl) (pa_cons (pv 0) (pa_cons (pv 1) (pa_cons (pv 3) pa_nil))))))
    (pss_cons (ps_set (i := 5) sc_l_face.nd rfl (Or.inr rfl) (pe_op op_cat (pe_lc (own := [("_law_word_here", 8)]) (g := gName 8) (tt := tYes) (by rfl) sc_l_face.nd (pi_list (pv 4)) (blkOk_by (N := n_l_face) (sc := defScope s_l_face) (by decide +kernel))
        (fun _ _ _ _ _ => (pg_name (i := 8) sc_l_face.nd rfl (Or.inl rfl))) (fun _ _ _ _ _ => pts_nil)
        (fun _ _ _ _ _ => (pe_tup (pa_cons pe_str (pa_cons pe_str (pa_cons (pv 8) pa_nil)))))) (pv 2)))
    (pss_cons (ps_setLc (i := 6) (own := [("_law_word_here", 8)]) (g := gName 8) (tt := tYes) (by rfl) sc_l_face.nd rfl rfl (sw_true rfl rfl rfl (by decide +kernel)) (pi_list (pv 4)) (blkOk_by (N := n_l_face) (sc := defScope s_l_face) (by decide +kernel))
        (fun _ _ _ _ _ => (pg_name (i := 8) sc_l_face.nd rfl (Or.inl rfl))) (fun _ _ _ _ _ => pts_nil)
        (fun _ _ _ _ _ => (pe_tup (pa_cons (pv 8) (pa_cons (pe_tup (pa_cons pe_str (pa_cons pe_str (pa_cons (pv 8) pa_nil)))) pa_nil)))))
    (pss_cons (ps_for PassesOwn.never rfl (pi_range1 (by rfl) T.z_range (pa_cons (pe_cal c_l_draw (hr.mono (by omega)) (by rfl) (pa_cons (pv 0) (pa_cons pe_int pa_nil))) pa_nil)) (pg_name (i := 7) sc_l_face.nd rfl (Or.inl rfl))
    (pss_cons (ps_set (i := 8) sc_l_face.nd rfl (Or.inl rfl) (pe_cal c_l_word (hr.mono (by omega)) (by rfl) (pa_cons (pv 0) (pa_cons (pv 1) (pa_cons (pv 3) pa_nil)))))
    (pss_one (ps_expr (pe_bm PySem.F.plainAttrs_list PySem.F.slot_list_insert PySem.F.type_list_insert mt_insertQ (pv 6) (pa_cons (pe_cal c_l_draw (hr.mono (by omega)) (by rfl) (pa_cons (pv 0) (pa_cons (pe_op op_add (pe_callB call_len_seq (by rfl) T.z_len PySem.boot_len (pa_cons (pv 6) pa_nil)) pe_int) pa_nil))) (pa_cons (pe_tup (pa_cons (pv 8) (pa_cons (pe_cal c_l_kind (hr.mono (by omega)) (by rfl) (pa_cons (pv 0) (pa_cons (pv 5) (pa_cons pe_int pa_nil)))) pa_nil))) pa_nil)))))))
    (pss_cons (ps_set (i := 9) sc_l_face.nd rfl (Or.inl rfl) (pe_lst pa_nil))
    (pss_cons (ps_set (i := 3) sc_l_face.nd rfl (Or.inr rfl) (pe_lst pa_nil))
    (pss_cons (ps_for PassesOwn.never rfl (pi_range1 (by rfl) T.z_range (pa_cons (pe_cal c_l_draw (hr.mono (by omega)) (by rfl) (pa_cons (pv 0) (pa_cons pe_int pa_nil))) pa_nil)) (pg_name (i := 7) sc_l_face.nd rfl (Or.inl rfl))
    (pss_cons (ps_set (i := 10) sc_l_face.nd rfl (Or.inl rfl) (pe_callTy call_tuple_of (by rfl) T.z_tuple (by decide +kernel) (pa_cons (pe_lc (own := [("_law_j", 12)]) (g := gName 12) (tt := tYes) (by rfl) sc_l_face.nd (pi_range1 (by rfl) T.z_range (pa_cons (pe_cal c_l_draw (hr.mono (by omega)) (by rfl) (pa_cons (pv 0) (pa_cons pe_int pa_nil))) pa_nil)) (blkOk_by (N := n_l_face) (sc := defScope s_l_face) (by decide +kernel))
        (fun _ _ _ _ _ => (pg_name (i := 12) sc_l_face.nd rfl (Or.inl rfl))) (fun _ _ _ _ _ => pts_nil)
        (fun _ _ _ _ _ => (pe_cal c_l_kind (hr.mono (by omega)) (by rfl) (pa_cons (pv 0) (pa_cons (pv 5) (pa_cons pe_int pa_nil)))))) pa_nil)))
    (pss_cons (ps_set (i := 11) sc_l_face.nd rfl (Or.inl rfl) (pe_cal c_l_word (hr.mono (by omega)) (by rfl) (pa_cons (pv 0) (pa_cons (pv 1) (pa_cons (pv 3) pa_nil)))))
    (pss_one (ps_expr (pe_bm PySem.F.plainAttrs_list PySem.F.slot_list_append PySem.F.type_list_append mt_append (pv 9) (pa_cons (pe_tup (pa_cons (pv 11) (pa_cons (pe_tup (pa_cons (pv 10) (pa_cons (pe_cal c_l_kind (hr.mono (by omega)) (by rfl) (pa_cons (pv 0) (pa_cons (pv 5) (pa_cons pe_int pa_nil)))) pa_nil))) pa_nil))) pa_nil)))))))
    (pss_one (ps_ret (pe_tup (pa_cons (pv 6) (pa_cons (pv 9) pa_nil))))))))))))), ?_⟩)
  rintro L hL pm av kk ⟨pool, ls, rfl, hp, lp, ll, hn, hk⟩
  refine as_seq ?_
  repeat ((fail_if_success (with_reducible refine as_seq ?_)); walk_at "q")
  refine as_seq ?_
  repeat ((fail_if_success (with_reducible refine as_seq ?_)); walk_at "q")
  refine ae_lcR ?_
  repeat ((fail_if_success (with_reducible refine as_seq ?_)); walk_at "q")
  refine cq0 (.fr (.fr .nil)) nl ⟨5, rfl, by decide, by decide, fun r r0 r1 => ?_⟩
  obtain ⟨n, rfl⟩ := Int.eq_ofNat_of_zero_le r0
  repeat ((fail_if_success (with_reducible refine as_seq ?_)); walk_at "q")
  refine ⟨by omega, fun i acc G => ∃ own pool' : List Str, own.length = i ∧ acc = own.map tD ∧ own.Nodup ∧ (∀ w ∈ own, okW w) ∧ (∀ w ∈ pool', okW w) ∧ pool'.length ≤ pool.length + i ∧
    G = [.fr .deal, .mt (av 1) (.lst (pool'.map tD)), .rd (.lst (ls.map Kd.d)), .own (.lst (own.map tD)), .no, .no, .no, .no, .no, .no, .no, .no, .no], ⟨[], pool, rfl, rfl, List.nodup_nil, by simp, hp, Nat.le_refl _, rfl⟩, fun n acc G' h => by obtain ⟨_, _, _, _, _, _, _, _, rfl⟩ := h; rfl, ?_, ?_⟩
  · rintro i acc G' hi ⟨own, pool', lo, rfl, nd, ow, pw, lp', rfl⟩
    refine aw_name (by decide) ?_
    repeat walk_at "q"
    refine ae_pl rfl rfl ?_
    repeat walk_at "q"
    refine cqm [1, 3] [] (.fr (.mtp rfl rfl rfl (.mtp rfl rfl rfl .nil))) nl ⟨pool', own, rfl, pw, by omega, by omega, fun t pool2 t1 t2 p2 l2 => ?_⟩
    refine ⟨_, rfl, own ++ [t], pool2, by rw [List.length_append, lo]; rfl, by rw [List.map_append]; rfl, ?_, ?_, p2, by omega, rfl⟩
    · exact List.nodup_append.mpr ⟨nd, by simp, fun a ha b hb e => t2 (by rw [List.mem_singleton.mp hb] at e; rw [← e]; exact ha)⟩
    · intro x hx
      rcases List.mem_append.mp hx with z | z
      · exact ow x z
      · rw [List.mem_singleton.mp z]; exact t1
  rintro acc G' _ ⟨hid, pool1, lh, rfl, nd, hw, pw1, lp1, rfl⟩
  have n5 : n < 5 := by omega
  repeat ((fail_if_success (with_reducible refine as_seq ?_)); walk_at "q")
  refine as_seq ?_
  repeat ((fail_if_success (with_reducible refine as_seq ?_)); walk_at "q")
  refine ae_lcL ?_
  repeat ((fail_if_success (with_reducible refine as_seq ?_)); walk_at "q")
  refine ae_pl rfl rfl ?_
  refine ⟨hid.map tD, rfl, by rw [List.length_map]; omega, fun i acc G => acc = ((hid.take i).map (Kd.nm "")).map Kd.d ∧ G = [.fr .deal, .mt (av 1) (.lst (pool1.map tD)), .rd (.lst (ls.map Kd.d)), .own (.lst (hid.map tD)), .own (.lst (hid.map tD)), .no, .no, .no, .no, .no, .no, .no, .no], ⟨rfl, rfl⟩, fun n acc G' h => ⟨by rw [h.2]; rfl, by rw [h.2]; rfl⟩, ?_, ?_⟩
  · rintro i x acc G' hx ⟨rfl, rfl⟩
    obtain ⟨t, ht, rfl⟩ := map_get hx
    refine aw_name (by decide) ?_
    repeat walk_at "q"
    refine ⟨?_, rfl⟩
    rw [take_more ht, List.map_append, List.map_append]
    rfl
  rintro acc G' _ ⟨rfl, rfl⟩
  have e1 : hid.take (hid.map tD).length = hid := by rw [List.length_map, List.take_length]
  rw [e1]
  repeat ((fail_if_success (with_reducible refine as_seq ?_)); walk_at "q")
  refine ar_cat rfl rfl (by rw [List.length_map, List.length_map, List.length_map]; omega) ?_
  rw [← List.map_append]
  repeat ((fail_if_success (with_reducible refine as_seq ?_)); walk_at "q")
  refine as_seq ?_
  repeat ((fail_if_success (with_reducible refine as_seq ?_)); walk_at "q")
  refine ae_lcL ?_
  repeat ((fail_if_success (with_reducible refine as_seq ?_)); walk_at "q")
  refine ae_pl rfl rfl ?_
  refine ⟨hid.map tD, rfl, by rw [List.length_map]; omega, fun i acc G => acc = wsD ((hid.take i).map fun t => (t, Kd.nm "" t)) ∧ G = [.fr .deal, .mt (av 1) (.lst (pool1.map tD)), .rd (.lst (ls.map Kd.d)), .own (.lst (hid.map tD)), .own (.lst (hid.map tD)), .own (.lst ((hidL hid ls).map Kd.d)), .no, .no, .no, .no, .no, .no, .no], ⟨rfl, rfl⟩, fun n acc G' h => ⟨by rw [h.2]; rfl, by rw [h.2]; rfl⟩, ?_, ?_⟩
  · rintro i x acc G' hx ⟨rfl, rfl⟩
    obtain ⟨t, ht, rfl⟩ := map_get hx
    refine aw_name (by decide) ?_
    repeat walk_at "q"
    refine ⟨?_, rfl⟩
    rw [take_more ht, List.map_append]
    unfold wsD
    rw [List.map_append]
    rfl
  rintro acc G' _ ⟨rfl, rfl⟩
  rw [e1]
  have lls : (hidL hid ls).length ≤ 1000 := by unfold hidL; rw [List.length_append, List.length_map]; omega
  have hln := hidL_nm (h := hid) hn
  repeat ((fail_if_success (with_reducible refine as_seq ?_)); walk_at "q")
  refine as_seq ?_
  repeat ((fail_if_success (with_reducible refine as_seq ?_)); walk_at "q")
  refine cq0 (.fr (.fr .nil)) nl ⟨4, rfl, by decide, by decide, fun r r0 r1 => ?_⟩
  obtain ⟨n2, rfl⟩ := Int.eq_ofNat_of_zero_le r0
  have n4 : n2 < 4 := by omega
  repeat ((fail_if_success (with_reducible refine as_seq ?_)); walk_at "q")
  refine ⟨by omega, fun i G => ∃ (own pool' : List Str) (kinds : List (Str × Kd)), own.length = n + i ∧ (∀ w ∈ pool', okW w) ∧ pool'.length ≤ pool.length + 5 + i ∧ kinds.length = n + i ∧ (kinds.map (·.1)).Nodup ∧
    (∀ p ∈ kinds, p.1 ∈ own ∧ okW p.1 ∧ p.2.words ≤ 7 ∧ p.2.All fun q t => (q = "" ∧ t ∈ hid) ∨ Kd.nm q t ∈ ls) ∧ (∀ t ∈ hid, (t, Kd.nm "" t) ∈ kinds) ∧
    G = [.fr .deal, .mt (av 1) (.lst (pool'.map tD)), .rd (.lst (ls.map Kd.d)), .own (.lst (own.map tD)), .no, .own (.lst ((hidL hid ls).map Kd.d)), .own (.lst (wsD kinds)), .no, .no, .no, .no, .no, .no], ⟨_, (by repeat (first | exact Wk.nil | refine Wk.keep ?_ | refine Wk.drop ?_)), hid, pool1, hid.map fun t => (t, Kd.nm "" t), lh, pw1, by omega, by rw [List.length_map]; exact lh, by rw [List.map_map]; exact (List.map_id' hid).symm ▸ nd, ?_, fun t ht => List.mem_map.mpr ⟨t, ht, rfl⟩, rfl⟩, ?_, ?_⟩
  · intro p hp
    obtain ⟨t, ht, rfl⟩ := List.mem_map.mp hp
    exact ⟨ht, hw t ht, by show 1 ≤ 7; omega, .inl ⟨rfl, ht⟩⟩
  · rintro i G hi ⟨own, pool', kinds, lo, pw, lp', lk, nk, hkk, hhid, rfl⟩
    repeat ((fail_if_success (with_reducible refine as_seq ?_)); walk_at "q")
    refine as_seq ?_
    repeat ((fail_if_success (with_reducible refine as_seq ?_)); walk_at "q")
    refine ae_pl rfl rfl ?_
    repeat ((fail_if_success (with_reducible refine as_seq ?_)); walk_at "q")
    refine cqm [1, 3] [] (.fr (.mtp rfl rfl rfl (.mtp rfl rfl rfl .nil))) nl ⟨pool', own, rfl, pw, by omega, by omega, fun t pool2 t1 t2 p2 l2 => ?_⟩
    repeat ((fail_if_success (with_reducible refine as_seq ?_)); walk_at "q")
    refine ae_pl rfl rfl ?_
    repeat ((fail_if_success (with_reducible refine as_seq ?_)); walk_at "q")
    refine ac_lenL rfl ?_
    repeat ((fail_if_success (with_reducible refine as_seq ?_)); walk_at "q")
    refine cq0 (.fr (.fr .nil)) nl ⟨_, rfl, by omega, by unfold wsD; rw [List.length_map]; omega, fun r r0 r1 => ?_⟩
    obtain ⟨m, rfl⟩ := Int.eq_ofNat_of_zero_le r0
    have lw : (wsD kinds).length = kinds.length := by unfold wsD; rw [List.length_map]
    rw [lw] at r1
    repeat ((fail_if_success (with_reducible refine as_seq ?_)); walk_at "q")
    refine ae_pl rfl rfl ?_
    repeat ((fail_if_success (with_reducible refine as_seq ?_)); walk_at "q")
    refine cq0 (.fr (.rdp rfl rfl (.fr .nil))) nl ⟨hidL hid ls, 7, rfl, by decide, by decide, lls, hln, fun k k1 k2 => ?_⟩
    repeat ((fail_if_success (with_reducible refine as_seq ?_)); walk_at "q")
    refine ⟨_, _, _, m, rfl, by omega, rfl, rfl, rfl, by rw [lw]; omega, ?_⟩
    have tn : t ∉ kinds.map (·.1) := fun h => by
      obtain ⟨p, hp, rfl⟩ := List.mem_map.mp h
      exact t2 (hkk p hp).1
    have em : wsD kinds = wsD (kinds.take m) ++ wsD (kinds.drop m) := by unfold wsD; rw [← List.map_append, List.take_append_drop]
    have lt : (wsD (kinds.take m)).length = m := by unfold wsD; rw [List.length_map, List.length_take]; omega
    have ew : (wsD kinds).take m ++ [prd t k.d] ++ (wsD kinds).drop m = wsD (kinds.take m ++ [(t, k)] ++ kinds.drop m) := by
      unfold wsD
      rw [List.map_append, List.map_append, List.map_take, List.map_drop]
      rfl
    have mem : ∀ p, p ∈ kinds.take m ++ [(t, k)] ++ kinds.drop m → p ∈ kinds ∨ p = (t, k) := fun p hp => by
      rcases List.mem_append.mp hp with z | z
      · rcases List.mem_append.mp z with z | z
        · exact .inl (List.mem_of_mem_take z)
        · exact .inr (List.mem_singleton.mp z)
      · exact .inl (List.mem_of_mem_drop z)
    have mem2 : ∀ p, p ∈ kinds → p ∈ kinds.take m ++ [(t, k)] ++ kinds.drop m := fun p hp => by
      rw [← List.take_append_drop m kinds] at hp
      rcases List.mem_append.mp hp with z | z
      · exact List.mem_append.mpr (.inl (List.mem_append.mpr (.inl z)))
      · exact List.mem_append.mpr (.inr z)
    refine ⟨[.fr .deal, .mt (av 1) (.lst (pool2.map tD)), .rd (.lst (ls.map Kd.d)), .own (.lst ((own ++ [t]).map tD)), .no, .own (.lst ((hidL hid ls).map Kd.d)), .own (.lst ((wsD kinds).take m ++ [prd t k.d] ++ (wsD kinds).drop m)), .no, .no, .no, .no, .no, .no], (by repeat (first | exact Wk.nil | refine Wk.keep ?_ | refine Wk.drop ?_)), own ++ [t], pool2, kinds.take m ++ [(t, k)] ++ kinds.drop m, by rw [List.length_append, lo]; rfl, p2, by omega, ?_, ?_, ?_, fun u hu => mem2 _ (hhid u hu), by rw [ew]⟩
    · rw [List.length_append, List.length_append, List.length_take, List.length_drop]; simp; omega
    · rw [List.map_append, List.map_append]
      have e : kinds.map (·.1) = (kinds.take m).map (·.1) ++ (kinds.drop m).map (·.1) := by rw [← List.map_append, List.take_append_drop]
      rw [e] at nk tn
      obtain ⟨a1, a2, a3⟩ := List.nodup_append.mp nk
      rw [List.mem_append] at tn
      have tl : ∀ a, a ∈ (kinds.take m).map (·.1) → ∀ b, b ∈ [t] → a ≠ b := fun a ha b hb e => by
        rw [List.mem_singleton.mp hb] at e
        exact tn (.inl (by rw [← e]; exact ha))
      refine List.nodup_append.mpr ⟨List.nodup_append.mpr ⟨a1, by simp, tl⟩, a2, fun a ha b hb e => ?_⟩
      rcases List.mem_append.mp ha with z | z
      · exact a3 a z b hb e
      · have z : a = t := List.mem_singleton.mp z
        exact tn (.inr (by rw [← z, e]; exact hb))
    · intro p hp
      rcases mem p hp with z | z
      · obtain ⟨b1, b2, b3, b4⟩ := hkk p z
        exact ⟨List.mem_append.mpr (.inl b1), b2, b3, b4⟩
      · subst z
        exact ⟨List.mem_append.mpr (.inr (List.mem_singleton.mpr rfl)), t1, k1, k2.mono _ fun q u h => hidL_mem h⟩
  rintro G ⟨own1, pool2, kinds, lo1, pw2, lp2, lk, nk, hkk, hhid, rfl⟩
  refine as_seq ?_
  repeat ((fail_if_success (with_reducible refine as_seq ?_)); walk_at "q")
  refine as_seq ?_
  repeat ((fail_if_success (with_reducible refine as_seq ?_)); walk_at "q")
  refine as_seq ?_
  repeat ((fail_if_success (with_reducible refine as_seq ?_)); walk_at "q")
  refine cq0 (.fr (.fr .nil)) nl ⟨4, rfl, by decide, by decide, fun r r0 r1 => ?_⟩
  obtain ⟨n3, rfl⟩ := Int.eq_ofNat_of_zero_le r0
  have n4' : n3 < 4 := by omega
  repeat ((fail_if_success (with_reducible refine as_seq ?_)); walk_at "q")
  refine ⟨by omega, fun i G => ∃ (own pool' : List Str) (funs : List (Str × Sg)), own.length = i ∧ (∀ w ∈ pool', okW w) ∧ pool'.length ≤ pool.length + 9 + i ∧ funs.length = i ∧ funs.map (·.1) = own ∧ own.Nodup ∧
    (∀ p ∈ funs, okW p.1 ∧ p.2.1.length ≤ 4 ∧ (∀ a ∈ p.2.1, a.words ≤ 7 ∧ a.All fun q t => (q = "" ∧ t ∈ hid) ∨ Kd.nm q t ∈ ls) ∧ p.2.2.words ≤ 7 ∧ p.2.2.All fun q t => (q = "" ∧ t ∈ hid) ∨ Kd.nm q t ∈ ls) ∧
    G = [.fr .deal, .mt (av 1) (.lst (pool'.map tD)), .rd (.lst (ls.map Kd.d)), .own (.lst (own.map tD)), .no, .own (.lst ((hidL hid ls).map Kd.d)), .own (.lst (wsD kinds)), .no, .no, .own (.lst (fsD funs)), .no, .no, .no], ⟨_, (by repeat (first | exact Wk.nil | refine Wk.keep ?_ | refine Wk.drop ?_)), [], pool2, [], rfl, pw2, by omega, rfl, rfl, List.nodup_nil, by simp, rfl⟩, ?_, ?_⟩
  · rintro i G hi ⟨own, pool', funs, lo, pw, lp', lf, ef, no, hff, rfl⟩
    repeat ((fail_if_success (with_reducible refine as_seq ?_)); walk_at "q")
    refine as_seq ?_
    repeat ((fail_if_success (with_reducible refine as_seq ?_)); walk_at "q")
    refine ae_lcR ?_
    repeat ((fail_if_success (with_reducible refine as_seq ?_)); walk_at "q")
    refine cq0 (.fr (.fr .nil)) nl ⟨5, rfl, by decide, by decide, fun r r0 r1 => ?_⟩
    obtain ⟨na, rfl⟩ := Int.eq_ofNat_of_zero_le r0
    have n5' : na < 5 := by omega
    repeat ((fail_if_success (with_reducible refine as_seq ?_)); walk_at "q")
    refine ⟨by omega, fun j acc G => ∃ ars : List Kd, ars.length = j ∧ acc = ars.map Kd.d ∧ (∀ a ∈ ars, a.words ≤ 7 ∧ a.All fun q t => (q = "" ∧ t ∈ hid) ∨ Kd.nm q t ∈ ls) ∧ G = [.fr .deal, .mt (av 1) (.lst (pool'.map tD)), .rd (.lst (ls.map Kd.d)), .own (.lst (own.map tD)), .no, .own (.lst ((hidL hid ls).map Kd.d)), .own (.lst (wsD kinds)), .fr (.raw (.int i)), .no, .own (.lst (fsD funs)), .no, .no, .no], ⟨[], rfl, rfl, by simp, rfl⟩, fun n acc G' h => by obtain ⟨_, _, _, _, rfl⟩ := h; rfl, ?_, ?_⟩
    · rintro j acc G' hj ⟨ars, la, rfl, ha, rfl⟩
      refine aw_name (by decide) ?_
      repeat walk_at "q"
      refine ae_pl rfl rfl ?_
      repeat walk_at "q"
      refine cq0 (.fr (.rdp rfl rfl (.fr .nil))) nl ⟨hidL hid ls, 3, rfl, by decide, by decide, lls, hln, fun k k1 k2 => ?_⟩
      refine ⟨_, rfl, ars ++ [k], by rw [List.length_append, la]; rfl, by rw [List.map_append]; rfl, fun a hx => ?_, rfl⟩
      rcases List.mem_append.mp hx with z | z
      · exact ha a z
      · rw [List.mem_singleton.mp z]; exact ⟨by omega, k2.mono _ fun q u h => hidL_mem h⟩
    rintro acc G' _ ⟨ars, la, rfl, ha, rfl⟩
    repeat ((fail_if_success (with_reducible refine as_seq ?_)); walk_at "q")
    refine ac_tupL rfl ?_
    repeat ((fail_if_success (with_reducible refine as_seq ?_)); walk_at "q")
    refine as_seq ?_
    repeat ((fail_if_success (with_reducible refine as_seq ?_)); walk_at "q")
    refine ae_pl rfl rfl ?_
    repeat ((fail_if_success (with_reducible refine as_seq ?_)); walk_at "q")
    refine cqm [1, 3] [] (.fr (.mtp rfl rfl rfl (.mtp rfl rfl rfl .nil))) nl ⟨pool', own, rfl, pw, by omega, by omega, fun t pool3 t1 t2 p3 l3 => ?_⟩
    repeat ((fail_if_success (with_reducible refine as_seq ?_)); walk_at "q")
    refine ae_pl rfl rfl ?_
    repeat ((fail_if_success (with_reducible refine as_seq ?_)); walk_at "q")
    refine cq0 (.fr (.rdp rfl rfl (.fr .nil))) nl ⟨hidL hid ls, 5, rfl, by decide, by decide, lls, hln, fun k k1 k2 => ?_⟩
    repeat ((fail_if_success (with_reducible refine as_seq ?_)); walk_at "q")
    refine ⟨_, _, _, rfl, rfl, rfl, rfl, by unfold fsD; rw [List.length_map]; omega, ?_⟩
    refine ⟨[.fr .deal, .mt (av 1) (.lst (pool3.map tD)), .rd (.lst (ls.map Kd.d)), .own (.lst ((own ++ [t]).map tD)), .no, .own (.lst ((hidL hid ls).map Kd.d)), .own (.lst (wsD kinds)), .no, .no, .own (.lst (fsD funs ++ [prd t (Sg.d (ars, k))])), .no, .no, .no], (by repeat (first | exact Wk.nil | refine Wk.keep ?_ | refine Wk.drop ?_)), own ++ [t], pool3, funs ++ [(t, (ars, k))], by rw [List.length_append, lo]; rfl, p3, by omega, by rw [List.length_append, lf]; rfl, by rw [List.map_append, ef]; rfl, ?_, ?_, ?_⟩
    · exact List.nodup_append.mpr ⟨no, by simp, fun a ha b hb e => t2 (by rw [List.mem_singleton.mp hb] at e; rw [← e]; exact ha)⟩
    · intro p hp
      rcases List.mem_append.mp hp with z | z
      · exact hff p z
      · rw [List.mem_singleton.mp z]
        exact ⟨t1, by show ars.length ≤ 4; omega, ha, by show k.words ≤ 7; omega, k2.mono _ fun q u h => hidL_mem h⟩
    · unfold fsD
      rw [List.map_append (l₁ := funs)]
      rfl
  rintro G ⟨own2, pool3, funs, lo2, pw3, lp3, lf, ef, no, hff, rfl⟩
  repeat walk_at "q"
  refine ae_frz rfl ?_
  repeat walk_at "q"
  refine ae_frz rfl ?_
  repeat walk_at "q"
  have hh : ∀ (q t : Str), ((q = "" ∧ t ∈ hid) ∨ Kd.nm q t ∈ ls) → (q = "" ∧ t ∈ hidK kinds) ∨ Kd.nm q t ∈ ls := fun q t h => h.imp (fun z => ⟨z.1, hidK_mem.mpr (hhid t z.2)⟩) id
  refine ⟨[_], rfl, ⟨rfl, rfl⟩, hk ⟨kinds, funs⟩ pool3 ⟨nk, by rw [ef]; exact no, by show kinds.length ≤ 7; omega, by show funs.length ≤ 3; omega, fun p hp => (hkk p hp).2.1, fun p hp => ⟨(hff p hp).1, (hff p hp).2.1⟩, fun p hp => (hkk p hp).2.2.1, fun p hp => ⟨fun a ha => ((hff p hp).2.2.1 a ha).1, (hff p hp).2.2.2.1⟩, fun p hp => (hkk p hp).2.2.2.mono _ hh, fun p hp => ⟨fun a ha => ((hff p hp).2.2.1 a ha).2.mono _ hh, (hff p hp).2.2.2.2.mono _ hh⟩⟩ pw3 (by omega)⟩
end
end Q
-- text CA
set_option Elab.async false
set_option linter.all false
set_option maxRecDepth 100000
set_option maxHeartbeats 4000000
namespace Q
open PySem PySem.Spec PyProof.Rows L2
local macro_rules | `(tactic| walk_at "q") => `(tactic| (first
  | with_reducible refine as_seq ?_ | with_reducible refine as_ret ?_ | with_reducible refine as_if ?_ | with_reducible refine as_deal ?_ | with_reducible refine as_asg ?_ | with_reducible refine as_drop ?_ | with_reducible refine as_dput ?_
  | with_reducible refine at_test ?_ | with_reducible refine at_B ?_ | with_reducible refine at_not ?_ | with_reducible refine at_and ?_ | with_reducible refine at_or ?_
  | with_reducible refine ae_op ?_ | with_reducible refine ae_c ?_ | with_reducible refine ae_andV ?_ | with_reducible refine ae_notV ?_ | with_reducible refine ae_join ?_ | with_reducible refine ae_index ?_ | with_reducible refine ae_from1 ?_ | refine ae_un (i := 0) ?_ | refine ae_var rfl ?_ | refine ae_rd rfl ?_ | refine ae_mt rfl ?_ | with_reducible refine ae_call ?_ | with_reducible refine ae_tup ?_ | with_reducible refine ae_fld ?_ | with_reducible refine ae_cb ?_
  | with_reducible refine aa_nil ?_ | with_reducible refine aa_cons ?_
  | with_reducible refine ae_dget ?_ | with_reducible refine ae_dget2 ?_ | with_reducible refine ae_dget1 ?_ | with_reducible refine ae_din ?_ | with_reducible refine ae_dnotin ?_ | with_reducible refine ae_newK ?_ | with_reducible refine ae_newT ?_ | with_reducible refine ae_lst ?_
  | with_reducible refine ae_meth ?_ | with_reducible refine ct_yes ?_ | with_reducible refine ct_if ?_
  | refine ar_ixT rfl rfl ?_ | refine ar_ixL rfl rfl ?_ | refine ar_II ?_ | refine ar_eq rfl ?_
  | refine itT (by decide +kernel) ?_ | refine itF (by decide +kernel) ?_ | refine itF Bool.false_ne_true ?_ | refine itT rfl ?_
  | refine ⟨.inr ⟨_, _, rfl⟩, ?_⟩ | refine ⟨.inl ⟨_, _, rfl⟩, ?_⟩ | refine ⟨_, _, .T rfl, rfl, ?_⟩ | refine ⟨_, rfl, ?_⟩ | refine ⟨[_, _], rfl, Nat.le_of_ble_eq_true rfl, ?_⟩ | refine ⟨[_, _, _], rfl, Nat.le_of_ble_eq_true rfl, ?_⟩ | refine ⟨[], rfl, Nat.le_of_ble_eq_true rfl, ?_⟩ | refine ⟨[_], rfl, Nat.le_of_ble_eq_true rfl, ?_⟩
  | with_reducible refine as_forL ?_ | with_reducible refine as_forT ?_ | with_reducible refine as_forR ?_ | refine ae_app (ae_pl rfl rfl ⟨_, rfl, ⟨_, rfl⟩, ?_⟩) | refine ae_ins (ae_pl rfl rfl ⟨_, rfl, ⟨_, rfl⟩, ?_⟩) | refine ag_rd rfl ?_ | refine ag_name ?_ | refine ag_own ?_ | refine ag_tup rfl (ags_cons (ags_cons (ags_nil ?_))) | with_reducible refine as_next ?_))
def dealsD : D := .lst [.deal, .deal, .deal, .deal]
def frD (r : FRow) : D := rowD (r.x, some (r.wd, r.ws))
def fwD (r : FRow) : D := prd r.x r.want.l
def S_formals : Spec := fun pm kk => ∃ (W : List Str) (ls : List Kd) (f0 f1 : Fc) (N : Gv) (w0 : Str), pm = [.fr dealsD, .rd (.lst (W.map tD)), .rd (.lst [f0.l, f1.l]), .mt (gD N)] ∧ WsOk W ∧ W[0]? = some w0 ∧ LsOk w0 ls ∧ FaceOk ls f0 ∧ FaceOk ls f1 ∧ Nm N ∧ N.length ≤ 4 ∧ (∀ p ∈ N, p.1.1 = w0) ∧
  ∀ rows, FormsOk W ls f0 f1 N rows → 1 ≤ rows.length → kk (.v (.tup [.tup (rows.map frD), .lst (rows.map fwD)])) [gD (nmsAt N rows)]
section
variable {P : Program} {w : World} {K : PySem.W.Frag} {mg : Str → Option Value} {base : Heap}
theorem ok_l_formals {f : Addr} {fd : FuncData} (T : Txt K mg) (F : Fun K "_law_formals" "_law_formals" s_l_formals f fd) (c_l_draw : Callee P w K mg base 1 "_law_draw" p_l_draw [] false S_draw)
    (c_l_kind : Callee P w K mg base 110 "_law_kind" p_l_kind [] false (S_kind 10)) (c_l_hidden : Callee P w K mg base 1 "_law_hidden" p_l_hidden [] false S_lhid) (c_l_far : Callee P w K mg base 1 "_law_far" p_l_far [] true S_far)
    (c_l_put : Callee P w K mg base 100 "_law_put" p_l_put [] false (S_put 100)) (c_l_put_all : Callee P w K mg base 101 "_law_put_all" p_l_put_all [] false S_pall) (c_l_greatest : Callee P w K mg base 101 "_law_greatest" p_l_greatest [] false S_great)
    (c_l_know : Callee P w K mg base 1 "_law_know" p_l_know [] false S_know) (c_l_hiding : Callee P w K mg base 102 "_law_hiding" p_l_hiding [] false S_lhiding) :
    FnOk P w K mg base CX0 111 f fd p_l_formals (spOf true S_formals) := by
  refine fun_ok F sc_l_formals (by decide) (fun pm k h => by obtain ⟨_, _, _, _, _, _, rfl, _⟩ := h; rfl) (fun cdv A outer s H X hr => ⟨_, (pss_cons (ps_set (i := 4) sc_l_formals.nd rfl (Or.inl rfl) (pe_lst pa_nil))
    (pss_cons (ps_set (i := 5) sc_l_formals.nd rfl (Or.inl rfl) (pe_lst pa_nil))
    (pss_cons (ps_for PassesOwn.never rfl (pi_range1 (by rfl) T.z_range (pa_cons (pe_op op_add pe_int (pe_cal c_l_draw (hr.mono (by omega)) (by rfl) (pa_cons (pe_ix ix_list (pv 0) pe_int (fun _ _ => rfl)) (pa_cons pe_int pa_nil)))) pa_nil)) (pg_name (i := 6) sc_l_formals.nd rfl (Or.inl rfl))
    (pss_cons (ps_set (i := 7) sc_l_formals.nd rfl (Or.inl rfl) (pe_ix ix_list (pv 0) (pv 6) (fun _ _ => rfl)))
    (pss_cons (ps_set (i := 8) sc_l_formals.nd rfl (Or.inl rfl) (pe_cal c_l_draw (hr.mono (by omega)) (by rfl) (pa_cons (pv 7) (pa_cons pe_int pa_nil))))
    (pss_cons (ps_set (i := 9) sc_l_formals.nd rfl (Or.inl rfl) (pe_ix ix_list (pv 2) (pv 8) (fun _ _ => rfl)))
    (pss_cons (ps_set (i := 10) sc_l_formals.nd rfl (Or.inl rfl) (pe_lst pa_nil))
    (pss_cons (ps_set (i := 11) sc_l_formals.nd rfl (Or.inl rfl) pe_dnewT)
    (pss_cons (ps_for PassesOwn.never rfl (pi_list (pe_cal c_l_hidden (hr.mono (by omega)) (by rfl) (pa_cons (pe_ix ix_tup (pv 9) pe_int (fun _ _ => rfl)) pa_nil))) (pg_name (i := 12) sc_l_formals.nd rfl (Or.inl rfl))
    (pss_one (ps_if (pt_cmpR op_eq (pe_cal c_l_draw (hr.mono (by omega)) (by rfl) (pa_cons (pv 7) (pa_cons pe_int pa_nil))) pe_int (nomark _))
    (pss_cons (ps_expr (pe_bm PySem.F.plainAttrs_list PySem.F.slot_list_append PySem.F.type_list_append mt_append (pv 10) (pa_cons (pe_tup (pa_cons (pv 12) (pa_cons (pe_cal c_l_kind (hr.mono (by omega)) (by rfl) (pa_cons (pv 7) (pa_cons (pe_cal c_l_far (hr.mono (by omega)) (by rfl) (pa_cons (pv 3) pa_nil)) (pa_cons pe_int pa_nil)))) pa_nil))) pa_nil)))
    (pss_one (ps_dput (hu_of hr) (pv 11) (pe_tup (pa_cons pe_str (pa_cons (pv 12) pa_nil))) (pe_cal c_l_put (hr.mono (by omega)) (by rfl) (pa_cons (pe_ix ix_tup (pe_ix ix_list (pv 10) (pe_un un_neg pe_int) (fun _ _ => rfl)) pe_int (fun _ _ => rfl)) (pa_cons (pv 3) pa_nil))) rfl)))
    pss_nil)))
    (pss_cons (ps_set (i := 13) sc_l_formals.nd rfl (Or.inl rfl) (pe_cal c_l_put_all (hr.mono (by omega)) (by rfl) (pa_cons (pv 9) (pa_cons (pv 11) pa_nil))))
    (pss_cons (ps_if (pt_cmpR op_gt (pe_cal c_l_greatest (hr.mono (by omega)) (by rfl) (pa_cons (pv 13) pa_nil)) pe_int (nomark _))
    (pss_cons (ps_set (i := 10) sc_l_formals.nd rfl (Or.inl rfl) (pe_lst pa_nil))
    (pss_one (ps_set (i := 13) sc_l_formals.nd rfl (Or.inl rfl) (pv 9))))
    pss_nil)
    (pss_cons (ps_expr (pe_bm PySem.F.plainAttrs_list PySem.F.slot_list_append PySem.F.type_list_append mt_append (pv 4) (pa_cons (pe_tup (pa_cons (pe_ix ix_list (pv 1) (pe_op op_add pe_int (pv 6)) (fun _ _ => rfl)) (pa_cons (pe_tup (pa_cons (pe_ix ix_list (pe_lst (pa_cons (pe_ix ix_list (pv 1) pe_int (fun _ _ => rfl)) (pa_cons (pe_ix ix_list (pv 1) pe_int (fun _ _ => rfl)) pa_nil))) (pv 8) (fun _ _ => rfl)) (pa_cons (pe_callTy call_tuple_of (by rfl) T.z_tuple (by decide +kernel) (pa_cons (pv 10) pa_nil)) pa_nil))) pa_nil))) pa_nil)))
    (pss_cons (ps_expr (pe_bm PySem.F.plainAttrs_list PySem.F.slot_list_append PySem.F.type_list_append mt_append (pv 5) (pa_cons (pe_tup (pa_cons (pe_ix ix_list (pv 1) (pe_op op_add pe_int (pv 6)) (fun _ _ => rfl)) (pa_cons (pv 13) pa_nil))) pa_nil)))
    (pss_one (ps_expr (pe_cal c_l_know (hr.mono (by omega)) (by rfl) (pa_cons (pv 3) (pa_cons (pe_ix ix_list (pv 1) (pe_op op_add pe_int (pv 6)) (fun _ _ => rfl)) (pa_cons (pe_cal c_l_hiding (hr.mono (by omega)) (by rfl) (pa_cons (pv 13) (pa_cons (pe_ix ix_list (pv 1) (pe_op op_add pe_int (pv 6)) (fun _ _ => rfl)) pa_nil))) pa_nil)))))))))))))))))
    (pss_one (ps_ret (pe_tup (pa_cons (pe_callTy call_tuple_of (by rfl) T.z_tuple (by decide +kernel) (pa_cons (pv 4) pa_nil)) (pa_cons (pv 5) pa_nil)))))))), ?_⟩)
  rintro L hL pm av kk ⟨W, ls, f0, f1, N, w0, rfl, hW, e0, hl, h0, h1, hN, lN, hq, hk⟩
  refine as_seq ?_
  repeat ((fail_if_success (with_reducible refine as_seq ?_)); walk_at "q")
  refine as_seq ?_
  repeat ((fail_if_success (with_reducible refine as_seq ?_)); walk_at "q")
  refine as_seq ?_
  repeat ((fail_if_success (with_reducible refine as_seq ?_)); walk_at "q")
  refine cq0 (.fr (.fr .nil)) nl ⟨4, rfl, by decide, by decide, fun r r0 r1 => ?_⟩
  obtain ⟨n, rfl⟩ := Int.eq_ofNat_of_zero_le r0
  have n4 : n < 4 := by omega
  repeat ((fail_if_success (with_reducible refine as_seq ?_)); walk_at "q")
  refine ⟨show 1 + n ≤ 100000 by omega, fun i G => ∃ rows : List FRow, rows.length = i ∧ FormsOk W ls f0 f1 N rows ∧ G = [.fr dealsD, .rd (.lst (W.map tD)), .rd (.lst [f0.l, f1.l]), .mt (av 3) (gD (nmsAt N rows)), .own (.lst (rows.map frD)), .own (.lst (rows.map fwD)), .no, .no, .no, .no, .no, .no, .no, .no],
    ⟨[.fr dealsD, .rd (.lst (W.map tD)), .rd (.lst [f0.l, f1.l]), .mt (av 3) (gD N), .own (.lst []), .own (.lst []), .no, .no, .no, .no, .no, .no, .no, .no], (by repeat (first | exact Wk.nil | refine Wk.keep ?_ | refine Wk.drop ?_)), [], rfl, ⟨by decide, fun i r e => by simp at e⟩, by unfold nmsAt; simp⟩, ?_, ?_⟩
  · rintro k G hk4 ⟨rows, lr, hF, rfl⟩
    have hk4' : k < 1 + n := hk4
    have k4 : k < 4 := by omega
    have hNm : Nm (nmsAt N rows) := by have := FormsOk.Nm hW e0 hl hN h0 h1 rows hF rows.length (Nat.le_refl _); rwa [List.take_length] at this
    have hlen : (nmsAt N rows).length ≤ 50 := by
      have := nmsAt_len (N := N) rows fun r hr => by
        obtain ⟨j, hj⟩ := List.mem_iff_getElem?.mp hr
        exact (hF.r j r hj).1.len (hF.face h0 h1 hj)
      omega
    have hfresh : ∀ {x}, W[1 + k]? = some x → ∀ p ∈ nmsAt N rows, p.1.1 ≠ x := fun ex => hF.fresh hW e0 hq (by omega) ex
    obtain ⟨x, ex, ox⟩ := hW.get (i := 1 + k) (by omega)
    obtain ⟨w6, e6, o6⟩ := hW.get (i := 6) (by omega)
    obtain ⟨w8, e8, o8⟩ := hW.get (i := 8) (by omega)
    have fin : ∀ r : FRow, r.x = x → RowOk (nmsAt N rows) r → ((W[6]? = some r.wd ∧ r.fc = f0) ∨ (W[8]? = some r.wd ∧ r.fc = f1)) → FormsOk W ls f0 f1 N (rows ++ [r]) := fun r er hr hw => ⟨by rw [List.length_append]; simp; omega, fun i r' e' => by
      by_cases hi : i < rows.length
      · rw [List.getElem?_append_left hi] at e'
        rw [List.take_append_of_le_length (by omega)]
        exact hF.r i r' e'
      · rw [List.getElem?_append_right (by omega)] at e'
        have hi2 : i = rows.length := by
          have := (List.getElem?_eq_some_iff.mp e').1
          simp at this
          omega
        subst hi2
        simp at e'
        subst e'
        rw [List.take_append_of_le_length (Nat.le_refl _), List.take_length]
        exact ⟨hr, by rw [er, lr]; exact ex, hw⟩⟩
    generalize hN' : nmsAt N rows = N' at hNm hlen hfresh fin ⊢
    repeat ((fail_if_success (with_reducible refine as_seq ?_)); walk_at "q")
    refine as_seq ?_
    repeat ((fail_if_success (with_reducible refine as_seq ?_)); walk_at "q")
    have ed : atI [D.deal, .deal, .deal, .deal] (k : Int) = some .deal := atI_nat (by match k, k4 with | 0, _ => rfl | 1, _ => rfl | 2, _ => rfl | 3, _ => rfl)
    refine ar_ixL rfl ed ?_
    repeat ((fail_if_success (with_reducible refine as_seq ?_)); walk_at "q")
    refine as_seq ?_
    repeat ((fail_if_success (with_reducible refine as_seq ?_)); walk_at "q")
    refine cq0 (.fr (.fr .nil)) nl ⟨2, rfl, by decide, by decide, fun b b0 b1 => ?_⟩
    obtain ⟨fc, wd, efc, hwd, ewd, hfc⟩ : ∃ (fc : Fc) (wd : Str), atI [f0.l, f1.l] b = some fc.l ∧ ((W[6]? = some wd ∧ fc = f0) ∨ (W[8]? = some wd ∧ fc = f1)) ∧ atI [tD w6, tD w8] b = some (tD wd) ∧ FaceOk ls fc := by
      have hb : b = 0 ∨ b = 1 := by omega
      rcases hb with rfl | rfl
      · exact ⟨f0, w6, rfl, .inl ⟨e6, rfl⟩, rfl, h0⟩
      · exact ⟨f1, w8, rfl, .inr ⟨e8, rfl⟩, rfl, h1⟩
    have hV := (hfc.W hl).V (by decide)
    repeat ((fail_if_success (with_reducible refine as_seq ?_)); walk_at "q")
    refine as_seq ?_
    repeat ((fail_if_success (with_reducible refine as_seq ?_)); walk_at "q")
    refine ar_ixL rfl efc ?_
    repeat ((fail_if_success (with_reducible refine as_seq ?_)); walk_at "q")
    refine as_seq ?_
    repeat ((fail_if_success (with_reducible refine as_seq ?_)); walk_at "q")
    refine as_seq ?_
    repeat ((fail_if_success (with_reducible refine as_seq ?_)); walk_at "q")
    refine as_seq ?_
    repeat ((fail_if_success (with_reducible refine as_seq ?_)); walk_at "q")
    refine cq0 (.fr .nil) nl ⟨fc.kinds, rfl, hV.lk, hV.k, ?_⟩
    repeat ((fail_if_success (with_reducible refine as_seq ?_)); walk_at "q")
    refine ⟨fun j G => ∃ ws : List (Str × Kd), (ws.map (·.1)).Nodup ∧ ws.length ≤ j ∧ (∀ p ∈ ws, p.1 ∈ (hidK fc.kinds).take j) ∧ (∀ p ∈ ws, p.2.words ≤ 3 ∧ p.2.All fun q t => (q, t) ∈ N'.map (·.1)) ∧ G = [.fr dealsD, .rd (.lst (W.map tD)), .rd (.lst [f0.l, f1.l]), .mt (av 3) (gD N'), .own (.lst (rows.map frD)), .own (.lst (rows.map fwD)), .fr (.raw (.int k)), .fr .deal, .fr (.raw (.int b)), .fr fc.l, .own (.lst (wsD ws)), .own (gD (wpG N' ws)), .no, .no], ⟨_, (by repeat (first | exact Wk.nil | refine Wk.keep ?_ | refine Wk.drop ?_)), [], List.nodup_nil, Nat.le_refl _, by simp, by simp, rfl⟩, ?_, ?_⟩
    · rintro j d G hj ⟨ws, nd, lj, hsub, hws, rfl⟩
      obtain ⟨t, ht, rfl⟩ := map_get hj
      have hjl := (List.getElem?_eq_some_iff.mp ht).1
      have l7 := hidK_len fc.kinds
      have l8 := hfc.lk
      have tn : t ∉ ws.map (·.1) := fun m => by
        obtain ⟨p, hp, rfl⟩ := List.mem_map.mp m
        exact nd_take (hidK_nd hfc.nk) ht (hsub p hp)
      have sub2 : ∀ p ∈ ws, p.1 ∈ (hidK fc.kinds).take (j + 1) := fun p hp => by rw [take_more ht]; exact List.mem_append.mpr (.inl (hsub p hp))
      repeat ((fail_if_success (with_reducible refine as_seq ?_)); walk_at "q")
      refine cq0 (.fr (.fr .nil)) nl ⟨2, rfl, by decide, by decide, fun c _ _ => ?_⟩
      repeat ((fail_if_success (with_reducible refine as_seq ?_)); walk_at "q")
      refine itD (fun hc => ?_) fun hc => ?_
      · refine as_seq ?_
        repeat ((fail_if_success (with_reducible refine as_seq ?_)); walk_at "q")
        refine cq0 (.rdp rfl rfl .nil) hL ⟨N', rfl, by omega, ?_⟩
        repeat ((fail_if_success (with_reducible refine as_seq ?_)); walk_at "q")
        refine cq0 (.fr (.rdv rfl (.fr .nil))) nl ⟨farK N', 3, rfl, by decide, by decide, by unfold farK; rw [List.length_map]; omega, fun k hk => by unfold farK at hk; obtain ⟨p, _, rfl⟩ := List.mem_map.mp hk; exact ⟨_, _, rfl⟩, fun kd k1 k2 => ?_⟩
        have k2' : kd.All fun q t => (q, t) ∈ N'.map (·.1) := k2.mono _ fun q t m => by
          unfold farK at m
          obtain ⟨p, hp, e⟩ := List.mem_map.mp m
          injection e with e1 e2
          exact List.mem_map.mpr ⟨p, hp, by rw [← e1, ← e2]⟩
        repeat ((fail_if_success (with_reducible refine as_seq ?_)); walk_at "q")
        refine ⟨_, _, _, rfl, rfl, rfl, rfl, by unfold wsD; rw [List.length_map]; omega, ?_⟩
        repeat ((fail_if_success (with_reducible refine as_seq ?_)); walk_at "q")
        refine ae_pl rfl rfl ?_
        repeat ((fail_if_success (with_reducible refine as_seq ?_)); walk_at "q")
        refine ar_ixL rfl (atI_last _ _) ?_
        repeat ((fail_if_success (with_reducible refine as_seq ?_)); walk_at "q")
        refine cq0 (.fr (.rdp rfl rfl .nil)) nl ⟨kd, N', rfl, by have := kd.dep_le; omega, ?_⟩
        repeat ((fail_if_success (with_reducible refine as_seq ?_)); walk_at "q")
        refine ae_pl rfl rfl ?_
        repeat ((fail_if_success (with_reducible refine as_seq ?_)); walk_at "q")
        have nin : (("" : Str), t) ∉ (wpG N' ws).map (·.1) := fun m => by
          unfold wpG at m
          rw [List.map_map] at m
          obtain ⟨p, hp, e⟩ := List.mem_map.mp m
          injection e with _ e
          exact tn (List.mem_map.mpr ⟨p, hp, e⟩)
        refine ⟨_, _, _, _, _, rfl, rfl, rfl, rfl, rfl, .T nin (by unfold wpG; rw [List.length_map, List.length_map]; omega), ?_⟩
        refine ⟨[.fr dealsD, .rd (.lst (W.map tD)), .rd (.lst [f0.l, f1.l]), .mt (av 3) (gD N'), .own (.lst (rows.map frD)), .own (.lst (rows.map fwD)), .fr (.raw (.int k)), .fr .deal, .fr (.raw (.int b)), .fr fc.l, .own (.lst (wsD ws ++ [prd t kd.d])), .own (.dT ((wpG N' ws).map (·.1) ++ [(("" : Str), t)]) ((wpG N' ws).map (fun p => p.2.d) ++ [(kd.put N').d])), .no, .no], (by repeat (first | exact Wk.nil | refine Wk.keep ?_ | refine Wk.drop ?_)), ws ++ [(t, kd)], nd_snoc nd tn, by rw [List.length_append]; simp; omega, fun p hp => ?_, fun p hp => ?_, ?_⟩
        · rcases List.mem_append.mp hp with z | z
          · exact sub2 p z
          · rw [List.mem_singleton.mp z, take_more ht]; exact List.mem_append.mpr (.inr (List.mem_singleton.mpr rfl))
        · rcases List.mem_append.mp hp with z | z
          · exact hws p z
          · rw [List.mem_singleton.mp z]; exact ⟨k1, k2'⟩
        · have e1 : wsD (ws ++ [(t, kd)]) = wsD ws ++ [prd t kd.d] := by unfold wsD; rw [List.map_append]; rfl
          have e2 : wpG N' (ws ++ [(t, kd)]) = wpG N' ws ++ [((("" : Str), t), kd.put N')] := by unfold wpG; rw [List.map_append]; rfl
          rw [e1, e2, gD_put]
      · repeat walk_at "q"
        exact ⟨_, (by repeat (first | exact Wk.nil | refine Wk.keep ?_ | refine Wk.drop ?_)), ws, nd, by omega, sub2, hws, rfl⟩
    rintro G ⟨ws, nd, lj, hsub, hws, rfl⟩
    have hsub' : ∀ p ∈ ws, p.1 ∈ hidK fc.kinds := fun p hp => List.mem_of_mem_take (hsub p hp)
    obtain ⟨gk, gfar⟩ := wpG_k hNm hws
    have wV : (fc.put (wpG N' ws)).V := ((hfc.W hl).put gk).V (by decide)
    refine as_seq ?_
    repeat ((fail_if_success (with_reducible refine as_seq ?_)); walk_at "q")
    refine ae_pl rfl rfl ?_
    repeat ((fail_if_success (with_reducible refine as_seq ?_)); walk_at "q")
    refine cq0 (.fr (.rdp rfl rfl .nil)) nl ⟨fc, wpG N' ws, rfl, hV, ?_⟩
    repeat ((fail_if_success (with_reducible refine as_seq ?_)); walk_at "q")
    refine as_mid (fun G => ∃ (ws : List (Str × Kd)) (want : Fc), RowOk N' ⟨x, wd, fc, ws, want⟩ ∧ ws.length ≤ 7 ∧ ∃ g11 g12, G = [.fr dealsD, .rd (.lst (W.map tD)), .rd (.lst [f0.l, f1.l]), .mt (av 3) (gD N'), .own (.lst (rows.map frD)), .own (.lst (rows.map fwD)), .fr (.raw (.int k)), .fr .deal, .fr (.raw (.int b)), .fr fc.l, .own (.lst (wsD ws)), g11, g12, .fr want.l]) ?_ ?_
    · repeat ((fail_if_success (with_reducible refine as_seq ?_)); walk_at "q")
      refine cq0 (.fr .nil) nl ⟨fc.put (wpG N' ws), rfl, wV, fun m hm => ?_⟩
      repeat ((fail_if_success (with_reducible refine as_seq ?_)); walk_at "q")
      refine itD (fun h => ?_) fun h => ?_
      · repeat walk_at "q"
        exact ⟨[], fc, ⟨(Fc.put_nil fc).symm, List.nodup_nil, by simp, by simp, hfc.sm⟩, by decide, _, _, rfl⟩
      · repeat walk_at "q"
        refine ⟨ws, fc.put (wpG N' ws), ⟨rfl, nd, hsub', hws, hm (by simpa using h)⟩, ?_, _, _, rfl⟩
        have l7 := hidK_len fc.kinds
        have l8 := hfc.lk
        have l9 : ((hidK fc.kinds).map tD).length = (hidK fc.kinds).length := List.length_map _
        omega
    rintro G ⟨ws, want, hR, wl, g11, g12, rfl⟩
    have hx : atI (W.map tD) ((1 : Int) + (k : Int)) = some (tD x) := by
      have e : (1 : Int) + (k : Int) = ((1 + k : Nat) : Int) := by omega
      rw [e]
      exact atI_nat (by rw [List.getElem?_map, ex]; rfl)
    have hw6 : atI (W.map tD) (6 : Int) = some (tD w6) := atI_nat (n := 6) (by rw [List.getElem?_map, e6]; rfl)
    have hw8 : atI (W.map tD) (8 : Int) = some (tD w8) := atI_nat (n := 8) (by rw [List.getElem?_map, e8]; rfl)
    obtain ⟨rW, rcl⟩ := hR.W hNm hfc hl
    have lw : want.kinds.length ≤ 7 := hR.len hfc
    have lhk : (hidF x want).kinds.length ≤ 7 := by rw [hidF, Fc.put_def]; show (putK _ _).length ≤ 7; unfold putK; rw [List.length_map]; exact lw
    refine as_seq ?_
    repeat ((fail_if_success (with_reducible refine as_seq ?_)); walk_at "q")
    refine ar_ixL rfl hx ?_
    repeat ((fail_if_success (with_reducible refine as_seq ?_)); walk_at "q")
    refine ar_ixL rfl hw6 ?_
    repeat ((fail_if_success (with_reducible refine as_seq ?_)); walk_at "q")
    refine ar_ixL rfl hw8 ?_
    repeat ((fail_if_success (with_reducible refine as_seq ?_)); walk_at "q")
    refine ar_ixL rfl ewd ?_
    repeat ((fail_if_success (with_reducible refine as_seq ?_)); walk_at "q")
    refine ae_pl rfl rfl ?_
    repeat ((fail_if_success (with_reducible refine as_seq ?_)); walk_at "q")
    refine ac_tupL rfl ?_
    repeat ((fail_if_success (with_reducible refine as_seq ?_)); walk_at "q")
    refine ⟨_, _, _, rfl, rfl, rfl, rfl, by rw [List.length_map]; omega, ?_⟩
    refine as_seq ?_
    repeat ((fail_if_success (with_reducible refine as_seq ?_)); walk_at "q")
    refine ar_ixL rfl hx ?_
    repeat ((fail_if_success (with_reducible refine as_seq ?_)); walk_at "q")
    refine ⟨_, _, _, rfl, rfl, rfl, rfl, by rw [List.length_map]; omega, ?_⟩
    repeat ((fail_if_success (with_reducible refine as_seq ?_)); walk_at "q")
    refine ar_ixL rfl hx ?_
    repeat ((fail_if_success (with_reducible refine as_seq ?_)); walk_at "q")
    refine ar_ixL rfl hx ?_
    repeat ((fail_if_success (with_reducible refine as_seq ?_)); walk_at "q")
    refine cq0 (.fr (.fr .nil)) nl ⟨want, x, rfl, rW.V (by decide), ?_⟩
    repeat ((fail_if_success (with_reducible refine as_seq ?_)); walk_at "q")
    refine cqm [3] [] (.mtp rfl rfl rfl (.fr (.fr .nil))) nl ⟨N', x, (hidF x want).kinds, _, rfl, hfresh ex, ?_, by omega, by omega, ?_⟩
    · rw [hidF, Fc.put_def]
      show ((putK _ _).map (·.1)).Nodup
      rw [putK_keys]
      exact rW.nk
    refine ⟨[.fr dealsD, .rd (.lst (W.map tD)), .rd (.lst [f0.l, f1.l]), .mt (av 3) (gD (N' ++ knowG x (hidF x want).kinds)), .own (.lst (rows.map frD ++ [prd x (.tup [tD wd, .tup (wsD ws)])])), .own (.lst (rows.map fwD ++ [prd x want.l])), .no, .no, .no, .no, .no, .no, .no, .no], (by repeat (first | exact Wk.nil | refine Wk.keep ?_ | refine Wk.drop ?_)), rows ++ [⟨x, wd, fc, ws, want⟩], by rw [List.length_append, lr]; rfl, fin ⟨x, wd, fc, ws, want⟩ rfl hR hwd, ?_⟩
    rw [nmsAt_more, hN', List.map_append, List.map_append]
    rfl
  rintro G ⟨rows, lr, hF, rfl⟩
  have lr' : rows.length = 1 + n := lr
  repeat ((fail_if_success (with_reducible refine as_seq ?_)); walk_at "q")
  refine ae_pl rfl rfl ?_
  repeat ((fail_if_success (with_reducible refine as_seq ?_)); walk_at "q")
  refine ac_tupL rfl ?_
  repeat ((fail_if_success (with_reducible refine as_seq ?_)); walk_at "q")
  refine ae_frz rfl ?_
  repeat ((fail_if_success (with_reducible refine as_seq ?_)); walk_at "q")
  exact ⟨[_], rfl, ⟨rfl, rfl⟩, hk rows hF (by omega)⟩
end
end Q
-- text CB
set_option Elab.async false
set_option linter.all false
set_option maxRecDepth 100000
set_option maxHeartbeats 4000000
namespace Q
open PySem PySem.Spec PyProof.Rows L2
local macro_rules | `(tactic| walk_at "q") => `(tactic| (first
  | with_reducible refine as_seq ?_ | with_reducible refine as_ret ?_ | with_reducible refine as_if ?_ | with_reducible refine as_deal ?_ | with_reducible refine as_asg ?_ | with_reducible refine as_drop ?_ | with_reducible refine as_dput ?_
  | with_reducible refine at_test ?_ | with_reducible refine at_B ?_ | with_reducible refine at_not ?_ | with_reducible refine at_and ?_ | with_reducible refine at_or ?_
  | with_reducible refine ae_op ?_ | with_reducible refine ae_c ?_ | with_reducible refine ae_andV ?_ | with_reducible refine ae_notV ?_ | with_reducible refine ae_join ?_ | with_reducible refine ae_index ?_ | with_reducible refine ae_from1 ?_ | refine ae_un (i := 0) ?_ | refine ae_var rfl ?_ | refine ae_rd rfl ?_ | refine ae_mt rfl ?_ | with_reducible refine ae_call ?_ | with_reducible refine ae_tup ?_ | with_reducible refine ae_fld ?_ | with_reducible refine ae_cb ?_
  | with_reducible refine aa_nil ?_ | with_reducible refine aa_cons ?_
  | with_reducible refine ae_dget ?_ | with_reducible refine ae_dget2 ?_ | with_reducible refine ae_dget1 ?_ | with_reducible refine ae_din ?_ | with_reducible refine ae_dnotin ?_ | with_reducible refine ae_newK ?_ | with_reducible refine ae_newT ?_ | with_reducible refine ae_lst ?_
  | with_reducible refine ae_meth ?_ | with_reducible refine ct_yes ?_ | with_reducible refine ct_if ?_
  | refine ar_ixT rfl rfl ?_ | refine ar_ixL rfl rfl ?_ | refine ar_II ?_ | refine ar_eq rfl ?_
  | refine itT (by decide +kernel) ?_ | refine itF (by decide +kernel) ?_ | refine itF Bool.false_ne_true ?_ | refine itT rfl ?_
  | refine ⟨.inr ⟨_, _, rfl⟩, ?_⟩ | refine ⟨.inl ⟨_, _, rfl⟩, ?_⟩ | refine ⟨_, _, .T rfl, rfl, ?_⟩ | refine ⟨_, rfl, ?_⟩ | refine ⟨[_, _], rfl, Nat.le_of_ble_eq_true rfl, ?_⟩ | refine ⟨[_, _, _], rfl, Nat.le_of_ble_eq_true rfl, ?_⟩ | refine ⟨[], rfl, Nat.le_of_ble_eq_true rfl, ?_⟩ | refine ⟨[_], rfl, Nat.le_of_ble_eq_true rfl, ?_⟩
  | with_reducible refine as_forL ?_ | with_reducible refine as_forT ?_ | with_reducible refine as_forR ?_ | refine ae_app (ae_pl rfl rfl ⟨_, rfl, ⟨_, rfl⟩, ?_⟩) | refine ae_ins (ae_pl rfl rfl ⟨_, rfl, ⟨_, rfl⟩, ?_⟩) | refine ag_rd rfl ?_ | refine ag_name ?_ | refine ag_own ?_ | refine ag_tup rfl (ags_cons (ags_cons (ags_nil ?_))) | with_reducible refine as_next ?_))
def S_lsl : Spec := fun pm kk => ∃ (wd : Str) (f : Fc) (md : List (Str × Kd)), pm = [.fr .deal, .fr (tD wd), .fr f.l, .fr (ownD md)] ∧ f.V ∧ (∀ t ∈ hidK f.kinds, (look md t).isSome = true) ∧ kk (.v (.raw .non)) [] ∧
  ∀ ws : List (Str × Kd), (ws.map (·.1)).Nodup → (∀ p ∈ ws, p.1 ∈ hidK f.kinds ∧ look md p.1 = some p.2) → kk (.v (slD (some (wd, ws)))) []
def S_apart : Spec := fun pm kk => ∃ (f : Fc) (ow : List (Str × Kd)) (fu : List (Str × Sg)), pm = [.fr f.l, .fr (.tup [.lst (wsD ow), .lst (fsD fu)])] ∧ f.V ∧ (∀ p ∈ f.funs, okS p.1 = true) ∧ ow.length ≤ 1000 ∧ fu.length ≤ 1000 ∧
  ∀ b : Bool, (b = true → (∀ p ∈ f.kinds, p.1 ∉ ow.map (·.1)) ∧ ∀ p ∈ f.funs, p.1 ∉ fu.map (·.1)) → kk (.v (.raw (.bl b))) []
section
variable {P : Program} {w : World} {K : PySem.W.Frag} {mg : Str → Option Value} {base : Heap}
theorem ok_l_sl {f : Addr} {fd : FuncData} (T : Txt K mg) (F : Fun K "_law_seal" "_law_seal" s_l_seal f fd) (c_l_draw : Callee P w K mg base 1 "_law_draw" p_l_draw [] false S_draw) (c_l_hidden : Callee P w K mg base 1 "_law_hidden" p_l_hidden [] false S_lhid) :
    FnOk P w K mg base CX0 2 f fd p_l_seal (spOf false S_lsl) := by
  refine fun_ok F sc_l_seal (by decide) (fun pm k h => by obtain ⟨_, _, _, rfl, _⟩ := h; rfl) (fun cdv A outer s H X hr => ⟨_, (pss_cons (ps_if (pt_cmpR op_eq (pe_cal c_l_draw (hr.mono (by omega)) (by rfl) (pa_cons (pv 0) (pa_cons pe_int pa_nil))) pe_int (nomark _))
    (pss_one (ps_ret pe_non))
    pss_nil)
    (pss_one (ps_ret (pe_tup (pa_cons (pv 1) (pa_cons (pe_callTy call_tuple_of (by rfl) T.z_tuple (by decide +kernel) (pa_cons (pe_lc (own := [("_law_t", 4)]) (g := gName 4) (by rfl) sc_l_seal.nd (pi_list (pe_cal c_l_hidden (hr.mono (by omega)) (by rfl) (pa_cons (pe_ix ix_tup (pv 2) pe_int (fun _ _ => rfl)) pa_nil))) (blkOk_by (N := n_l_seal) (sc := defScope s_l_seal) (by decide +kernel))
        (fun _ _ _ _ _ => (pg_name (i := 4) sc_l_seal.nd rfl (Or.inl rfl))) (fun _ _ _ _ _ => pts_one (pt_cmpR op_eq (pe_cal c_l_draw (hr.mono (by omega)) (by rfl) (pa_cons (pv 0) (pa_cons pe_int pa_nil))) pe_int (nomark _)))
        (fun _ _ _ _ _ => (pe_tup (pa_cons (pv 4) (pa_cons (pe_dget (hu_of hr) (pv 3) (pv 4) (fun _ _ => rfl)) pa_nil))))) pa_nil)) pa_nil)))))), ?_⟩)
  rintro L hL pm av kk ⟨wd, f, md, rfl, hv, hs, k0, hk⟩
  repeat walk_at "q"
  refine cq0 (.fr (.fr .nil)) nl ⟨3, rfl, by decide, by decide, fun r _ _ => ?_⟩
  repeat walk_at "q"
  refine itD (fun _ => ?_) fun _ => ?_
  · repeat walk_at "q"
    exact ⟨[], rfl, rfl, k0⟩
  · repeat walk_at "q"
    refine ae_lcL ?_
    repeat walk_at "q"
    refine cq0 (.fr .nil) nl ⟨f.kinds, rfl, hv.lk, hv.k, ?_⟩
    have lh := hidK_len f.kinds
    have lk := hv.lk
    refine ⟨(hidK f.kinds).map tD, rfl, by rw [List.length_map]; omega, fun i acc G => ∃ ws : List (Str × Kd), acc = wsD ws ∧ (ws.map (·.1)).Nodup ∧ (∀ p ∈ ws, p.1 ∈ (hidK f.kinds).take i ∧ look md p.1 = some p.2) ∧ G = [.fr .deal, .fr (tD wd), .fr f.l, .fr (ownD md), .no], ⟨[], rfl, List.nodup_nil, by simp, rfl⟩, fun n acc G' h => by obtain ⟨_, _, _, _, rfl⟩ := h; exact ⟨rfl, rfl⟩, ?_, ?_⟩
    · rintro i x acc G' hx ⟨ws, rfl, nd, hw, rfl⟩
      obtain ⟨t, ht, rfl⟩ := map_get hx
      obtain ⟨v, hv2⟩ := Option.isSome_iff_exists.mp (hs t (List.mem_of_getElem? ht))
      have tn : t ∉ ws.map (·.1) := fun m => by
        obtain ⟨p, hp, rfl⟩ := List.mem_map.mp m
        exact nd_take (hidK_nd hv.nk) ht (hw p hp).1
      have hw2 : ∀ p ∈ ws, p.1 ∈ (hidK f.kinds).take (i + 1) ∧ look md p.1 = some p.2 := fun p hp => ⟨by rw [take_more ht]; exact List.mem_append.mpr (.inl (hw p hp).1), (hw p hp).2⟩
      refine aw_name (by decide) ?_
      repeat walk_at "q"
      refine cq0 (.fr (.fr .nil)) nl ⟨2, rfl, by decide, by decide, fun r _ _ => ?_⟩
      repeat walk_at "q"
      refine itD (fun _ => ?_) fun _ => ?_
      · repeat walk_at "q"
        refine ⟨_, .K' rfl (lk_some (f := Kd.d) hv2), ?_⟩
        repeat walk_at "q"
        refine ⟨ws ++ [(t, v)], by unfold wsD; rw [List.map_append]; rfl, nd_snoc nd tn, fun p hp => ?_, rfl⟩
        rcases List.mem_append.mp hp with z | z
        · exact hw2 p z
        · rw [List.mem_singleton.mp z]; exact ⟨by rw [take_more ht]; exact List.mem_append.mpr (.inr (List.mem_singleton.mpr rfl)), hv2⟩
      · exact ⟨ws, rfl, nd, hw2, rfl⟩
    · rintro acc G' _ ⟨ws, rfl, nd, hw, rfl⟩
      repeat walk_at "q"
      refine ac_tupL rfl ?_
      repeat walk_at "q"
      exact ⟨[], rfl, rfl, hk ws nd fun p hp => ⟨List.mem_of_mem_take (hw p hp).1, (hw p hp).2⟩⟩
end
end Q
-- text CC
set_option Elab.async false
set_option linter.all false
set_option maxRecDepth 100000
set_option maxHeartbeats 4000000
namespace Q
open PySem PySem.Spec PyProof.Rows L2
local macro_rules | `(tactic| walk_at "q") => `(tactic| (first
  | with_reducible refine as_seq ?_ | with_reducible refine as_ret ?_ | with_reducible refine as_if ?_ | with_reducible refine as_deal ?_ | with_reducible refine as_asg ?_ | with_reducible refine as_drop ?_ | with_reducible refine as_dput ?_
  | with_reducible refine at_test ?_ | with_reducible refine at_B ?_ | with_reducible refine at_not ?_ | with_reducible refine at_and ?_ | with_reducible refine at_or ?_
  | with_reducible refine ae_op ?_ | with_reducible refine ae_c ?_ | with_reducible refine ae_andV ?_ | with_reducible refine ae_notV ?_ | with_reducible refine ae_join ?_ | with_reducible refine ae_index ?_ | with_reducible refine ae_from1 ?_ | refine ae_un (i := 0) ?_ | refine ae_var rfl ?_ | refine ae_rd rfl ?_ | refine ae_mt rfl ?_ | with_reducible refine ae_call ?_ | with_reducible refine ae_tup ?_ | with_reducible refine ae_fld ?_ | with_reducible refine ae_cb ?_
  | with_reducible refine aa_nil ?_ | with_reducible refine aa_cons ?_
  | with_reducible refine ae_dget ?_ | with_reducible refine ae_dget2 ?_ | with_reducible refine ae_dget1 ?_ | with_reducible refine ae_din ?_ | with_reducible refine ae_dnotin ?_ | with_reducible refine ae_newK ?_ | with_reducible refine ae_newT ?_ | with_reducible refine ae_lst ?_
  | with_reducible refine ae_meth ?_ | with_reducible refine ct_yes ?_ | with_reducible refine ct_if ?_
  | refine ar_ixT rfl rfl ?_ | refine ar_ixL rfl rfl ?_ | refine ar_II ?_ | refine ar_eq rfl ?_
  | refine itT (by decide +kernel) ?_ | refine itF (by decide +kernel) ?_ | refine itF Bool.false_ne_true ?_ | refine itT rfl ?_
  | refine ⟨.inr ⟨_, _, rfl⟩, ?_⟩ | refine ⟨.inl ⟨_, _, rfl⟩, ?_⟩ | refine ⟨_, _, .T rfl, rfl, ?_⟩ | refine ⟨_, rfl, ?_⟩ | refine ⟨[_, _], rfl, Nat.le_of_ble_eq_true rfl, ?_⟩ | refine ⟨[_, _, _], rfl, Nat.le_of_ble_eq_true rfl, ?_⟩ | refine ⟨[], rfl, Nat.le_of_ble_eq_true rfl, ?_⟩ | refine ⟨[_], rfl, Nat.le_of_ble_eq_true rfl, ?_⟩
  | with_reducible refine as_forL ?_ | with_reducible refine as_forT ?_ | with_reducible refine as_forR ?_ | refine ae_app (ae_pl rfl rfl ⟨_, rfl, ⟨_, rfl⟩, ?_⟩) | refine ae_ins (ae_pl rfl rfl ⟨_, rfl, ⟨_, rfl⟩, ?_⟩) | refine ag_rd rfl ?_ | refine ag_name ?_ | refine ag_own ?_ | refine ag_tup rfl (ags_cons (ags_cons (ags_nil ?_))) | with_reducible refine as_next ?_))
def pyW (p : Str × Kd) : PyData := .tuple [.str p.1, pyK p.2]
def pyF (p : Str × Sg) : PyData := .tuple [.str p.1, pyS p.2]
theorem pyD_ws : ∀ l : List (Str × Kd), pyDs (wsD l) = some (l.map pyW)
  | [] => rfl
  | p :: l => by
    show (match (match some (PyData.str p.1), (match pyD p.2.d, some [] with | some p, some ps => some (p :: ps) | _, _ => none) with | some p, some ps => some (p :: ps) | _, _ => none).map PyData.tuple, pyDs (wsD l) with | some p, some ps => some (p :: ps) | _, _ => none) = _
    rw [pyD_K, pyD_ws l]
    rfl
theorem pyD_fs : ∀ l : List (Str × Sg), pyDs (fsD l) = some (l.map pyF)
  | [] => rfl
  | p :: l => by
    show (match (match some (PyData.str p.1), (match pyD (Sg.d p.2), some [] with | some p, some ps => some (p :: ps) | _, _ => none) with | some p, some ps => some (p :: ps) | _, _ => none).map PyData.tuple, pyDs (fsD l) with | some p, some ps => some (p :: ps) | _, _ => none) = _
    rw [pyD_S, pyD_fs l]
    rfl
theorem pyW_sh : ∀ (l : List (Str × Kd)), (∀ p ∈ l, okS p.1 = true ∧ p.2.G) → PyData.canLayAll0 (l.map pyW) = true ∧ PyData.depthAll (l.map pyW) ≤ 61
  | [], _ => ⟨rfl, by simp [PyData.depthAll]⟩
  | p :: l, h => by
    obtain ⟨a, b⟩ := pyW_sh l fun q hq => h q (List.mem_cons_of_mem _ hq)
    obtain ⟨h1, h2⟩ := h p (List.mem_cons_self ..)
    have c1 := okS_str h1
    have c2 := pyK_lay p.2 h2.1
    have c3 := pyK_dep p.2
    have c4 := h2.2
    constructor
    · simp [pyW, PyData.canLayAll0, PyData.canLay0, c1, c2, a]
    · simp only [List.map_cons, pyW, PyData.depthAll, PyData.depth]
      omega
theorem pyF_sh : ∀ (l : List (Str × Sg)), (∀ p ∈ l, okS p.1 = true ∧ (∀ a ∈ p.2.1, a.G) ∧ p.2.2.G) → PyData.canLayAll0 (l.map pyF) = true ∧ PyData.depthAll (l.map pyF) ≤ 63
  | [], _ => ⟨rfl, by simp [PyData.depthAll]⟩
  | p :: l, h => by
    obtain ⟨a, b⟩ := pyF_sh l fun q hq => h q (List.mem_cons_of_mem _ hq)
    obtain ⟨h1, h2, h3⟩ := h p (List.mem_cons_self ..)
    have c1 := okS_str h1
    have c2 := pyK_lay p.2.2 h3.1
    have c3 := pyK_dep p.2.2
    have c4 := h3.2
    have d : ∀ l : List Kd, (∀ a ∈ l, a.G) → PyData.canLayAll0 (l.map pyK) = true ∧ PyData.depthAll (l.map pyK) ≤ 60 := fun l => by
      induction l with
      | nil => intro _; exact ⟨rfl, by simp [PyData.depthAll]⟩
      | cons x l ih =>
        intro hx
        obtain ⟨i1, i2⟩ := ih fun a ha => hx a (List.mem_cons_of_mem _ ha)
        have j1 := hx x (List.mem_cons_self ..)
        have j2 := pyK_lay x j1.1
        have j3 := pyK_dep x
        have j4 := j1.2
        constructor
        · simp [PyData.canLayAll0, j2, i1]
        · simp only [List.map_cons, PyData.depthAll]; omega
    obtain ⟨d1, d2⟩ := d _ h2
    constructor
    · simp [pyF, pyS, PyData.canLayAll0, PyData.canLay0, c1, c2, a, d1]
    · simp only [List.map_cons, pyF, pyS, PyData.depthAll, PyData.depth]
      omega
theorem sh_list {xs : List PyData} {n : Nat} (h : PyData.canLayAll0 xs = true ∧ PyData.depthAll xs ≤ n) (hn : n < 64) : SeqAt.shaped (.list xs) = true := by
  unfold SeqAt.shaped
  rw [Bool.and_eq_true]
  refine ⟨h.1, decide_eq_true ?_⟩
  have := h.2
  simp only [PyData.depth]
  omega
theorem eqv_nil {α : Type} (g : α → PyData) (l : List α) : PyData.eqv (.list (l.map g)) (.list []) = decide (l = []) := by
  cases l with
  | nil => rfl
  | cons a l => rfl
theorem flt_more {α : Type} {l : List α} {i : Nat} {x : α} (p : α → Bool) (h : l[i]? = some x) : (l.take (i + 1)).filter p = if p x = true then (l.take i).filter p ++ [x] else (l.take i).filter p := by
  rw [take_more h, List.filter_append]
  by_cases e : p x = true
  · rw [if_pos e]; simp [e]
  · rw [if_neg e]; simp [e]
theorem keyD (ks : List Str) : ks.map tD = (ks.map V.str).map .raw := tDs ks
section
variable {P : Program} {w : World} {K : PySem.W.Frag} {mg : Str → Option Value} {base : Heap}
theorem ok_l_apart {f : Addr} {fd : FuncData} (T : Txt K mg) (F : Fun K "_law_apart" "_law_apart" s_l_apart f fd) : FnOk P w K mg base CX0 1 f fd p_l_apart (spOf false S_apart) := by
  refine fun_ok F sc_l_apart (by decide) (fun pm k h => by obtain ⟨_, _, _, rfl, _⟩ := h; rfl) (fun cdv A outer s H X hr => ⟨_, (pss_cons (ps_set (i := 2) sc_l_apart.nd rfl (Or.inr rfl) (pe_lc (own := [("_law_row", 4)]) (g := gName 4) (tt := tYes) (by rfl) sc_l_apart.nd (pi_list (pe_ix ix_tup (pv 1) pe_int (fun _ _ => rfl))) (blkOk_by (N := n_l_apart) (sc := defScope s_l_apart) (by decide +kernel))
        (fun _ _ _ _ _ => (pg_name (i := 4) sc_l_apart.nd rfl (Or.inl rfl))) (fun _ _ _ _ _ => pts_nil)
        (fun _ _ _ _ _ => (pe_ix (ix_tupk (K := K) rfl) (pv 4) pe_int (fun _ _ => rfl)))))
    (pss_cons (ps_set (i := 3) sc_l_apart.nd rfl (Or.inr rfl) (pe_lc (own := [("_law_row", 4)]) (g := gName 4) (tt := tYes) (by rfl) sc_l_apart.nd (pi_list (pe_ix ix_tup (pv 1) pe_int (fun _ _ => rfl))) (blkOk_by (N := n_l_apart) (sc := defScope s_l_apart) (by decide +kernel))
        (fun _ _ _ _ _ => (pg_name (i := 4) sc_l_apart.nd rfl (Or.inl rfl))) (fun _ _ _ _ _ => pts_nil)
        (fun _ _ _ _ _ => (pe_ix (ix_tupk (K := K) rfl) (pv 4) pe_int (fun _ _ => rfl)))))
    (pss_one (ps_ret (pe_and (pe_cmpR (op_eqD hr.units) (pe_lc (own := [("_law_row", 4)]) (g := gName 4) (by rfl) sc_l_apart.nd (pi_list (pe_ix ix_tup (pv 0) pe_int (fun _ _ => rfl))) (blkOk_by (N := n_l_apart) (sc := defScope s_l_apart) (by decide +kernel))
        (fun _ _ _ _ _ => (pg_name (i := 4) sc_l_apart.nd rfl (Or.inl rfl))) (fun _ _ _ _ _ => pts_one (pt_cmpR (op_in_seqk (K := K) rfl) (pe_ix (ix_tupk (K := K) rfl) (pv 4) pe_int (fun _ _ => rfl)) (pv 2) (by rfl)))
        (fun _ _ _ _ _ => (pv 4))) (pe_lst pa_nil) (nomark _)) (pe_one (pe_cmpR (op_eqD hr.units) (pe_lc (own := [("_law_row", 4)]) (g := gName 4) (by rfl) sc_l_apart.nd (pi_list (pe_ix ix_tup (pv 0) pe_int (fun _ _ => rfl))) (blkOk_by (N := n_l_apart) (sc := defScope s_l_apart) (by decide +kernel))
        (fun _ _ _ _ _ => (pg_name (i := 4) sc_l_apart.nd rfl (Or.inl rfl))) (fun _ _ _ _ _ => pts_one (pt_cmpR (op_in_seqk (K := K) rfl) (pe_ix (ix_tupk (K := K) rfl) (pv 4) pe_int (fun _ _ => rfl)) (pv 3) (by rfl)))
        (fun _ _ _ _ _ => (pv 4))) (pe_lst pa_nil) (nomark _)))))))), ?_⟩)
  rintro L hL pm av kk ⟨f, ow, fu, rfl, hv, hfo, l1, l2, hk⟩
  refine as_seq ?_
  repeat ((fail_if_success (with_reducible refine as_seq ?_)); walk_at "q")
  refine ae_lcL ?_
  repeat ((fail_if_success (with_reducible refine as_seq ?_)); walk_at "q")
  refine ⟨by unfold wsD; rw [List.length_map]; omega, fun i acc G => acc = ((ow.take i).map (·.1)).map tD ∧ G = [.fr f.l, .fr (.tup [.lst (wsD ow), .lst (fsD fu)]), .no, .no, .no], ⟨rfl, rfl⟩, fun n acc G' h => ⟨by rw [h.2]; rfl, rfl⟩, ?_, ?_⟩
  · rintro i x acc G' hx ⟨rfl, rfl⟩
    obtain ⟨p, hp, rfl⟩ := map_get hx
    refine aw_name (by decide) ?_
    repeat walk_at "q"
    refine ⟨?_, rfl⟩
    rw [take_more hp, List.map_append, List.map_append]
    rfl
  rintro acc G' _ ⟨rfl, rfl⟩
  have e1 : ow.take (wsD ow).length = ow := by unfold wsD; rw [List.length_map, List.take_length]
  have e2 : fu.take (fsD fu).length = fu := by unfold fsD; rw [List.length_map, List.take_length]
  rw [e1]
  repeat ((fail_if_success (with_reducible refine as_seq ?_)); walk_at "q")
  refine as_seq ?_
  repeat ((fail_if_success (with_reducible refine as_seq ?_)); walk_at "q")
  refine ae_lcL ?_
  repeat ((fail_if_success (with_reducible refine as_seq ?_)); walk_at "q")
  refine ⟨by unfold fsD; rw [List.length_map]; omega, fun i acc G => acc = ((fu.take i).map (·.1)).map tD ∧ G = [.fr f.l, .fr (.tup [.lst (wsD ow), .lst (fsD fu)]), .own (.lst ((ow.map (·.1)).map tD)), .no, .no], ⟨rfl, rfl⟩, fun n acc G' h => ⟨by rw [h.2]; rfl, rfl⟩, ?_, ?_⟩
  · rintro i x acc G' hx ⟨rfl, rfl⟩
    obtain ⟨p, hp, rfl⟩ := map_get hx
    refine aw_name (by decide) ?_
    repeat walk_at "q"
    refine ⟨?_, rfl⟩
    rw [take_more hp, List.map_append, List.map_append]
    rfl
  rintro acc G' _ ⟨rfl, rfl⟩
  rw [e2]
  have lk := hv.lk
  have lf := hv.lf
  repeat ((fail_if_success (with_reducible refine as_seq ?_)); walk_at "q")
  refine ae_lcL ?_
  repeat ((fail_if_success (with_reducible refine as_seq ?_)); walk_at "q")
  refine ⟨by rw [List.length_map]; omega, fun i acc G => acc = wsD ((f.kinds.take i).filter fun p => decide (p.1 ∈ ow.map (·.1))) ∧ G = [.fr f.l, .fr (.tup [.lst (wsD ow), .lst (fsD fu)]), .own (.lst ((ow.map (·.1)).map tD)), .own (.lst ((fu.map (·.1)).map tD)), .no], ⟨rfl, rfl⟩, fun n acc G' h => ⟨by rw [h.2]; rfl, rfl⟩, ?_, ?_⟩
  · rintro i x acc G' hx ⟨rfl, rfl⟩
    obtain ⟨p, hp, rfl⟩ := map_get hx
    refine aw_name (by decide) ?_
    repeat ((fail_if_success (with_reducible refine as_seq ?_)); walk_at "q")
    refine ae_pl rfl rfl ?_
    refine ar_in (vs := (ow.map (·.1)).map V.str) (by show some (D.lst _) = some (D.lst _); rw [tDs]) rfl (flatStr _) ?_
    rw [inV_str]
    repeat ((fail_if_success (with_reducible refine as_seq ?_)); walk_at "q")
    refine itD (fun h => ?_) fun h => ?_
    · repeat ((fail_if_success (with_reducible refine as_seq ?_)); walk_at "q")
      refine ⟨?_, rfl⟩
      have h : decide (p.1 ∈ ow.map (·.1)) = true := h
      rw [flt_more _ hp, if_pos h]
      unfold wsD
      rw [List.map_append]
      rfl
    · refine ⟨?_, rfl⟩
      have h : ¬ decide (p.1 ∈ ow.map (·.1)) = true := h
      rw [flt_more _ hp, if_neg h]
  rintro acc G' _ ⟨rfl, rfl⟩
  rw [show f.kinds.take (f.kinds.map fun p => prd p.1 p.2.d).length = f.kinds by rw [List.length_map, List.take_length]]
  repeat ((fail_if_success (with_reducible refine as_seq ?_)); walk_at "q")
  refine ar_eqD (p := .list ((f.kinds.filter fun p => decide (p.1 ∈ ow.map (·.1))).map pyW)) (q := .list []) (by show (pyDs _).map PyData.list = _; rw [pyD_ws]; rfl) rfl (sh_list (pyW_sh _ fun p hp => hv.k p ((List.mem_filter.mp hp).1)) (by decide)) (by decide +kernel) ?_
  rw [eqv_nil]
  repeat ((fail_if_success (with_reducible refine as_seq ?_)); walk_at "q")
  refine itD (fun h1 => ?_) fun h1 => ?_
  · have h1 : f.kinds.filter (fun p => decide (p.1 ∈ ow.map (·.1))) = [] := of_decide_eq_true h1
    repeat ((fail_if_success (with_reducible refine as_seq ?_)); walk_at "q")
    refine ae_lcL ?_
    repeat ((fail_if_success (with_reducible refine as_seq ?_)); walk_at "q")
    refine ⟨by rw [List.length_map]; omega, fun i acc G => acc = fsD ((f.funs.take i).filter fun p => decide (p.1 ∈ fu.map (·.1))) ∧ G = [.fr f.l, .fr (.tup [.lst (wsD ow), .lst (fsD fu)]), .own (.lst ((ow.map (·.1)).map tD)), .own (.lst ((fu.map (·.1)).map tD)), .no], ⟨rfl, rfl⟩, fun n acc G' h => ⟨by rw [h.2]; rfl, rfl⟩, ?_, ?_⟩
    · rintro i x acc G' hx ⟨rfl, rfl⟩
      obtain ⟨p, hp, rfl⟩ := map_get hx
      refine aw_name (by decide) ?_
      repeat ((fail_if_success (with_reducible refine as_seq ?_)); walk_at "q")
      refine ae_pl rfl rfl ?_
      refine ar_in (vs := (fu.map (·.1)).map V.str) (by show some (D.lst _) = some (D.lst _); rw [tDs]) rfl (flatStr _) ?_
      rw [inV_str]
      repeat ((fail_if_success (with_reducible refine as_seq ?_)); walk_at "q")
      refine itD (fun h => ?_) fun h => ?_
      · repeat ((fail_if_success (with_reducible refine as_seq ?_)); walk_at "q")
        refine ⟨?_, rfl⟩
        have h : decide (p.1 ∈ fu.map (·.1)) = true := h
        rw [flt_more _ hp, if_pos h]
        unfold fsD
        rw [List.map_append]
        rfl
      · refine ⟨?_, rfl⟩
        have h : ¬ decide (p.1 ∈ fu.map (·.1)) = true := h
        rw [flt_more _ hp, if_neg h]
    rintro acc G' _ ⟨rfl, rfl⟩
    rw [show f.funs.take (f.funs.map fun p => prd p.1 (Sg.d p.2)).length = f.funs by rw [List.length_map, List.take_length]]
    repeat ((fail_if_success (with_reducible refine as_seq ?_)); walk_at "q")
    refine ar_eqD (p := .list ((f.funs.filter fun p => decide (p.1 ∈ fu.map (·.1))).map pyF)) (q := .list []) (by show (pyDs _).map PyData.list = _; rw [pyD_fs]; rfl) rfl (sh_list (pyF_sh _ fun p hp => ⟨hfo p ((List.mem_filter.mp hp).1), (hv.f p ((List.mem_filter.mp hp).1)).2⟩) (by decide)) (by decide +kernel) ?_
    rw [eqv_nil]
    refine ⟨[], rfl, rfl, hk _ fun h2 => ?_⟩
    have h2 : f.funs.filter (fun p => decide (p.1 ∈ fu.map (·.1))) = [] := of_decide_eq_true h2
    constructor
    · intro p hp hm
      have : p ∈ f.kinds.filter (fun p => decide (p.1 ∈ ow.map (·.1))) := List.mem_filter.mpr ⟨hp, decide_eq_true hm⟩
      rw [h1] at this
      cases this
    · intro p hp hm
      have : p ∈ f.funs.filter (fun p => decide (p.1 ∈ fu.map (·.1))) := List.mem_filter.mpr ⟨hp, decide_eq_true hm⟩
      rw [h2] at this
      cases this
  · exact ⟨[], rfl, rfl, hk false fun h => by cases h⟩
end
end Q
-- text CD
set_option Elab.async false
set_option linter.all false
set_option maxRecDepth 100000
set_option maxHeartbeats 4000000
namespace Q
open PySem PySem.Spec PyProof.Rows L2
local macro_rules | `(tactic| walk_at "q") => `(tactic| (first
  | with_reducible refine as_seq ?_ | with_reducible refine as_ret ?_ | with_reducible refine as_if ?_ | with_reducible refine as_deal ?_ | with_reducible refine as_asg ?_ | with_reducible refine as_drop ?_ | with_reducible refine as_dput ?_
  | with_reducible refine at_test ?_ | with_reducible refine at_B ?_ | with_reducible refine at_not ?_ | with_reducible refine at_and ?_ | with_reducible refine at_or ?_
  | with_reducible refine ae_op ?_ | with_reducible refine ae_c ?_ | with_reducible refine ae_andV ?_ | with_reducible refine ae_notV ?_ | with_reducible refine ae_join ?_ | with_reducible refine ae_index ?_ | with_reducible refine ae_from1 ?_ | refine ae_un (i := 0) ?_ | refine ae_var rfl ?_ | refine ae_rd rfl ?_ | refine ae_mt rfl ?_ | with_reducible refine ae_call ?_ | with_reducible refine ae_tup ?_ | with_reducible refine ae_fld ?_ | with_reducible refine ae_cb ?_
  | with_reducible refine aa_nil ?_ | with_reducible refine aa_cons ?_
  | with_reducible refine ae_dget ?_ | with_reducible refine ae_dget2 ?_ | with_reducible refine ae_dget1 ?_ | with_reducible refine ae_din ?_ | with_reducible refine ae_dnotin ?_ | with_reducible refine ae_newK ?_ | with_reducible refine ae_newT ?_ | with_reducible refine ae_lst ?_
  | with_reducible refine ae_meth ?_ | with_reducible refine ct_yes ?_ | with_reducible refine ct_if ?_
  | refine ar_ixT rfl rfl ?_ | refine ar_ixL rfl rfl ?_ | refine ar_II ?_ | refine ar_eq rfl ?_
  | refine itT (by decide +kernel) ?_ | refine itF (by decide +kernel) ?_ | refine itF Bool.false_ne_true ?_ | refine itT rfl ?_
  | refine ⟨.inr ⟨_, _, rfl⟩, ?_⟩ | refine ⟨.inl ⟨_, _, rfl⟩, ?_⟩ | refine ⟨_, _, .T rfl, rfl, ?_⟩ | refine ⟨_, rfl, ?_⟩ | refine ⟨[_, _], rfl, Nat.le_of_ble_eq_true rfl, ?_⟩ | refine ⟨[_, _, _], rfl, Nat.le_of_ble_eq_true rfl, ?_⟩ | refine ⟨[], rfl, Nat.le_of_ble_eq_true rfl, ?_⟩ | refine ⟨[_], rfl, Nat.le_of_ble_eq_true rfl, ?_⟩
  | with_reducible refine as_forL ?_ | with_reducible refine as_forT ?_ | with_reducible refine as_forR ?_ | refine ae_app (ae_pl rfl rfl ⟨_, rfl, ⟨_, rfl⟩, ?_⟩) | refine ae_ins (ae_pl rfl rfl ⟨_, rfl, ⟨_, rfl⟩, ?_⟩) | refine ag_rd rfl ?_ | refine ag_name ?_ | refine ag_own ?_ | refine ag_tup rfl (ags_cons (ags_cons (ags_nil ?_))) | with_reducible refine as_next ?_))
def S_direct (C : Addr) : Spec := fun pm kk => ∃ (sl : Sl) (its : List It) (W : List Str) (rows : List FRow) (faces parts : Parts) (mv : List (Str × Str)),
  pm = [.fr (.tup [slD sl, .lst (its.map It.d)]), .rd (.lst (W.map tD)), .fr (.lst (rows.map fwD)), .rd (partsD C faces), .rd (partsD C parts)] ∧ rows.length ≤ 4 ∧ its.length ≤ 100 ∧ mv.length = rows.length ∧
  (∀ i r, rows[i]? = some r → ∃ w', W[9 + i]? = some w' ∧ mv[i]? = some (r.x, w')) ∧ (mv.map (·.1)).Nodup ∧ (∀ it ∈ its, it.dp) ∧ (∀ w ws, sl = some (w, ws) → ws.length ≤ 100 ∧ ∀ p ∈ ws, p.2.dep < 100) ∧ FullOk parts (its.map (mvI mv)) ∧ WantOk faces parts (mvS mv sl) ∧
  kk (.v (.tup [(fullN parts (its.map (mvI mv))).o C, match wantN faces parts (mvS mv sl) with | none => .raw .non | some f => f.o C])) []
theorem mD_more (m : List (Str × Str)) (x y : Str) : mD (m ++ [(x, y)]) = .dK (m.map (·.1) ++ [x]) ((m.map fun p => tD p.2) ++ [tD y]) := by unfold mD; rw [List.map_append, List.map_append]; rfl
section
variable {P : Program} {w : World} {K : PySem.W.Frag} {mg : Str → Option Value} {base : Heap}
theorem ok_l_direct {f : Addr} {fd : FuncData} (T : Txt K mg) (F : Fun K "_law_direct" "_law_direct" s_l_direct f fd) (c_l_moved_item : Callee P w K mg base 101 "_law_moved_item" p_l_moved_item [] false S_mitem) (c_l_moved_seal : Callee P w K mg base 101 "_law_moved_seal" p_l_moved_seal [] false S_mseal)
    (c_full_face : Callee P w K mg base 103 "full_face" p_full_face [.int 40] true (S_full T.C_Face)) (c_wanted : Callee P w K mg base 105 "wanted" p_wanted [] true (S_wanted T.C_Face)) :
    FnOk P w K mg base CX0 106 f fd p_l_direct (spOf true (S_direct T.C_Face)) := by
  refine fun_ok F sc_l_direct (by decide) (fun pm k h => by obtain ⟨_, _, _, _, _, _, _, rfl, _⟩ := h; rfl) (fun cdv A outer s H X hr => ⟨_, (pss_cons (ps_asg (pv 0) (pg_tup (by rfl) (pgs_cons (pg_name (i := 5) sc_l_direct.nd rfl (Or.inl rfl)) (pgs_cons (pg_name (i := 6) sc_l_direct.nd rfl (Or.inl rfl)) pgs_nil))))
    (pss_cons (ps_set (i := 7) sc_l_direct.nd rfl (Or.inr rfl) pe_dnewK)
    (pss_cons (ps_for PassesOwn.never rfl (pi_range1 (by rfl) T.z_range (pa_cons (pe_callB call_len_seq (by rfl) T.z_len PySem.boot_len (pa_cons (pv 2) pa_nil)) pa_nil)) (pg_name (i := 8) sc_l_direct.nd rfl (Or.inl rfl))
    (pss_one (ps_dput (hu_of hr) (pv 7) (pe_ix ix_tup (pe_ix ix_list (pv 2) (pv 8) (fun _ _ => rfl)) pe_int (fun _ _ => rfl)) (pe_ix ix_list (pv 1) (pe_op op_add pe_int (pv 8)) (fun _ _ => rfl)) rfl)))
    (pss_cons (ps_set (i := 9) sc_l_direct.nd rfl (Or.inl rfl) (pe_cal c_full_face (hr.mono (by omega)) (by rfl) (pa_cons (pe_callTy call_tuple_of (by rfl) T.z_tuple (by decide +kernel) (pa_cons (pe_lc (own := [("_law_item", 10)]) (g := gName 10) (tt := tYes) (by rfl) sc_l_direct.nd (pi_list (pv 6)) (blkOk_by (N := n_l_direct) (sc := defScope s_l_direct) (by decide +kernel))
        (fun _ _ _ _ _ => (pg_name (i := 10) sc_l_direct.nd rfl (Or.inl rfl))) (fun _ _ _ _ _ => pts_nil)
        (fun _ _ _ _ _ => (pe_cal c_l_moved_item (hr.mono (by omega)) (by rfl) (pa_cons (pv 10) (pa_cons (pv 7) pa_nil))))) pa_nil)) (pa_cons (pv 4) pa_nil))))
    (pss_one (ps_ret (pe_tup (pa_cons (pv 9) (pa_cons (pe_cal c_wanted (hr.mono (by omega)) (by rfl) (pa_cons (pe_cal c_l_moved_seal (hr.mono (by omega)) (by rfl) (pa_cons (pv 5) (pa_cons (pv 7) pa_nil))) (pa_cons (pv 3) (pa_cons (pv 4) pa_nil)))) pa_nil))))))))), ?_⟩)
  rintro L hL pm av kk ⟨sl, its, W, rows, faces, parts, mv, rfl, lr, li, lm, hmv, nd, hdp, hsl, hf, hw, hk⟩
  repeat ((fail_if_success (with_reducible refine as_seq ?_)); walk_at "q")
  refine as_seq ?_
  repeat ((fail_if_success (with_reducible refine as_seq ?_)); walk_at "q")
  refine as_seq ?_
  repeat ((fail_if_success (with_reducible refine as_seq ?_)); walk_at "q")
  refine as_seq ?_
  repeat ((fail_if_success (with_reducible refine as_seq ?_)); walk_at "q")
  refine ac_lenL rfl ?_
  repeat ((fail_if_success (with_reducible refine as_seq ?_)); walk_at "q")
  refine ⟨by rw [List.length_map]; omega, fun i G => G = [.fr (.tup [slD sl, .lst (its.map It.d)]), .rd (.lst (W.map tD)), .fr (.lst (rows.map fwD)), .rd (partsD T.C_Face faces), .rd (partsD T.C_Face parts), .fr (slD sl), .fr (.lst (its.map It.d)), .own (mD (mv.take i)), .no, .no, .no], ⟨_, (by repeat (first | exact Wk.nil | refine Wk.keep ?_ | refine Wk.drop ?_)), rfl⟩, ?_, ?_⟩
  · rintro i G hi rfl
    rw [List.length_map] at hi
    have er : rows[i]? = some rows[i] := List.getElem?_eq_getElem hi
    obtain ⟨w', ew, em⟩ := hmv i _ er
    have e9 : atI (W.map tD) ((9 : Int) + (i : Int)) = some (tD w') := by
      have e : (9 : Int) + (i : Int) = ((9 + i : Nat) : Int) := by omega
      rw [e]
      exact atI_nat (by rw [List.getElem?_map, ew]; rfl)
    have e0 : atI (rows.map fwD) (i : Int) = some (fwD rows[i]) := atI_nat (by rw [List.getElem?_map, er]; rfl)
    repeat ((fail_if_success (with_reducible refine as_seq ?_)); walk_at "q")
    refine ar_ixL rfl e9 ?_
    refine ae_pl rfl rfl ?_
    repeat ((fail_if_success (with_reducible refine as_seq ?_)); walk_at "q")
    refine ar_ixL rfl e0 ?_
    repeat ((fail_if_success (with_reducible refine as_seq ?_)); walk_at "q")
    refine ⟨_, _, _, _, _, rfl, rfl, rfl, rfl, rfl, .K (key_take nd em) (by rw [List.length_map, List.length_take]; omega), ?_⟩
    refine ⟨_, ?_, rfl⟩
    rw [take_more em, mD_more]
    repeat (first | exact Wk.nil | refine Wk.keep ?_ | refine Wk.drop ?_)
  rintro G rfl
  have e1 : mv.take (rows.map fwD).length = mv := by rw [List.length_map, ← lm, List.take_length]
  rw [e1]
  refine as_seq ?_
  repeat ((fail_if_success (with_reducible refine as_seq ?_)); walk_at "q")
  refine ae_lcL ?_
  repeat ((fail_if_success (with_reducible refine as_seq ?_)); walk_at "q")
  refine ⟨by rw [List.length_map]; omega, fun i acc G => acc = ((its.take i).map (mvI mv)).map It.d ∧ G = [.fr (.tup [slD sl, .lst (its.map It.d)]), .rd (.lst (W.map tD)), .fr (.lst (rows.map fwD)), .rd (partsD T.C_Face faces), .rd (partsD T.C_Face parts), .fr (slD sl), .fr (.lst (its.map It.d)), .own (mD mv), .no, .no, .no], ⟨rfl, rfl⟩, fun n acc G' h => ⟨by rw [h.2]; rfl, by rw [h.2]; rfl⟩, ?_, ?_⟩
  · rintro i x acc G' hx ⟨rfl, rfl⟩
    obtain ⟨it, hit, rfl⟩ := map_get hx
    refine aw_name (by decide) ?_
    repeat walk_at "q"
    refine ae_pl rfl rfl ?_
    repeat walk_at "q"
    refine cq0 (.fr (.rdp rfl rfl .nil)) nl ⟨it, mv, rfl, hdp it (List.mem_of_getElem? hit), ?_⟩
    refine ⟨_, rfl, ?_, rfl⟩
    rw [take_more hit, List.map_append, List.map_append]
    rfl
  rintro acc G' _ ⟨rfl, rfl⟩
  rw [show its.take (its.map It.d).length = its by rw [List.length_map, List.take_length]]
  repeat ((fail_if_success (with_reducible refine as_seq ?_)); walk_at "q")
  refine ac_tupL rfl ?_
  repeat ((fail_if_success (with_reducible refine as_seq ?_)); walk_at "q")
  refine cq0 (.fr (.rdp rfl rfl (.fr .nil))) hL ⟨its.map (mvI mv), parts, rfl, hf, ?_⟩
  repeat ((fail_if_success (with_reducible refine as_seq ?_)); walk_at "q")
  refine ae_pl rfl rfl ?_
  repeat ((fail_if_success (with_reducible refine as_seq ?_)); walk_at "q")
  refine cq0 (.fr (.rdp rfl rfl .nil)) nl ⟨sl, mv, rfl, hsl, ?_⟩
  repeat ((fail_if_success (with_reducible refine as_seq ?_)); walk_at "q")
  refine cq0 (.fr (.rdp rfl rfl (.rdp rfl rfl .nil))) hL ⟨mvS mv sl, faces, parts, rfl, hw, ?_⟩
  cases hR : wantN faces parts (mvS mv sl) with
  | none =>
    rw [hR] at hk
    repeat ((fail_if_success (with_reducible refine as_seq ?_)); walk_at "q")
    exact ⟨[], rfl, rfl, hk⟩
  | some R =>
    rw [hR] at hk
    repeat ((fail_if_success (with_reducible refine as_seq ?_)); walk_at "q")
    exact ⟨[], rfl, rfl, hk⟩
end
end Q
-- text M9
set_option Elab.async false
set_option linter.all false
/-! The mathematics, part 9: the items. -/
namespace Q
open PySem
def isH (p : Str × Kd) : Bool := decide (p.2 = .nm "" p.1)
def ordK (l : List (Str × Kd)) : List (Str × Kd) := l.filter isH ++ l.filter fun p => !isH p
def ItC (N : Gv) (t : Str) (k0 k : Kd) : Prop := if k0 = .nm "" t then k.words ≤ 5 ∧ (k.All fun q t => (q, t) ∈ N.map (·.1)) ∧ (k.put N).words ≤ 40 else k = k0
structure ItOk (N : Gv) (o its : List (Str × Kd)) : Prop where
  l : its.length = o.length
  k : ∀ (j : Nat) (t : Str) (k0 : Kd), o[j]? = some (t, k0) → ∃ k, its[j]? = some (t, k) ∧ ItC N t k0 k
theorem ItOk.snoc {N : Gv} {o its : List (Str × Kd)} (h : ItOk N o its) {t : Str} {k0 k : Kd} (c : ItC N t k0 k) : ItOk N (o ++ [(t, k0)]) (its ++ [(t, k)]) := by
  refine ⟨by rw [List.length_append, List.length_append, h.l]; rfl, fun j u m e => ?_⟩
  by_cases hj : j < o.length
  · rw [List.getElem?_append_left hj] at e
    rw [List.getElem?_append_left (by rw [h.l]; exact hj)]
    exact h.k j u m e
  · have hj2 : j = o.length := by
      have := (List.getElem?_eq_some_iff.mp e).1
      simp at this
      omega
    subst hj2
    have e : (o ++ [(t, k0)])[o.length]? = some (u, m) := e
    rw [List.getElem?_append_right (Nat.le_refl _)] at e
    simp at e
    obtain ⟨rfl, rfl⟩ := e
    refine ⟨k, ?_, c⟩
    rw [← h.l, List.getElem?_append_right (Nat.le_refl _)]
    simp
theorem ItOk.keys {N : Gv} {o its : List (Str × Kd)} (h : ItOk N o its) : its.map (·.1) = o.map (·.1) := by
  apply List.ext_getElem?
  intro j
  rw [List.getElem?_map, List.getElem?_map]
  cases e : o[j]? with
  | none =>
    have : its[j]? = none := by rw [List.getElem?_eq_none_iff] at e ⊢; rw [h.l]; exact e
    rw [this]
  | some p =>
    obtain ⟨k, e2, _⟩ := h.k j p.1 p.2 e
    rw [e2]; rfl
def ownL (N : Gv) (its : List (Str × Kd)) : List (Str × Kd) := its.foldl (fun acc p => acc ++ [(p.1, (p.2.put N).put (knowG "" acc))]) []
theorem ownL_snoc (N : Gv) (its : List (Str × Kd)) (t : Str) (k : Kd) : ownL N (its ++ [(t, k)]) = ownL N its ++ [(t, (k.put N).put (knowG "" (ownL N its)))] := by
  unfold ownL
  rw [List.foldl_append]
  rfl
theorem ownL_keys (N : Gv) : ∀ (n : Nat) (its : List (Str × Kd)), its.length = n → (ownL N its).map (·.1) = its.map (·.1)
  | 0, its, h => by rw [List.length_eq_zero_iff] at h; subst h; rfl
  | n + 1, its, h => by
    have hne : its ≠ [] := fun e => by rw [e] at h; cases h
    obtain ⟨t, k, e⟩ : ∃ t k, its = its.dropLast ++ [(t, k)] := ⟨(its.getLast hne).1, (its.getLast hne).2, (List.dropLast_concat_getLast hne).symm⟩
    rw [e, ownL_snoc, List.map_append, List.map_append, ownL_keys N n _ (by rw [List.length_dropLast, h]; rfl)]
    rfl
theorem ord_nd {l : List (Str × Kd)} (h : (l.map (·.1)).Nodup) : ((ordK l).map (·.1)).Nodup := by
  unfold ordK
  rw [List.map_append]
  refine List.nodup_append.mpr ⟨(List.Sublist.map _ List.filter_sublist).nodup h, (List.Sublist.map _ List.filter_sublist).nodup h, fun a ha b hb e => ?_⟩
  obtain ⟨p, hp, rfl⟩ := List.mem_map.mp ha
  obtain ⟨q, hq, rfl⟩ := List.mem_map.mp hb
  obtain ⟨p1, p2⟩ := List.mem_filter.mp hp
  obtain ⟨q1, q2⟩ := List.mem_filter.mp hq
  have e1 := look_nd h (v := p.2) (t := p.1) p1
  have e2 := look_nd h (v := q.2) (t := q.1) q1
  rw [← e, e1] at e2
  have e3 : p = q := Prod.ext e (Option.some.inj e2)
  rw [e3] at p2
  rw [p2] at q2
  cases q2
theorem ord_mem {l : List (Str × Kd)} {p : Str × Kd} : p ∈ ordK l ↔ p ∈ l := by
  unfold ordK
  rw [List.mem_append, List.mem_filter, List.mem_filter]
  constructor
  · rintro (h | h) <;> exact h.1
  · intro h
    cases e : isH p
    · exact .inr ⟨h, by rfl⟩
    · exact .inl ⟨h, rfl⟩
theorem ord_len (l : List (Str × Kd)) : (ordK l).length = l.length := by
  unfold ordK
  rw [List.length_append]
  induction l with
  | nil => rfl
  | cons p l ih =>
    rw [List.filter_cons, List.filter_cons]
    cases isH p <;> simp <;> omega
/-- the parameters' words -/
def abP : Nat → List Kd → List (Str × Kd)
  | _, [] => []
  | i, a :: r => (⟨#[97 + i]⟩, a) :: abP (i + 1) r
theorem abP_len : ∀ (l : List Kd) (i : Nat), (abP i l).length = l.length
  | [], _ => rfl
  | _ :: l, i => by show (abP (i + 1) l).length + 1 = _; rw [abP_len l]; rfl
theorem abP_get : ∀ (l : List Kd) (i j : Nat) {a : Kd}, l[j]? = some a → (abP i l)[j]? = some (⟨#[97 + (i + j)]⟩, a)
  | b :: l, i, 0, a, h => by
    have e : b = a := Option.some.inj h
    subst e
    rfl
  | b :: l, i, j + 1, a, h => by
    have h : l[j]? = some a := h
    have := abP_get l (i + 1) j h
    rw [show i + 1 + j = i + (j + 1) by omega] at this
    exact this
theorem abP_snd : ∀ (l : List Kd) (i : Nat), (abP i l).map (·.2) = l
  | [], _ => rfl
  | a :: l, i => by show a :: (abP (i + 1) l).map (·.2) = _; rw [abP_snd l]
def kItem (p : Str × Kd) : It := .kind p.1 p.2
def fItem (p : Str × Sg) : It := .fn p.1 (abP 0 p.2.1) p.2.2
/-- an item's kinds are shallow -/
theorem ItC.dep {N : Gv} {t : Str} {k0 k : Kd} (c : ItC N t k0 k) (h : k0.dep < 60) : k.dep < 60 := by
  unfold ItC at c
  split at c
  · have := k.dep_le; omega
  · rw [c]; exact h
theorem ord_hid {l : List (Str × Kd)} {i : Nat} {p : Str × Kd} (h : (ordK l)[i]? = some p) : isH p = true ↔ i < (l.filter isH).length := by
  unfold ordK at h
  by_cases hi : i < (l.filter isH).length
  · rw [List.getElem?_append_left hi] at h
    exact ⟨fun _ => hi, fun _ => (List.mem_filter.mp (List.mem_of_getElem? h)).2⟩
  · rw [List.getElem?_append_right (by omega)] at h
    have := (List.mem_filter.mp (List.mem_of_getElem? h)).2
    exact ⟨fun e => (by rw [e] at this; cases this), fun e => absurd e hi⟩
theorem Nm.gk {N : Gv} (h : Nm N) : Gk 39 N := ⟨fun p hp => by
  obtain ⟨a, b, _⟩ := h.v p hp
  exact ⟨a, by have := p.2.dep_le; omega⟩⟩
end Q
-- text CE
set_option Elab.async false
set_option linter.all false
set_option maxRecDepth 100000
set_option maxHeartbeats 4000000
namespace Q
open PySem PySem.Spec PyProof.Rows L2
local macro_rules | `(tactic| walk_at "q") => `(tactic| (first
  | with_reducible refine as_seq ?_ | with_reducible refine as_ret ?_ | with_reducible refine as_if ?_ | with_reducible refine as_deal ?_ | with_reducible refine as_asg ?_ | with_reducible refine as_drop ?_ | with_reducible refine as_dput ?_
  | with_reducible refine at_test ?_ | with_reducible refine at_B ?_ | with_reducible refine at_not ?_ | with_reducible refine at_and ?_ | with_reducible refine at_or ?_
  | with_reducible refine ae_op ?_ | with_reducible refine ae_c ?_ | with_reducible refine ae_andV ?_ | with_reducible refine ae_notV ?_ | with_reducible refine ae_join ?_ | with_reducible refine ae_index ?_ | with_reducible refine ae_from1 ?_ | refine ae_un (i := 0) ?_ | refine ae_var rfl ?_ | refine ae_rd rfl ?_ | refine ae_mt rfl ?_ | with_reducible refine ae_call ?_ | with_reducible refine ae_tup ?_ | with_reducible refine ae_fld ?_ | with_reducible refine ae_cb ?_
  | with_reducible refine aa_nil ?_ | with_reducible refine aa_cons ?_
  | with_reducible refine ae_dget ?_ | with_reducible refine ae_dget2 ?_ | with_reducible refine ae_dget1 ?_ | with_reducible refine ae_din ?_ | with_reducible refine ae_dnotin ?_ | with_reducible refine ae_newK ?_ | with_reducible refine ae_newT ?_ | with_reducible refine ae_lst ?_
  | with_reducible refine ae_meth ?_ | with_reducible refine ct_yes ?_ | with_reducible refine ct_if ?_
  | refine ar_ixT rfl rfl ?_ | refine ar_ixL rfl rfl ?_ | refine ar_II ?_ | refine ar_eq rfl ?_
  | refine itT (by decide +kernel) ?_ | refine itF (by decide +kernel) ?_ | refine itF Bool.false_ne_true ?_ | refine itT rfl ?_
  | refine ⟨.inr ⟨_, _, rfl⟩, ?_⟩ | refine ⟨.inl ⟨_, _, rfl⟩, ?_⟩ | refine ⟨_, _, .T rfl, rfl, ?_⟩ | refine ⟨_, rfl, ?_⟩ | refine ⟨[_, _], rfl, Nat.le_of_ble_eq_true rfl, ?_⟩ | refine ⟨[_, _, _], rfl, Nat.le_of_ble_eq_true rfl, ?_⟩ | refine ⟨[], rfl, Nat.le_of_ble_eq_true rfl, ?_⟩ | refine ⟨[_], rfl, Nat.le_of_ble_eq_true rfl, ?_⟩
  | with_reducible refine as_forL ?_ | with_reducible refine as_forT ?_ | with_reducible refine as_forR ?_ | refine ae_app (ae_pl rfl rfl ⟨_, rfl, ⟨_, rfl⟩, ?_⟩) | refine ae_ins (ae_pl rfl rfl ⟨_, rfl, ⟨_, rfl⟩, ?_⟩) | refine ag_rd rfl ?_ | refine ag_name ?_ | refine ag_own ?_ | refine ag_tup rfl (ags_cons (ags_cons (ags_nil ?_))) | with_reducible refine as_next ?_))
def S_items : Spec := fun pm kk => ∃ (res : Fc) (ls : List Kd) (w0 : Str) (N : Gv), pm = [.fr .deal, .fr res.l, .rd (gD N)] ∧ FaceOk ls res ∧ LsOk w0 ls ∧ Nm N ∧ N.length ≤ 50 ∧
  ∀ its : List (Str × Kd), ItOk N (ordK res.kinds) its → kk (.v (.tup [.lst ((its.map kItem ++ res.funs.map fItem).map It.d), .lst (wsD (ownL N its)), .lst (fsD (putF (knowG "" (ownL N its)) res.funs)), ownD (its.take (res.kinds.filter isH).length)])) []
theorem knowG_snoc (q : Str) (l : List (Str × Kd)) (t : Str) (k : Kd) : knowG q (l ++ [(t, k)]) = knowG q l ++ [((q, t), k)] := by unfold knowG; rw [List.map_append]; rfl
theorem wsD_snoc (l : List (Str × Kd)) (t : Str) (k : Kd) : wsD (l ++ [(t, k)]) = wsD l ++ [prd t k.d] := by unfold wsD; rw [List.map_append]; rfl
theorem wsD_len (l : List (Str × Kd)) : (wsD l).length = l.length := by unfold wsD; rw [List.length_map]
section
variable {P : Program} {w : World} {K : PySem.W.Frag} {mg : Str → Option Value} {base : Heap}
theorem ok_l_items {f : Addr} {fd : FuncData} (T : Txt K mg) (F : Fun K "_law_items" "_law_items" s_l_items f fd)
    (c_l_kind : Callee P w K mg base 110 "_law_kind" p_l_kind [] false (S_kind 10)) (c_l_far : Callee P w K mg base 1 "_law_far" p_l_far [] true S_far) (c_l_size : Callee P w K mg base 100 "_law_size" p_l_size [] false (S_words 100))
    (c_l_put : Callee P w K mg base 100 "_law_put" p_l_put [] false (S_put 100)) (c_l_put_all : Callee P w K mg base 101 "_law_put_all" p_l_put_all [] false S_pall) :
    FnOk P w K mg base CX0 111 f fd p_l_items (spOf true S_items) := by
  refine fun_ok F sc_l_items (by decide) (fun pm k h => by obtain ⟨_, _, _, _, rfl, _⟩ := h; rfl) (fun cdv A outer s H X hr => ⟨_, (pss_cons (ps_set (i := 3) sc_l_items.nd rfl (Or.inl rfl) (pe_lst pa_nil))
    (pss_cons (ps_set (i := 4) sc_l_items.nd rfl (Or.inl rfl) (pe_lst pa_nil))
    (pss_cons (ps_set (i := 5) sc_l_items.nd rfl (Or.inl rfl) pe_dnewK)
    (pss_cons (ps_set (i := 6) sc_l_items.nd rfl (Or.inl rfl) pe_dnewT)
    (pss_cons (ps_setLc (i := 7) (own := [("_law_row", 13)]) (g := gName 13) (by rfl) sc_l_items.nd rfl rfl (sw_true rfl rfl rfl (by decide +kernel)) (pi_list (pe_ix ix_tup (pv 1) pe_int (fun _ _ => rfl))) (blkOk_by (N := n_l_items) (sc := defScope s_l_items) (by decide +kernel))
        (fun _ _ _ _ _ => (pg_name (i := 13) sc_l_items.nd rfl (Or.inl rfl))) (fun _ _ _ _ _ => pts_one (pt_cmpR (op_eqDk (K := K) rfl hr.units) (pe_ix (ix_tupk (K := K) rfl) (pv 13) pe_int (fun _ _ => rfl)) (pe_tup (pa_cons pe_str (pa_cons pe_str (pa_cons (pe_ix (ix_tupk (K := K) rfl) (pv 13) pe_int (fun _ _ => rfl)) pa_nil)))) (nomark _)))
        (fun _ _ _ _ _ => (pv 13)))
    (pss_cons (ps_set (i := 7) sc_l_items.nd rfl (Or.inl rfl) (pe_op op_cat (pv 7) (pe_lc (own := [("_law_row", 13)]) (g := gName 13) (by rfl) sc_l_items.nd (pi_list (pe_ix ix_tup (pv 1) pe_int (fun _ _ => rfl))) (blkOk_by (N := n_l_items) (sc := defScope s_l_items) (by decide +kernel))
        (fun _ _ _ _ _ => (pg_name (i := 13) sc_l_items.nd rfl (Or.inl rfl))) (fun _ _ _ _ _ => pts_one (pt_cmpR (op_neDk (K := K) rfl hr.units) (pe_ix (ix_tupk (K := K) rfl) (pv 13) pe_int (fun _ _ => rfl)) (pe_tup (pa_cons pe_str (pa_cons pe_str (pa_cons (pe_ix (ix_tupk (K := K) rfl) (pv 13) pe_int (fun _ _ => rfl)) pa_nil)))) (nomark _)))
        (fun _ _ _ _ _ => (pv 13)))))
    (pss_cons (ps_for PassesOwn.never rfl (pi_list (pv 7)) (pg_tup (by rfl) (pgs_cons (pg_name (i := 8) sc_l_items.nd rfl (Or.inl rfl)) (pgs_cons (pg_name (i := 9) sc_l_items.nd rfl (Or.inl rfl)) pgs_nil)))
    (pss_cons (ps_if (pt_cmpR (op_eqD hr.units) (pv 9) (pe_tup (pa_cons pe_str (pa_cons pe_str (pa_cons (pv 8) pa_nil)))) (nomark _))
    (pss_cons (ps_set (i := 9) sc_l_items.nd rfl (Or.inl rfl) (pe_cal c_l_kind (hr.mono (by omega)) (by rfl) (pa_cons (pv 0) (pa_cons (pe_cal c_l_far (hr.mono (by omega)) (by rfl) (pa_cons (pv 2) pa_nil)) (pa_cons pe_int pa_nil)))))
    (pss_cons (ps_if (pt_cmpR op_gt (pe_cal c_l_size (hr.mono (by omega)) (by rfl) (pa_cons (pe_cal c_l_put (hr.mono (by omega)) (by rfl) (pa_cons (pv 9) (pa_cons (pv 2) pa_nil))) pa_nil)) pe_int (nomark _))
    (pss_one (ps_set (i := 9) sc_l_items.nd rfl (Or.inl rfl) (pe_tup (pa_cons pe_str (pa_cons pe_int pa_nil)))))
    pss_nil)
    (pss_one (ps_dput (hu_of hr) (pv 5) (pv 8) (pv 9) rfl))))
    pss_nil)
    (pss_cons (ps_set (i := 10) sc_l_items.nd rfl (Or.inl rfl) (pe_cal c_l_put (hr.mono (by omega)) (by rfl) (pa_cons (pe_cal c_l_put (hr.mono (by omega)) (by rfl) (pa_cons (pv 9) (pa_cons (pv 2) pa_nil))) (pa_cons (pv 6) pa_nil))))
    (pss_cons (ps_expr (pe_bm PySem.F.plainAttrs_list PySem.F.slot_list_append PySem.F.type_list_append mt_append (pv 3) (pa_cons (pe_tup (pa_cons pe_str (pa_cons (pv 8) (pa_cons (pv 9) pa_nil)))) pa_nil)))
    (pss_cons (ps_expr (pe_bm PySem.F.plainAttrs_list PySem.F.slot_list_append PySem.F.type_list_append mt_append (pv 4) (pa_cons (pe_tup (pa_cons (pv 8) (pa_cons (pv 10) pa_nil))) pa_nil)))
    (pss_one (ps_dput (hu_of hr) (pv 6) (pe_tup (pa_cons pe_str (pa_cons (pv 8) pa_nil))) (pv 10) rfl)))))))
    (pss_cons (ps_set (i := 11) sc_l_items.nd rfl (Or.inl rfl) (pe_ix ix_tup (pe_cal c_l_put_all (hr.mono (by omega)) (by rfl) (pa_cons (pe_tup (pa_cons (pe_lst pa_nil) (pa_cons (pe_ix ix_tup (pv 1) pe_int (fun _ _ => rfl)) pa_nil))) (pa_cons (pv 6) pa_nil))) pe_int (fun _ _ => rfl)))
    (pss_cons (ps_for PassesOwn.never rfl (pi_list (pe_ix ix_tup (pv 1) pe_int (fun _ _ => rfl))) (pg_tup (by rfl) (pgs_cons (pg_name (i := 12) sc_l_items.nd rfl (Or.inl rfl)) (pgs_cons (pg_name (i := 13) sc_l_items.nd rfl (Or.inr rfl)) pgs_nil)))
    (pss_cons (ps_set (i := 14) sc_l_items.nd rfl (Or.inl rfl) (pe_callTy call_tuple_of (by rfl) T.z_tuple (by decide +kernel) (pa_cons (pe_lc (own := [("_law_k", 15)]) (g := gName 15) (tt := tYes) (by rfl) sc_l_items.nd (pi_range1 (by rfl) T.z_range (pa_cons (pe_callB call_len_seq (by rfl) T.z_len PySem.boot_len (pa_cons (pe_ix ix_tup (pv 13) pe_int (fun _ _ => rfl)) pa_nil)) pa_nil)) (blkOk_by (N := n_l_items) (sc := defScope s_l_items) (by decide +kernel))
        (fun _ _ _ _ _ => (pg_name (i := 15) sc_l_items.nd rfl (Or.inl rfl))) (fun _ _ _ _ _ => pts_nil)
        (fun _ _ _ _ _ => (pe_tup (pa_cons (pe_ix ix_str pe_str (pv 15) (fun _ _ => rfl)) (pa_cons (pe_ix (ix_tupk (K := K) rfl) (pe_ix (ix_tupk (K := K) rfl) (pv 13) pe_int (fun _ _ => rfl)) (pv 15) (fun _ _ => rfl)) pa_nil))))) pa_nil)))
    (pss_one (ps_expr (pe_bm PySem.F.plainAttrs_list PySem.F.slot_list_append PySem.F.type_list_append mt_append (pv 3) (pa_cons (pe_tup (pa_cons pe_str (pa_cons (pv 12) (pa_cons (pv 14) (pa_cons (pe_ix ix_tup (pv 13) pe_int (fun _ _ => rfl)) (pa_cons (pe_tup (pa_cons pe_str (pa_cons pe_str pa_nil))) pa_nil)))))) pa_nil))))))
    (pss_one (ps_ret (pe_tup (pa_cons (pv 3) (pa_cons (pv 4) (pa_cons (pv 11) (pa_cons (pv 5) pa_nil)))))))))))))))), ?_⟩)
  rintro L hL pm av kk ⟨res, ls, w0, N, rfl, hf, hl, hN, lN, hk⟩
  have hW := hf.W hl
  have hV := hW.V (by decide)
  have lk := hf.lk
  refine as_seq ?_
  repeat ((fail_if_success (with_reducible refine as_seq ?_)); walk_at "q")
  refine as_seq ?_
  repeat ((fail_if_success (with_reducible refine as_seq ?_)); walk_at "q")
  refine as_seq ?_
  repeat ((fail_if_success (with_reducible refine as_seq ?_)); walk_at "q")
  refine as_seq ?_
  refine as_asg (ae_newT ?_)
  repeat ((fail_if_success (with_reducible refine as_seq ?_)); walk_at "q")
  refine as_seq ?_
  repeat ((fail_if_success (with_reducible refine as_seq ?_)); walk_at "q")
  refine ae_lcL ?_
  repeat ((fail_if_success (with_reducible refine as_seq ?_)); walk_at "q")
  refine ⟨by rw [List.length_map]; omega, fun i acc G => acc = wsD ((res.kinds.take i).filter isH) ∧ G = [.fr .deal, .fr res.l, .rd (gD N), .own (.lst []), .own (.lst []), .own (.dK [] []), .own (.dT [] []), .no, .no, .no, .no, .no, .no, .no, .no, .no], ⟨rfl, rfl⟩, fun n acc G' h => ⟨by rw [h.2]; rfl, rfl⟩, ?_, ?_⟩
  · rintro i x acc G' hx ⟨rfl, rfl⟩
    obtain ⟨⟨t, k⟩, hp, rfl⟩ := map_get hx
    have b1 := hV.k _ (List.mem_of_getElem? hp)
    refine aw_name (by decide) ?_
    repeat ((fail_if_success (with_reducible refine as_seq ?_)); walk_at "q")
    refine ar_eqD (pyD_K k) (pyD_K (.nm "" t)) (pyK_shG b1.2) (pyK_shG (nmG okS_nil b1.1)) ?_
    rw [pyK_eqv]
    repeat ((fail_if_success (with_reducible refine as_seq ?_)); walk_at "q")
    refine itD (fun h => ?_) fun h => ?_
    · repeat ((fail_if_success (with_reducible refine as_seq ?_)); walk_at "q")
      refine ⟨?_, rfl⟩
      have h : isH (t, k) = true := h
      rw [flt_more _ hp, if_pos h, wsD_snoc]
    · refine ⟨?_, rfl⟩
      have h : ¬ isH (t, k) = true := h
      rw [flt_more _ hp, if_neg h]
  rintro acc G' _ ⟨rfl, rfl⟩
  rw [show res.kinds.take (res.kinds.map fun p => prd p.1 p.2.d).length = res.kinds by rw [List.length_map, List.take_length]]
  repeat ((fail_if_success (with_reducible refine as_seq ?_)); walk_at "q")
  refine as_seq ?_
  repeat ((fail_if_success (with_reducible refine as_seq ?_)); walk_at "q")
  refine ae_pl rfl rfl ?_
  refine ae_lcL ?_
  repeat ((fail_if_success (with_reducible refine as_seq ?_)); walk_at "q")
  refine ⟨by rw [List.length_map]; omega, fun i acc G => acc = wsD ((res.kinds.take i).filter fun p => !isH p) ∧ G = [.fr .deal, .fr res.l, .rd (gD N), .own (.lst []), .own (.lst []), .own (.dK [] []), .own (.dT [] []), .own (.lst (wsD (res.kinds.filter isH))), .no, .no, .no, .no, .no, .no, .no, .no], ⟨rfl, rfl⟩, fun n acc G' h => ⟨by rw [h.2]; rfl, rfl⟩, ?_, ?_⟩
  · rintro i x acc G' hx ⟨rfl, rfl⟩
    obtain ⟨⟨t, k⟩, hp, rfl⟩ := map_get hx
    have b1 := hV.k _ (List.mem_of_getElem? hp)
    refine aw_name (by decide) ?_
    repeat ((fail_if_success (with_reducible refine as_seq ?_)); walk_at "q")
    refine ar_neD (pyD_K k) (pyD_K (.nm "" t)) (pyK_shG b1.2) (pyK_shG (nmG okS_nil b1.1)) ?_
    rw [pyK_eqv]
    repeat ((fail_if_success (with_reducible refine as_seq ?_)); walk_at "q")
    refine itD (fun h => ?_) fun h => ?_
    · repeat ((fail_if_success (with_reducible refine as_seq ?_)); walk_at "q")
      refine ⟨?_, rfl⟩
      have h : (!isH (t, k)) = true := h
      rw [flt_more _ hp, if_pos h, wsD_snoc]
    · refine ⟨?_, rfl⟩
      have h : ¬ (!isH (t, k)) = true := h
      rw [flt_more _ hp, if_neg h]
  rintro acc G' _ ⟨rfl, rfl⟩
  rw [show res.kinds.take (res.kinds.map fun p => prd p.1 p.2.d).length = res.kinds by rw [List.length_map, List.take_length]]
  have lf1 : (res.kinds.filter isH).length ≤ res.kinds.length := List.length_filter_le ..
  have lf2 : (res.kinds.filter fun p => !isH p).length ≤ res.kinds.length := List.length_filter_le ..
  refine ar_cat rfl rfl (by rw [wsD_len, wsD_len]; omega) ?_
  have eo : wsD (res.kinds.filter isH) ++ wsD (res.kinds.filter fun p => !isH p) = wsD (ordK res.kinds) := by unfold wsD ordK; rw [List.map_append]
  rw [eo]
  have lo := ord_len res.kinds
  have ond := ord_nd hf.nk
  have hGk := hN.gk
  have kdep : ∀ {t : Str} {k0 k : Kd}, (t, k0) ∈ ordK res.kinds → ItC N t k0 k → k.dep ≤ 6 ∧ k.ok = true := fun {t k0 k} hm c => by
    obtain ⟨a1, a2, a3⟩ := hW.k _ (ord_mem.mp hm)
    unfold ItC at c
    split at c
    · refine ⟨by have := k.dep_le; omega, Kd.ok_of k (c.2.1.mono _ fun q u m => ?_)⟩
      obtain ⟨p, hp, e⟩ := List.mem_map.mp m
      have := hN.q p hp
      rw [e] at this
      exact this.2
    · rw [c]; exact ⟨a3, a2⟩
  repeat ((fail_if_success (with_reducible refine as_seq ?_)); walk_at "q")
  refine as_seq ?_
  refine as_forL ?_
  refine ae_frz rfl ?_
  refine ⟨_, rfl, fun i G => ∃ its : List (Str × Kd), ItOk N ((ordK res.kinds).take i) its ∧ i ≤ (ordK res.kinds).length ∧ G = [.fr .deal, .fr res.l, .rd (gD N), .own (.lst ((its.map kItem).map It.d)), .own (.lst (wsD (ownL N its))), .own (ownD (its.take (res.kinds.filter isH).length)), .own (gD (knowG "" (ownL N its))), .fr (.lst (wsD (ordK res.kinds))), .no, .no, .no, .no, .no, .no, .no, .no],
    ⟨[.fr .deal, .fr res.l, .rd (gD N), .own (.lst []), .own (.lst []), .own (.dK [] []), .own (.dT [] []), .fr (.lst (wsD (ordK res.kinds))), .no, .no, .no, .no, .no, .no, .no, .no], (by repeat (first | exact Wk.nil | refine Wk.keep ?_ | refine Wk.drop ?_)), [], ⟨rfl, fun j t k0 e => by simp at e⟩, Nat.zero_le _, by rw [List.take_nil]; rfl⟩, ?_, ?_⟩
  · rintro i d G hi ⟨its, hI, hil, rfl⟩
    obtain ⟨⟨t, k0⟩, hp, rfl⟩ := map_get hi
    have hil2 := (List.getElem?_eq_some_iff.mp hp).1
    have hm := List.mem_of_getElem? hp
    have b1 := hV.k _ (ord_mem.mp hm)
    have li : its.length = i := by rw [hI.l, List.length_take]; omega
    have ek := hI.keys
    have tn : t ∉ its.map (·.1) := by rw [ek]; exact key_take ond hp
    have ok := ownL_keys N _ its rfl
    have ol : (ownL N its).length = i := by have := congrArg List.length ok; rw [List.length_map, List.length_map] at this; omega
    have hh := ord_hid hp
    repeat ((fail_if_success (with_reducible refine as_seq ?_)); walk_at "q")
    refine as_mid (fun G => ∃ k, ItC N t k0 k ∧ G = [.fr .deal, .fr res.l, .rd (gD N), .own (.lst ((its.map kItem).map It.d)), .own (.lst (wsD (ownL N its))), .own (ownD ((its ++ [(t, k)]).take (res.kinds.filter isH).length)), .own (gD (knowG "" (ownL N its))), .fr (.lst (wsD (ordK res.kinds))), .fr (tD t), .fr k.d, .no, .no, .no, .no, .no, .no]) ?_ ?_
    · repeat ((fail_if_success (with_reducible refine as_seq ?_)); walk_at "q")
      refine ar_eqD (pyD_K k0) (pyD_K (.nm "" t)) (pyK_shG b1.2) (pyK_shG (nmG okS_nil b1.1)) ?_
      rw [pyK_eqv]
      repeat ((fail_if_success (with_reducible refine as_seq ?_)); walk_at "q")
      refine itD (fun h => ?_) fun h => ?_
      · have h : k0 = .nm "" t := of_decide_eq_true h
        have hi' : i < (res.kinds.filter isH).length := hh.mp (by unfold isH; exact decide_eq_true h)
        refine as_seq ?_
        repeat ((fail_if_success (with_reducible refine as_seq ?_)); walk_at "q")
        refine cq0 (.rdp rfl rfl .nil) hL ⟨N, rfl, by omega, ?_⟩
        repeat ((fail_if_success (with_reducible refine as_seq ?_)); walk_at "q")
        refine cq0 (.fr (.rdv rfl (.fr .nil))) nl ⟨farK N, 5, rfl, by decide, by decide, by unfold farK; rw [List.length_map]; omega, fun k hk => by unfold farK at hk; obtain ⟨p, _, rfl⟩ := List.mem_map.mp hk; exact ⟨_, _, rfl⟩, fun kd k1 k2 => ?_⟩
        have k2' : kd.All fun q t => (q, t) ∈ N.map (·.1) := k2.mono _ fun q t m => by
          unfold farK at m
          obtain ⟨p, hp, e⟩ := List.mem_map.mp m
          injection e with e1 e2
          exact List.mem_map.mpr ⟨p, hp, by rw [← e1, ← e2]⟩
        have o1 := over_put hN k2'
        have o2 := kd.dep_le
        repeat ((fail_if_success (with_reducible refine as_seq ?_)); walk_at "q")
        refine as_mid (fun G => ∃ k : Kd, (k.words ≤ 5 ∧ (k.All fun q t => (q, t) ∈ N.map (·.1)) ∧ (k.put N).words ≤ 40) ∧ G = [.fr .deal, .fr res.l, .rd (gD N), .own (.lst ((its.map kItem).map It.d)), .own (.lst (wsD (ownL N its))), .own (ownD (its.take (res.kinds.filter isH).length)), .own (gD (knowG "" (ownL N its))), .fr (.lst (wsD (ordK res.kinds))), .fr (tD t), .fr k.d, .no, .no, .no, .no, .no, .no]) ?_ ?_
        · repeat ((fail_if_success (with_reducible refine as_seq ?_)); walk_at "q")
          refine cq0 (.fr (.rdp rfl rfl .nil)) nl ⟨kd, N, rfl, by omega, ?_⟩
          repeat ((fail_if_success (with_reducible refine as_seq ?_)); walk_at "q")
          refine cq0 (.fr .nil) nl ⟨kd.put N, rfl, by have := o1.2.1; omega, ?_⟩
          repeat ((fail_if_success (with_reducible refine as_seq ?_)); walk_at "q")
          refine itD (fun h2 => ?_) fun h2 => ?_
          · repeat walk_at "q"
            exact ⟨.num 6, ⟨by decide, True.intro, show 1 ≤ 40 by decide⟩, rfl⟩
          · repeat walk_at "q"
            refine ⟨kd, ⟨k1, k2', ?_⟩, rfl⟩
            have h2 : ¬ (40 : Int) < ((kd.put N).words : Int) := by simpa using h2
            omega
        rintro G ⟨k, hk3, rfl⟩
        have t1 : its.take (res.kinds.filter isH).length = its := List.take_of_length_le (by omega)
        have t2 : (its ++ [(t, k)]).take (res.kinds.filter isH).length = its ++ [(t, k)] := List.take_of_length_le (by rw [List.length_append]; simp; omega)
        rw [t1]
        repeat ((fail_if_success (with_reducible refine as_seq ?_)); walk_at "q")
        refine ae_pl rfl rfl ?_
        repeat ((fail_if_success (with_reducible refine as_seq ?_)); walk_at "q")
        refine ⟨_, _, _, _, _, rfl, rfl, rfl, rfl, rfl, .K tn (by rw [List.length_map]; omega), ?_⟩
        refine ⟨k, by unfold ItC; rw [if_pos h]; exact hk3, ?_⟩
        rw [t2, ownD_more]
        rfl
      · have h : ¬ k0 = .nm "" t := fun e => h (decide_eq_true e)
        have hi' : ¬ i < (res.kinds.filter isH).length := fun e => h (of_decide_eq_true (hh.mpr e))
        have t2 : (its ++ [(t, k0)]).take (res.kinds.filter isH).length = its.take (res.kinds.filter isH).length := List.take_append_of_le_length (by omega)
        repeat walk_at "q"
        refine ⟨k0, by unfold ItC; rw [if_neg h], ?_⟩
        rw [t2]
        rfl
    rintro G ⟨k, hC, rfl⟩
    obtain ⟨kd6, kok⟩ := kdep hm hC
    have p1 := put_G kok hGk
    refine as_seq ?_
    repeat ((fail_if_success (with_reducible refine as_seq ?_)); walk_at "q")
    refine cq0 (.fr (.rdp rfl rfl .nil)) nl ⟨k, N, rfl, by omega, ?_⟩
    repeat ((fail_if_success (with_reducible refine as_seq ?_)); walk_at "q")
    refine ae_pl rfl rfl ?_
    repeat ((fail_if_success (with_reducible refine as_seq ?_)); walk_at "q")
    refine cq0 (.fr (.rdp rfl rfl .nil)) nl ⟨k.put N, knowG "" (ownL N its), rfl, by have := p1.2; omega, ?_⟩
    repeat ((fail_if_success (with_reducible refine as_seq ?_)); walk_at "q")
    refine as_seq ?_
    repeat ((fail_if_success (with_reducible refine as_seq ?_)); walk_at "q")
    refine ⟨_, _, _, rfl, rfl, rfl, rfl, by rw [List.length_map, List.length_map]; omega, ?_⟩
    refine as_seq ?_
    repeat ((fail_if_success (with_reducible refine as_seq ?_)); walk_at "q")
    refine ⟨_, _, _, rfl, rfl, rfl, rfl, by rw [wsD_len]; omega, ?_⟩
    repeat ((fail_if_success (with_reducible refine as_seq ?_)); walk_at "q")
    refine ae_pl rfl rfl ?_
    repeat ((fail_if_success (with_reducible refine as_seq ?_)); walk_at "q")
    have nin : (("" : Str), t) ∉ (knowG "" (ownL N its)).map (·.1) := fun m => by
      unfold knowG at m
      rw [List.map_map] at m
      obtain ⟨p, hp, e⟩ := List.mem_map.mp m
      injection e with _ e
      exact tn (by rw [← ok]; exact List.mem_map.mpr ⟨p, hp, e⟩)
    refine ⟨_, _, _, _, _, rfl, rfl, rfl, rfl, rfl, .T nin (by unfold knowG; rw [List.length_map, List.length_map]; omega), ?_⟩
    have v1 : (its ++ [(t, k)]).map kItem = its.map kItem ++ [.kind t k] := by rw [List.map_append]; rfl
    refine ⟨[.fr .deal, .fr res.l, .rd (gD N), .own (.lst ((its.map kItem).map It.d ++ [(It.kind t k).d])), .own (.lst (wsD (ownL N its) ++ [prd t ((k.put N).put (knowG "" (ownL N its))).d])), .own (ownD ((its ++ [(t, k)]).take (res.kinds.filter isH).length)), .own (.dT ((knowG "" (ownL N its)).map (·.1) ++ [(("" : Str), t)]) ((knowG "" (ownL N its)).map (fun p => p.2.d) ++ [((k.put N).put (knowG "" (ownL N its))).d])), .fr (.lst (wsD (ordK res.kinds))), .no, .no, .no, .no, .no, .no, .no, .no], (by repeat (first | exact Wk.nil | refine Wk.keep ?_ | refine Wk.drop ?_)), its ++ [(t, k)], by rw [take_more hp]; exact hI.snoc hC, hil2, ?_⟩
    rw [v1, List.map_append, ownL_snoc, wsD_snoc, knowG_snoc, gD_put]
    rfl
  rintro G ⟨its, hI, _, rfl⟩
  rw [show (ordK res.kinds).take (wsD (ordK res.kinds)).length = ordK res.kinds by rw [wsD_len, List.take_length]] at hI
  have li : its.length ≤ 7 := by rw [hI.l]; omega
  have lf := hf.lf
  refine as_seq ?_
  repeat ((fail_if_success (with_reducible refine as_seq ?_)); walk_at "q")
  refine ae_pl rfl rfl ?_
  repeat ((fail_if_success (with_reducible refine as_seq ?_)); walk_at "q")
  refine cq0 (.fr (.rdp rfl rfl .nil)) nl ⟨⟨[], res.funs⟩, knowG "" (ownL N its), rfl, ⟨List.nodup_nil, hV.nf, by show 0 ≤ 50; omega, hV.lf, fun p hp => (by cases hp), hV.f⟩, ?_⟩
  repeat ((fail_if_success (with_reducible refine as_seq ?_)); walk_at "q")
  refine as_seq ?_
  repeat ((fail_if_success (with_reducible refine as_seq ?_)); walk_at "q")
  refine ⟨fun i G => G = [.fr .deal, .fr res.l, .rd (gD N), .own (.lst ((its.map kItem ++ (res.funs.take i).map fItem).map It.d)), .own (.lst (wsD (ownL N its))), .own (ownD (its.take (res.kinds.filter isH).length)), .own (gD (knowG "" (ownL N its))), .no, .no, .no, .no, .fr (.lst (fsD (putF (knowG "" (ownL N its)) res.funs))), .no, .no, .no, .no],
    ⟨[.fr .deal, .fr res.l, .rd (gD N), .own (.lst ((its.map kItem).map It.d)), .own (.lst (wsD (ownL N its))), .own (ownD (its.take (res.kinds.filter isH).length)), .own (gD (knowG "" (ownL N its))), .no, .no, .no, .no, .fr (.lst (fsD (putF (knowG "" (ownL N its)) res.funs))), .no, .no, .no, .no], (by repeat (first | exact Wk.nil | refine Wk.keep ?_ | refine Wk.drop ?_)), by show _ = [_, _, _, SV.own (.lst ((its.map kItem ++ []).map It.d)), _, _, _, _, _, _, _, _, _, _, _, _]; rw [List.append_nil]⟩, ?_, ?_⟩
  · rintro i d G hi rfl
    obtain ⟨⟨t, ars, r⟩, hp, rfl⟩ := map_get hi
    have l4 : ars.length ≤ 4 := (hf.wf _ (List.mem_of_getElem? hp)).2
    repeat ((fail_if_success (with_reducible refine as_seq ?_)); walk_at "q")
    refine as_seq ?_
    repeat ((fail_if_success (with_reducible refine as_seq ?_)); walk_at "q")
    refine ae_lcR ?_
    repeat ((fail_if_success (with_reducible refine as_seq ?_)); walk_at "q")
    refine ac_lenT rfl ?_
    repeat ((fail_if_success (with_reducible refine as_seq ?_)); walk_at "q")
    refine ⟨show (ars.map Kd.d).length ≤ 100000 by rw [List.length_map]; omega, fun j acc G => acc = wsD ((abP 0 ars).take j) ∧ G = [.fr .deal, .fr res.l, .rd (gD N), .own (.lst ((its.map kItem ++ (res.funs.take i).map fItem).map It.d)), .own (.lst (wsD (ownL N its))), .own (ownD (its.take (res.kinds.filter isH).length)), .own (gD (knowG "" (ownL N its))), .no, .no, .no, .no, .fr (.lst (fsD (putF (knowG "" (ownL N its)) res.funs))), .fr (tD t), .fr (Sg.d (ars, r)), .no, .no], ⟨rfl, rfl⟩, fun n acc G' h => by rw [h.2]; rfl, ?_, ?_⟩
    · rintro j acc G' hj ⟨rfl, rfl⟩
      have hj : j < (ars.map Kd.d).length := hj
      rw [List.length_map] at hj
      have ea : ars[j]? = some ars[j] := List.getElem?_eq_getElem hj
      have ex : atI (ars.map Kd.d) (j : Int) = some ars[j].d := atI_nat (by rw [List.getElem?_map, ea]; rfl)
      have ec : ("abcd" : Str).cps.toList[j]? = some (97 + j) := by
        have hj4 : j < 4 := by omega
        match j, hj4 with
        | 0, _ => decide +kernel
        | 1, _ => decide +kernel
        | 2, _ => decide +kernel
        | 3, _ => decide +kernel
      refine aw_name (by decide) ?_
      repeat ((fail_if_success (with_reducible refine as_seq ?_)); walk_at "q")
      refine ar_ixS (by decide +kernel) (atI_nat ec) ?_
      repeat ((fail_if_success (with_reducible refine as_seq ?_)); walk_at "q")
      refine ar_ixT rfl ex ?_
      repeat ((fail_if_success (with_reducible refine as_seq ?_)); walk_at "q")
      refine ⟨?_, rfl⟩
      have eg := abP_get ars 0 j ea
      rw [Nat.zero_add] at eg
      rw [take_more eg, wsD_snoc]
    rintro acc G' _ ⟨rfl, rfl⟩
    rw [show (abP 0 ars).take (ars.map Kd.d).length = abP 0 ars by rw [List.length_map, ← abP_len ars 0, List.take_length]]
    repeat ((fail_if_success (with_reducible refine as_seq ?_)); walk_at "q")
    refine ac_tupL rfl ?_
    repeat ((fail_if_success (with_reducible refine as_seq ?_)); walk_at "q")
    refine ⟨[_, _, _, _, _], rfl, Nat.le_of_ble_eq_true rfl, ?_⟩
    refine ⟨_, _, _, rfl, rfl, rfl, rfl, by rw [List.length_map, List.length_append, List.length_map, List.length_map, List.length_take]; omega, ?_⟩
    refine ⟨_, ?_, rfl⟩
    have e5 : (its.map kItem ++ (res.funs.take (i + 1)).map fItem).map It.d = (its.map kItem ++ (res.funs.take i).map fItem).map It.d ++ [(fItem (t, (ars, r))).d] := by
      rw [take_more hp, List.map_append (l₁ := res.funs.take i), ← List.append_assoc, List.map_append (l₂ := List.map fItem _)]
      rfl
    rw [e5]
    repeat (first | exact Wk.nil | refine Wk.keep ?_ | refine Wk.drop ?_)
  rintro G rfl
  rw [show res.funs.take (res.funs.map fun p => prd p.1 (Sg.d p.2)).length = res.funs by rw [List.length_map, List.take_length]]
  repeat ((fail_if_success (with_reducible refine as_seq ?_)); walk_at "q")
  refine ae_frz rfl ?_
  repeat ((fail_if_success (with_reducible refine as_seq ?_)); walk_at "q")
  refine ae_frz rfl ?_
  repeat ((fail_if_success (with_reducible refine as_seq ?_)); walk_at "q")
  refine ae_frz rfl ?_
  repeat ((fail_if_success (with_reducible refine as_seq ?_)); walk_at "q")
  refine ⟨[_, _, _, _], rfl, Nat.le_of_ble_eq_true rfl, ?_⟩
  exact ⟨[], rfl, rfl, hk its hI⟩
end
end Q
-- text CF
set_option Elab.async false
set_option linter.all false
set_option maxRecDepth 100000
set_option maxHeartbeats 4000000
namespace Q
open PySem PySem.Spec PyProof.Rows L2
local macro_rules | `(tactic| walk_at "q") => `(tactic| (first
  | with_reducible refine as_seq ?_ | with_reducible refine as_ret ?_ | with_reducible refine as_if ?_ | with_reducible refine as_deal ?_ | with_reducible refine as_asg ?_ | with_reducible refine as_drop ?_ | with_reducible refine as_dput ?_
  | with_reducible refine at_test ?_ | with_reducible refine at_B ?_ | with_reducible refine at_not ?_ | with_reducible refine at_and ?_ | with_reducible refine at_or ?_
  | with_reducible refine ae_op ?_ | with_reducible refine ae_c ?_ | with_reducible refine ae_andV ?_ | with_reducible refine ae_notV ?_ | with_reducible refine ae_join ?_ | with_reducible refine ae_index ?_ | with_reducible refine ae_from1 ?_ | refine ae_un (i := 0) ?_ | refine ae_var rfl ?_ | refine ae_rd rfl ?_ | refine ae_mt rfl ?_ | with_reducible refine ae_call ?_ | with_reducible refine ae_tup ?_ | with_reducible refine ae_fld ?_ | with_reducible refine ae_cb ?_
  | with_reducible refine aa_nil ?_ | with_reducible refine aa_cons ?_
  | with_reducible refine ae_dget ?_ | with_reducible refine ae_dget2 ?_ | with_reducible refine ae_dget1 ?_ | with_reducible refine ae_din ?_ | with_reducible refine ae_dnotin ?_ | with_reducible refine ae_newK ?_ | with_reducible refine ae_newT ?_ | with_reducible refine ae_lst ?_
  | with_reducible refine ae_meth ?_ | with_reducible refine ct_yes ?_ | with_reducible refine ct_if ?_
  | refine ar_ixT rfl rfl ?_ | refine ar_ixL rfl rfl ?_ | refine ar_II ?_ | refine ar_eq rfl ?_
  | refine itT (by decide +kernel) ?_ | refine itF (by decide +kernel) ?_ | refine itF Bool.false_ne_true ?_ | refine itT rfl ?_
  | refine ⟨.inr ⟨_, _, rfl⟩, ?_⟩ | refine ⟨.inl ⟨_, _, rfl⟩, ?_⟩ | refine ⟨_, _, .T rfl, rfl, ?_⟩ | refine ⟨_, rfl, ?_⟩ | refine ⟨[_, _], rfl, Nat.le_of_ble_eq_true rfl, ?_⟩ | refine ⟨[_, _, _], rfl, Nat.le_of_ble_eq_true rfl, ?_⟩ | refine ⟨[], rfl, Nat.le_of_ble_eq_true rfl, ?_⟩ | refine ⟨[_], rfl, Nat.le_of_ble_eq_true rfl, ?_⟩
  | with_reducible refine as_forL ?_ | with_reducible refine as_forT ?_ | with_reducible refine as_forR ?_ | refine ae_app (ae_pl rfl rfl ⟨_, rfl, ⟨_, rfl⟩, ?_⟩) | refine ae_ins (ae_pl rfl rfl ⟨_, rfl, ⟨_, rfl⟩, ?_⟩) | refine ag_rd rfl ?_ | refine ag_name ?_ | refine ag_own ?_ | refine ag_tup rfl (ags_cons (ags_cons (ags_nil ?_))) | with_reducible refine as_next ?_))
def gotD (its : List It) (ow : List (Str × Kd)) (fu : List (Str × Sg)) (md : D) : D := .tup [.lst (its.map It.d), .lst (wsD ow), .lst (fsD fu), md]
def opD (at_ : Int) (its : List It) (ow : List (Str × Kd)) (fu : List (Str × Sg)) : D := .tup [.raw (.int at_), .lst (its.map It.d), .lst (wsD ow), .lst (fsD fu)]
def S_opened : Spec := fun pm kk => ∃ (W : List Str) (rows : List FRow) (its : List It) (ow : List (Str × Kd)) (fu : List (Str × Sg)) (md : D), pm = [.fr .deal, .rd (.lst (W.map tD)), .fr (.lst (rows.map fwD)), .fr (gotD its ow fu md)] ∧ rows.length ≤ 4 ∧
  (∀ (i : Nat) (r : FRow), rows[i]? = some r → r.want.V ∧ (∀ p ∈ r.want.funs, okS p.1 = true) ∧ W[1 + i]? = some r.x) ∧ ow.length ≤ 15 ∧ fu.length ≤ 50 ∧ its.length ≤ 100 ∧
  (∀ (i : Nat) (r : FRow), rows[i]? = some r → (∀ p ∈ r.want.kinds, p.1 ∉ ow.map (·.1)) → (∀ p ∈ r.want.funs, p.1 ∉ fu.map (·.1)) → kk (.v (opD (i : Int) (.opn r.x :: its) ((hidF r.x r.want).kinds ++ ow) ((hidF r.x r.want).funs ++ fu))) []) ∧
  ∀ u : Str, okW u → u ∉ ow.map (·.1) → kk (.v (opD (-1) (its ++ [.kind u (.num 6)]) (ow ++ [(u, .num 6)]) fu)) []
section
variable {P : Program} {w : World} {K : PySem.W.Frag} {mg : Str → Option Value} {base : Heap}
theorem ok_l_opened {f : Addr} {fd : FuncData} (T : Txt K mg) (F : Fun K "_law_opened" "_law_opened" s_l_opened f fd) (c_l_draw : Callee P w K mg base 1 "_law_draw" p_l_draw [] false S_draw) (c_l_apart : Callee P w K mg base 1 "_law_apart" p_l_apart [] false S_apart)
    (c_l_hiding : Callee P w K mg base 102 "_law_hiding" p_l_hiding [] false S_lhiding) (c_l_name : Callee P w K mg base 2 "_law_name" p_l_name [] false S_name) :
    FnOk P w K mg base CX0 103 f fd p_l_opened (spOf false S_opened) := by
  refine fun_ok F sc_l_opened (by decide) (fun pm k h => by obtain ⟨_, _, _, _, _, _, rfl, _⟩ := h; rfl) (fun cdv A outer s H X hr => ⟨_, (pss_cons (ps_asg (pv 3) (pg_tup (by rfl) (pgs_cons (pg_name (i := 4) sc_l_opened.nd rfl (Or.inl rfl)) (pgs_cons (pg_name (i := 5) sc_l_opened.nd rfl (Or.inl rfl)) (pgs_cons (pg_name (i := 6) sc_l_opened.nd rfl (Or.inl rfl)) (pgs_cons (pg_name (i := 7) sc_l_opened.nd rfl (Or.inl rfl)) pgs_nil))))))
    (pss_cons (ps_set (i := 8) sc_l_opened.nd rfl (Or.inl rfl) (pe_op op_sub (pe_cal c_l_draw (hr.mono (by omega)) (by rfl) (pa_cons (pv 0) (pa_cons (pe_op op_add (pe_callB call_len_seq (by rfl) T.z_len PySem.boot_len (pa_cons (pv 2) pa_nil)) pe_int) pa_nil))) pe_int))
    (pss_cons (ps_if (PW.pt (pw_and (pt_cmpR op_ge (pv 8) pe_int (nomark _)) (pw_and1 (pt_val (pe_cal c_l_apart (hr.mono (by omega)) (by rfl) (pa_cons (pe_ix ix_tup (pe_ix ix_list (pv 2) (pv 8) (fun _ _ => rfl)) pe_int (fun _ _ => rfl)) (pa_cons (pe_tup (pa_cons (pv 5) (pa_cons (pv 6) pa_nil))) pa_nil)))))))
    (pss_cons (ps_set (i := 9) sc_l_opened.nd rfl (Or.inl rfl) (pe_cal c_l_hiding (hr.mono (by omega)) (by rfl) (pa_cons (pe_ix ix_tup (pe_ix ix_list (pv 2) (pv 8) (fun _ _ => rfl)) pe_int (fun _ _ => rfl)) (pa_cons (pe_ix ix_list (pv 1) (pe_op op_add pe_int (pv 8)) (fun _ _ => rfl)) pa_nil))))
    (pss_one (ps_ret (pe_tup (pa_cons (pv 8) (pa_cons (pe_op op_cat (pe_lst (pa_cons (pe_tup (pa_cons pe_str (pa_cons (pe_ix ix_list (pv 1) (pe_op op_add pe_int (pv 8)) (fun _ _ => rfl)) pa_nil))) pa_nil)) (pv 4)) (pa_cons (pe_op op_cat (pe_ix ix_tup (pv 9) pe_int (fun _ _ => rfl)) (pv 5)) (pa_cons (pe_op op_cat (pe_ix ix_tup (pv 9) pe_int (fun _ _ => rfl)) (pv 6)) pa_nil))))))))
    pss_nil)
    (pss_cons (ps_set (i := 10) sc_l_opened.nd rfl (Or.inl rfl) (pe_cal c_l_name (hr.mono (by omega)) (by rfl) (pa_cons (pv 0) (pa_cons (pe_lc (own := [("_law_row", 11)]) (g := gName 11) (tt := tYes) (by rfl) sc_l_opened.nd (pi_list (pv 5)) (blkOk_by (N := n_l_opened) (sc := defScope s_l_opened) (by decide +kernel))
        (fun _ _ _ _ _ => (pg_name (i := 11) sc_l_opened.nd rfl (Or.inl rfl))) (fun _ _ _ _ _ => pts_nil)
        (fun _ _ _ _ _ => (pe_ix (ix_tupk (K := K) rfl) (pv 11) pe_int (fun _ _ => rfl)))) pa_nil))))
    (pss_one (ps_ret (pe_tup (pa_cons (pe_un un_neg pe_int) (pa_cons (pe_op op_cat (pv 4) (pe_lst (pa_cons (pe_tup (pa_cons pe_str (pa_cons (pv 10) (pa_cons (pe_tup (pa_cons pe_str (pa_cons pe_int pa_nil))) pa_nil)))) pa_nil))) (pa_cons (pe_op op_cat (pv 5) (pe_lst (pa_cons (pe_tup (pa_cons (pv 10) (pa_cons (pe_tup (pa_cons pe_str (pa_cons pe_int pa_nil))) pa_nil))) pa_nil))) (pa_cons (pv 6) pa_nil))))))))))), ?_⟩)
  rintro L hL pm av kk ⟨W, rows, its, ow, fu, md, rfl, lr, hr0, lo, lfu, lit, k1, k2⟩
  refine as_seq ?_
  repeat ((fail_if_success (with_reducible refine as_seq ?_)); walk_at "q")
  refine ag_tup rfl (ags_cons (ags_cons (ags_cons (ags_cons (ags_nil ?_)))))
  refine as_seq ?_
  repeat ((fail_if_success (with_reducible refine as_seq ?_)); walk_at "q")
  refine ac_lenL rfl ?_
  repeat ((fail_if_success (with_reducible refine as_seq ?_)); walk_at "q")
  refine cq0 (.fr (.fr .nil)) nl ⟨_, rfl, by rw [List.length_map]; omega, by rw [List.length_map]; omega, fun r r0 r1 => ?_⟩
  rw [List.length_map] at r1
  obtain ⟨n, rfl⟩ := Int.eq_ofNat_of_zero_le r0
  repeat ((fail_if_success (with_reducible refine as_seq ?_)); walk_at "q")
  refine as_mid (fun G => G = [.fr .deal, .rd (.lst (W.map tD)), .fr (.lst (rows.map fwD)), .fr (gotD its ow fu md), .fr (.lst (its.map It.d)), .fr (.lst (wsD ow)), .fr (.lst (fsD fu)), .fr md, .fr (.raw (.int ((n : Int) - 1))), .no, .no, .no]) ?_ ?_
  · repeat ((fail_if_success (with_reducible refine as_seq ?_)); walk_at "q")
    refine itD (fun h => ?_) fun h => ?_
    · have h : (0 : Int) ≤ (n : Int) - 1 := by simpa using h
      obtain ⟨m, rfl⟩ : ∃ m, n = m + 1 := ⟨n - 1, by omega⟩
      have em : ((m + 1 : Nat) : Int) - 1 = (m : Int) := by omega
      have hm : m < rows.length := by omega
      have er : rows[m]? = some rows[m] := List.getElem?_eq_getElem hm
      obtain ⟨r1', r2', r3'⟩ := hr0 m _ er
      have e0 : atI (rows.map fwD) (m : Int) = some (fwD rows[m]) := atI_nat (by rw [List.getElem?_map, er]; rfl)
      have ex : atI (W.map tD) ((1 : Int) + (m : Int)) = some (tD rows[m].x) := by
        have e : (1 : Int) + (m : Int) = ((1 + m : Nat) : Int) := by omega
        rw [e]
        exact atI_nat (by rw [List.getElem?_map, r3']; rfl)
      rw [em]
      repeat ((fail_if_success (with_reducible refine as_seq ?_)); walk_at "q")
      refine ar_ixL rfl e0 ?_
      repeat ((fail_if_success (with_reducible refine as_seq ?_)); walk_at "q")
      refine cq0 (.fr (.fr .nil)) nl ⟨rows[m].want, ow, fu, rfl, r1', r2', by omega, by omega, fun b hb => ?_⟩
      repeat ((fail_if_success (with_reducible refine as_seq ?_)); walk_at "q")
      refine itD (fun hb2 => ?_) fun hb2 => ?_
      · obtain ⟨d1, d2⟩ := hb hb2
        have l1 := r1'.lk
        have l2 := r1'.lf
        have g1 : (hidF rows[m].x rows[m].want).kinds.length = rows[m].want.kinds.length := by rw [hidF, Fc.put_def]; show (putK _ _).length = _; unfold putK; rw [List.length_map]
        have g2 : (hidF rows[m].x rows[m].want).funs.length = rows[m].want.funs.length := by rw [hidF, Fc.put_def]; show (putF _ _).length = _; unfold putF; rw [List.length_map]
        refine as_seq ?_
        repeat ((fail_if_success (with_reducible refine as_seq ?_)); walk_at "q")
        refine ar_ixL rfl e0 ?_
        repeat ((fail_if_success (with_reducible refine as_seq ?_)); walk_at "q")
        refine ar_ixL rfl ex ?_
        repeat ((fail_if_success (with_reducible refine as_seq ?_)); walk_at "q")
        refine cq0 (.fr (.fr .nil)) nl ⟨rows[m].want, rows[m].x, rfl, r1', ?_⟩
        repeat ((fail_if_success (with_reducible refine as_seq ?_)); walk_at "q")
        refine ar_ixL rfl ex ?_
        repeat ((fail_if_success (with_reducible refine as_seq ?_)); walk_at "q")
        refine ar_cat rfl rfl (by rw [List.length_map]; show 1 + _ ≤ _; omega) ?_
        repeat ((fail_if_success (with_reducible refine as_seq ?_)); walk_at "q")
        refine ar_cat rfl rfl (by rw [List.length_map, wsD_len]; omega) ?_
        repeat ((fail_if_success (with_reducible refine as_seq ?_)); walk_at "q")
        refine ar_cat rfl rfl (by unfold fsD; rw [List.length_map, List.length_map]; omega) ?_
        repeat ((fail_if_success (with_reducible refine as_seq ?_)); walk_at "q")
        refine ⟨[_, _, _, _], rfl, Nat.le_of_ble_eq_true rfl, ?_⟩
        have := k1 m _ er d1 d2
        unfold opD at this
        unfold wsD fsD at this
        rw [List.map_append, List.map_append] at this
        exact ⟨[], rfl, rfl, this⟩
      · rw [← em]
        repeat walk_at "q"
        rfl
    · repeat walk_at "q"
      rfl
  rintro G rfl
  refine as_seq ?_
  refine as_asg (ae_call (aa_cons (ae_var rfl (aa_last ?_))))
  refine ae_lcL ?_
  repeat ((fail_if_success (with_reducible refine as_seq ?_)); walk_at "q")
  refine ⟨by rw [wsD_len]; omega, fun i acc G => acc = ((ow.take i).map (·.1)).map tD ∧ G = [.fr .deal, .rd (.lst (W.map tD)), .fr (.lst (rows.map fwD)), .fr (gotD its ow fu md), .fr (.lst (its.map It.d)), .fr (.lst (wsD ow)), .fr (.lst (fsD fu)), .fr md, .fr (.raw (.int ((n : Int) - 1))), .no, .no, .no], ⟨rfl, rfl⟩, fun n acc G' h => ⟨by rw [h.2]; rfl, by rw [h.2]; rfl⟩, ?_, ?_⟩
  · rintro i x acc G' hx ⟨rfl, rfl⟩
    obtain ⟨p, hp, rfl⟩ := map_get hx
    refine aw_name (by decide) ?_
    repeat walk_at "q"
    refine ⟨?_, rfl⟩
    rw [take_more hp, List.map_append, List.map_append]
    rfl
  rintro acc G' _ ⟨rfl, rfl⟩
  rw [show ow.take (wsD ow).length = ow by rw [wsD_len, List.take_length]]
  refine cqm [] [] (.fr .mto) nl ⟨ow.map (·.1), rfl, by rw [List.length_map]; omega, fun u u1 u2 => ?_⟩
  repeat ((fail_if_success (with_reducible refine as_seq ?_)); walk_at "q")
  refine ar_cat rfl rfl (by rw [List.length_map]; show _ + 1 ≤ _; omega) ?_
  repeat ((fail_if_success (with_reducible refine as_seq ?_)); walk_at "q")
  refine ar_cat rfl rfl (by rw [wsD_len]; show _ + 1 ≤ _; omega) ?_
  repeat ((fail_if_success (with_reducible refine as_seq ?_)); walk_at "q")
  refine ⟨[_, _, _, _], rfl, Nat.le_of_ble_eq_true rfl, ?_⟩
  have := k2 u u1 u2
  unfold opD at this
  rw [List.map_append, wsD_snoc] at this
  exact ⟨[], rfl, rfl, this⟩
end
end Q
-- text MA
set_option Elab.async false
set_option linter.all false
/-! The mathematics, part 10: the given parts. -/
namespace Q
open PySem
structure GRow where
  x : Str
  want : Fc
  hs : List Str
  φ : Str → Kd
  ex : Option (Str × Str)
def gNames (gs : List GRow) : Gv := gs.flatMap fun g => wG g.x g.φ g.hs
def gPut (N2 : Gv) (g : GRow) : Fc := (g.want.put N2).put (wG "" g.φ g.hs)
def gFace (N2 : Gv) (g : GRow) : Fc := match g.ex with
  | none => gPut N2 g
  | some (u, v) => ⟨(u, .num 8) :: (gPut N2 g).kinds, (gPut N2 g).funs ++ [(v, ([], .num 8))]⟩
structure GOk (ls : List Kd) (w9 : Str) (op : Bool) (N2 : Gv) (g : GRow) : Prop where
  hs : g.hs = hidK (g.want.put N2).kinds
  φ : ∀ t ∈ g.hs, (g.φ t).words ≤ 5 ∧ (g.φ t).All fun q u => (q = w9 ∧ u = t) ∨ Kd.nm q u ∈ ls
  ex : ∀ u v, g.ex = some (u, v) → op = false ∧ okW u ∧ okW v ∧ u ∉ (gPut N2 g).kinds.map (·.1) ∧ v ∉ (gPut N2 g).funs.map (·.1)
theorem gNames_snoc (gs : List GRow) (g : GRow) : gNames (gs ++ [g]) = gNames gs ++ wG g.x g.φ g.hs := by
  unfold gNames
  rw [List.flatMap_append]
  simp
def updφ (φ : Str → Kd) (t : Str) (k : Kd) : Str → Kd := fun u => if u = t then k else φ u
theorem wG_upd {q : Str} {φ : Str → Kd} {t : Str} {k : Kd} : ∀ {l : List Str}, t ∉ l → wG q (updφ φ t k) l = wG q φ l
  | [], _ => rfl
  | u :: l, h => by
    have h1 : u ≠ t := fun e => h (by rw [e]; exact List.mem_cons_self ..)
    have h2 : t ∉ l := fun m => h (List.mem_cons_of_mem _ m)
    show ((q, u), updφ φ t k u) :: wG q (updφ φ t k) l = ((q, u), φ u) :: wG q φ l
    rw [wG_upd h2]
    unfold updφ
    rw [if_neg h1]
end Q
-- text MB
set_option Elab.async false
set_option linter.all false
/-! The mathematics, part 10b: the given parts, all of them. -/
namespace Q
open PySem
structure GivenOk (W : List Str) (ls : List Kd) (rows : List FRow) (op : Int) (gs : List GRow) : Prop where
  l : gs.length = rows.length
  r : ∀ (i : Nat) (r : FRow), rows[i]? = some r → ∃ (g : GRow) (w9 : Str), gs[i]? = some g ∧ W[9 + i]? = some w9 ∧ g.x = r.x ∧ g.want = r.want ∧ GOk ls w9 (decide ((i : Int) = op)) (gNames (gs.take i)) g
def gFaces (gs : List GRow) : List Fc := (List.range gs.length).map fun i => match gs[i]? with
  | some g => gFace (gNames (gs.take i)) g
  | none => ⟨[], []⟩
theorem gFaces_snoc (gs : List GRow) (g : GRow) : gFaces (gs ++ [g]) = gFaces gs ++ [gFace (gNames gs) g] := by
  unfold gFaces
  rw [List.length_append, List.length_singleton, List.range_succ, List.map_append]
  congr 1
  · refine List.map_congr_left fun i hi => ?_
    have hi := List.mem_range.mp hi
    rw [List.getElem?_append_left hi, List.take_append_of_le_length (by omega)]
  · simp
theorem gFaces_get {gs : List GRow} {i : Nat} {g : GRow} (e : gs[i]? = some g) : (gFaces gs)[i]? = some (gFace (gNames (gs.take i)) g) := by
  have hi := (List.getElem?_eq_some_iff.mp e).1
  unfold gFaces
  rw [List.getElem?_map, List.getElem?_range hi]
  show some (match gs[i]? with | some g => gFace (gNames (gs.take i)) g | none => ⟨[], []⟩) = _
  rw [e]
theorem gFaces_len (gs : List GRow) : (gFaces gs).length = gs.length := by unfold gFaces; rw [List.length_map, List.length_range]
theorem GivenOk.snoc {W : List Str} {ls : List Kd} {rows : List FRow} {op : Int} {gs : List GRow} {r : FRow} {g : GRow} {w9 : Str} (h : GivenOk W ls rows op gs) (ew : W[9 + rows.length]? = some w9) (e1 : g.x = r.x) (e2 : g.want = r.want)
    (hg : GOk ls w9 (decide (((rows.length : Nat) : Int) = op)) (gNames gs) g) : GivenOk W ls (rows ++ [r]) op (gs ++ [g]) := by
  refine ⟨by rw [List.length_append, List.length_append, h.l]; rfl, fun i r' e' => ?_⟩
  by_cases hi : i < rows.length
  · rw [List.getElem?_append_left hi] at e'
    obtain ⟨g', w', a, b⟩ := h.r i r' e'
    rw [List.take_append_of_le_length (by rw [h.l]; omega), List.getElem?_append_left (by rw [h.l]; omega)]
    exact ⟨g', w', a, b⟩
  · have hi2 : i = rows.length := by
      have := (List.getElem?_eq_some_iff.mp e').1
      simp at this
      omega
    subst hi2
    rw [List.getElem?_append_right (by omega)] at e'
    simp at e'
    subst e'
    refine ⟨g, w9, ?_, ew, e1, e2, ?_⟩
    · rw [List.getElem?_append_right (by rw [h.l]; omega), h.l]; simp
    · rw [List.take_append_of_le_length (by rw [h.l]; omega), ← h.l, List.take_length, h.l]
      exact hg
end Q
-- text N1
set_option Elab.async false
set_option linter.all false
/-! The mathematics, part 11: names that parts tell, faces refined, items one by one. -/
namespace Q
open PySem
/-- a dict of own words -/
def Ow (g : Gv) : Prop := ∀ (q t : Str), q ≠ "" → look g (q, t) = none
theorem ow_know (l : List (Str × Kd)) : Ow (knowG "" l) := fun q t h => by rw [look_knowG, if_neg (fun e => h e.symm)]
theorem ow_wG (φ : Str → Kd) (l : List Str) : Ow (wG "" φ l) := fun q t h => by rw [look_wG, if_neg (fun e => h e.1.symm)]
theorem far_put {k : Kd} {g : Gv} (h : k.far) (hg : Ow g) : k.put g = k := Kd.put_id k (h.mono _ fun q t z => hg q t z)
/-- what all kinds of a face are -/
def Fc.Ks (P : Kd → Prop) (f : Fc) : Prop := (∀ x ∈ f.kinds, P x.2) ∧ ∀ x ∈ f.funs, (∀ a ∈ x.2.1, P a) ∧ P x.2.2
theorem Fc.Ks.mono {P R : Kd → Prop} {f : Fc} (h : f.Ks P) (g : ∀ k, P k → R k) : f.Ks R := ⟨fun x hx => g _ (h.1 x hx), fun x hx => ⟨fun a ha => g _ ((h.2 x hx).1 a ha), g _ (h.2 x hx).2⟩⟩
theorem Fc.ks_all {P : Kd → Prop} (h : ∀ k, P k) (f : Fc) : f.Ks P := ⟨fun _ _ => h _, fun _ _ => ⟨fun _ _ => h _, h _⟩⟩
theorem Fc.All.ks {p : Str → Str → Prop} {f : Fc} (h : f.All p) : f.Ks (Kd.All p) := h
theorem Fc.sm.ks {f : Fc} (h : f.sm) : f.Ks fun k => k.words ≤ 40 := ⟨h.k, h.f⟩
theorem Fc.Ks.sm {f : Fc} (h : f.Ks fun k => k.words ≤ 40) : f.sm := ⟨h.1, h.2⟩
theorem Fc.ks_put {P : Kd → Prop} {f : Fc} {g : Gv} : (f.put g).Ks P ↔ f.Ks fun k => P (k.put g) := by
  constructor
  · intro h
    exact ⟨fun x hx => h.1 (x.1, x.2.put g) (List.mem_map.mpr ⟨x, hx, rfl⟩), fun x hx => ⟨fun a ha => (h.2 (x.1, Sg.put g x.2) (List.mem_map.mpr ⟨x, hx, rfl⟩)).1 _ (List.mem_map.mpr ⟨a, ha, rfl⟩), (h.2 (x.1, Sg.put g x.2) (List.mem_map.mpr ⟨x, hx, rfl⟩)).2⟩⟩
  · intro h
    refine ⟨fun x hx => ?_, fun x hx => ?_⟩
    · obtain ⟨y, hy, rfl⟩ := List.mem_map.mp hx
      exact h.1 y hy
    · obtain ⟨y, hy, rfl⟩ := List.mem_map.mp hx
      refine ⟨fun a ha => ?_, (h.2 y hy).2⟩
      obtain ⟨b, hb, rfl⟩ := List.mem_map.mp ha
      exact (h.2 y hy).1 b hb
theorem Fc.put2 {f : Fc} {g h i : Gv} (H : f.Ks fun k => (k.put g).put h = k.put i) : (f.put g).put h = f.put i := by
  have h1 : putK h (putK g f.kinds) = putK i f.kinds := by
    unfold putK
    rw [List.map_map]
    exact List.map_congr_left fun x hx => by show (x.1, (x.2.put g).put h) = _; rw [H.1 x hx]
  have h2 : putF h (putF g f.funs) = putF i f.funs := by
    unfold putF
    rw [List.map_map]
    refine List.map_congr_left fun x hx => ?_
    show (x.1, ((x.2.1.map (Kd.put g)).map (Kd.put h), (x.2.2.put g).put h)) = (x.1, (x.2.1.map (Kd.put i), x.2.2.put i))
    rw [(H.2 x hx).2, List.map_map]
    congr 2
    exact List.map_congr_left fun a ha => (H.2 x hx).1 a ha
  rw [Fc.put_def, Fc.put_def, Fc.put_def, h1, h2]
theorem Kd.put_nil (k : Kd) : k.put [] = k := Kd.put_id k ((Kd.all_true k).mono _ fun _ _ _ => rfl)
theorem Fc.put1 {f : Fc} {g h : Gv} (H : f.Ks fun k => k.put g = k.put h) : f.put g = f.put h := by
  have := Fc.put2 (f := f) (g := g) (h := []) (i := h) (H.mono fun k e => by rw [Kd.put_nil]; exact e)
  rw [Fc.put_nil] at this
  exact this
theorem Kd.words_le : ∀ (k : Kd) {φ ψ : Str → Str → Kd}, (∀ q t, (φ q t).words ≤ (ψ q t).words) → (k.sub φ).words ≤ (k.sub ψ).words
  | .num _, _, _, _ => Nat.le_refl _
  | .nm q t, _, _, h => h q t
  | .pair a b, φ, ψ, h => by
    have h1 := Kd.words_le a h
    have h2 := Kd.words_le b h
    show 1 + (a.sub φ).words + (b.sub φ).words ≤ 1 + (a.sub ψ).words + (b.sub ψ).words
    omega
theorem words_pre (k : Kd) (g h : Gv) : (k.put g).words ≤ (k.put (g ++ h)).words := by
  rw [Kd.put_eq, Kd.put_eq]
  refine Kd.words_le k fun q t => ?_
  unfold pφ
  rw [look_app]
  cases look g (q, t) with
  | none => exact Kd.words_pos _
  | some v => exact Nat.le_refl _
theorem put_ok {k : Kd} {g : Gv} (hk : k.ok = true) (hg : ∀ p ∈ g, p.2.ok = true) : (k.put g).ok = true := by
  rw [Kd.put_eq]
  refine Kd.ok_sub k ((k.ok_all hk).mono _ fun q t z => ?_)
  unfold pφ
  cases e : look g (q, t) with
  | none => show (okS q && okS t) = true; rw [z.1, z.2]; rfl
  | some v => exact hg _ (look_mem e)
theorem Fc.B.put {f : Fc} {g : Gv} (h : f.B) (hg : ∀ p ∈ g, p.2.ok = true) (s : (f.put g).sm) : (f.put g).B := by
  refine ⟨by rw [Fc.put_def]; show ((putK g f.kinds).map (·.1)).Nodup; rw [putK_keys]; exact h.nk, by rw [Fc.put_def]; show ((putF g f.funs).map (·.1)).Nodup; rw [putF_keys]; exact h.nf, by rw [Fc.put_def]; show (putK g f.kinds).length ≤ 1000; unfold putK; rw [List.length_map]; exact h.lk, by rw [Fc.put_def]; show (putF g f.funs).length ≤ 1000; unfold putF; rw [List.length_map]; exact h.lf, fun p hp => ?_, fun p hp => ?_⟩
  · have s1 := s.k p hp
    obtain ⟨x, hx, rfl⟩ := List.mem_map.mp hp
    exact ⟨(h.k x hx).1, s1, put_ok (h.k x hx).2.2 hg⟩
  · have s1 := s.f p hp
    obtain ⟨x, hx, rfl⟩ := List.mem_map.mp hp
    refine ⟨by show (x.2.1.map (Kd.put g)).length ≤ 1000; rw [List.length_map]; exact (h.f x hx).1, fun y hy => ⟨s1.1 y hy, ?_⟩, s1.2, put_ok (h.f x hx).2.2.2 hg⟩
    obtain ⟨z, hz, rfl⟩ := List.mem_map.mp hy
    exact put_ok ((h.f x hx).2.1 z hz).2 hg
/-! refined -/
theorem ref_put (k : Kd) {g : Gv} (hf : ∀ p ∈ g, p.2.far) (t : Str) (v : Kd) : (k.put g).put [((("" : Str), t), v)] = k.put (g ++ [((("" : Str), t), v)]) := by
  rw [Kd.put_put, Kd.put_eq k]
  refine Kd.sub_congr k ((Kd.all_true k).mono _ fun q u _ => ?_)
  unfold pφ
  rw [look_app]
  cases e : look g (q, u) with
  | none => rfl
  | some w => exact far_put (hf _ (look_mem e)) (ow_know [(t, v)])
theorem know_mem {q : Str} {l : List (Str × Kd)} {P : Kd → Prop} (h : ∀ p ∈ l, P p.2) : ∀ p ∈ knowG q l, P p.2 := fun p hp => by
  obtain ⟨x, hx, rfl⟩ := List.mem_map.mp hp
  exact h x hx
theorem refN_at {f : Fc} {l : List (Str × Kd)} (hf : ∀ p ∈ l, p.2.far) : ∀ i, i ≤ l.length → refN f (l.take i) = f.put (knowG "" (l.take i))
  | 0, _ => by rw [List.take_zero]; exact (Fc.put_nil f).symm
  | i + 1, hi => by
    have e : l[i]? = some l[i] := List.getElem?_eq_getElem (by omega)
    rw [refN_more (t := l[i].1) (k := l[i].2) e, refN_at hf i (by omega), knowG_more (t := l[i].1) (k := l[i].2) e]
    exact Fc.put2 (Fc.ks_all (fun k => ref_put k (know_mem (P := Kd.far) fun p hp => hf p (List.mem_of_mem_take hp)) _ _) f)
theorem refN_eq {f : Fc} {l : List (Str × Kd)} (hf : ∀ p ∈ l, p.2.far) : refN f l = f.put (knowG "" l) := by
  have := refN_at (f := f) hf l.length (Nat.le_refl _)
  rwa [List.take_length] at this
theorem knowG_app (q : Str) (a b : List (Str × Kd)) : knowG q (a ++ b) = knowG q a ++ knowG q b := by unfold knowG; rw [List.map_append]
theorem refOk {f : Fc} {l : List (Str × Kd)} (hb : f.B) (hf : ∀ p ∈ l, p.2.far ∧ p.2.ok = true) (nd : (l.map (·.1)).Nodup) (hs : ∀ p ∈ l, p.1 ∈ hidK f.kinds) (s : (f.put (knowG "" l)).sm) : RefOk f l := by
  have far : ∀ p ∈ l, p.2.far := fun p hp => (hf p hp).1
  refine ⟨hb, fun i t k e => ?_⟩
  have hi := (List.getElem?_eq_some_iff.mp e).1
  constructor
  · rw [refN_at far i (by omega)]
    refine hid_put (hs _ (List.mem_of_getElem? e)) ?_
    rw [look_knowG, if_pos rfl]
    exact look_none (key_take nd e)
  · rw [refN_at far (i + 1) (by omega)]
    refine hb.put (know_mem (P := fun k => k.ok = true) fun p hp => (hf p (List.mem_of_mem_take hp)).2) ?_
    have e2 : knowG "" l = knowG "" (l.take (i + 1)) ++ knowG "" (l.drop (i + 1)) := by rw [← knowG_app, List.take_append_drop]
    rw [e2] at s
    exact (Fc.ks_put.mpr ((Fc.ks_put.mp s.ks).mono fun k hk => Nat.le_trans (words_pre k _ _) hk)).sm
/-! names of parts -/
def nmsOf (L : Parts) : Gv := L.flatMap fun p => knowG p.1 p.2.kinds
theorem look_nmsOf : ∀ (L : Parts), (L.map (·.1)).Nodup → ∀ q t, look (nmsOf L) (q, t) = (look L q).bind fun f => look f.kinds t
  | [], _, _, _ => rfl
  | (x, f) :: L, h, q, t => by
    have h' : (x :: L.map (·.1)).Nodup := h
    rw [List.nodup_cons] at h'
    have e : nmsOf ((x, f) :: L) = knowG x f.kinds ++ nmsOf L := by unfold nmsOf; rw [List.flatMap_cons]
    rw [e, look_app, look_knowG, look_nmsOf L h'.2]
    show _ = (if x = q then some f else look L q).bind _
    by_cases hx : x = q
    · subst hx
      rw [if_pos rfl, if_pos rfl, look_none h'.1]
      show (look f.kinds t).or none = look f.kinds t
      cases look f.kinds t <;> rfl
    · rw [if_neg hx, if_neg hx]; rfl
structure Kn (L : Parts) (N : Gv) : Prop where
  nm : Nm N
  e : ∀ (q t : Str), q ≠ "" → look N (q, t) = (look L q).bind fun f => look f.kinds t
theorem Kn.φ {L : Parts} {N : Gv} (h : Kn L N) (own : List (Str × Kd)) (q t : Str) : nφ own L q t = (pφ N q t).put (knowG "" own) := by
  by_cases hq : q = ""
  · subst hq
    rw [pφ_none (h.nm.own t), Kd.put_nm, look_knowG, if_pos rfl]
    unfold nφ lkN; rw [if_pos rfl]
  · have e : lkN own L q t = look N (q, t) := by unfold lkN; rw [if_neg hq, h.e q t hq]
    unfold nφ; rw [e]
    unfold pφ
    cases e2 : look N (q, t) with
    | none => show Kd.nm q t = (Kd.nm q t).put _; rw [Kd.put_nm, look_knowG, if_neg (fun z => hq z.symm)]; rfl
    | some v => exact (far_put (h.nm.look e2).2.2.2 (ow_know own)).symm
theorem Kn.sub {L : Parts} {N : Gv} (h : Kn L N) (own : List (Str × Kd)) (k : Kd) : k.sub (nφ own L) = (k.put N).put (knowG "" own) := by
  rw [Kd.put_put]
  exact Kd.sub_congr k ((Kd.all_true k).mono _ fun q t _ => h.φ own q t)
theorem Kn.some {L : Parts} {N : Gv} (h : Kn L N) (own : List (Str × Kd)) {q t : Str} (m : (q, t) ∈ N.map (·.1)) : (lkN own L q t).isSome = true := by
  obtain ⟨v, e⟩ := look_isSome m
  have hq := (h.nm.look e).1
  unfold lkN
  rw [if_neg hq, ← h.e q t hq, e]
  rfl
theorem own_some {own : List (Str × Kd)} (L : Parts) {t : Str} (m : t ∈ own.map (·.1)) : (lkN own L "" t).isSome = true := by
  obtain ⟨v, e⟩ := look_isSome m
  unfold lkN
  rw [if_pos rfl, e]
  rfl
theorem Kd.put_over {N : Gv} {k : Kd} (h : k.All fun q t => (q, t) ∈ N.map (·.1)) (hN : Nm N) : k.ok = true := Kd.ok_of k (h.mono _ fun q t m => by
  obtain ⟨p, hp, e⟩ := List.mem_map.mp m
  have := hN.q p hp
  rw [e] at this
  exact this.2)
/-! items one by one -/
def fOk (parts : Parts) : Fc → List It → Prop
  | _, [] => True
  | f, it :: l => itOk parts f it ∧ fOk parts (itN parts f it) l
theorem fOk_app {parts : Parts} : ∀ (a b : List It) (f : Fc), fOk parts f a → fOk parts (a.foldl (itN parts) f) b → fOk parts f (a ++ b)
  | [], _, _, _, h => h
  | it :: a, b, f, h1, h2 => ⟨h1.1, fOk_app a b _ h1.2 h2⟩
theorem fOk_at {parts : Parts} : ∀ (its : List It) (f : Fc), fOk parts f its → ∀ i it, its[i]? = some it → itOk parts ((its.take i).foldl (itN parts) f) it
  | [], _, _, i, it, e => by simp at e
  | x :: its, f, h, 0, it, e => by
    have e : x = it := Option.some.inj e
    subst e
    exact h.1
  | x :: its, f, h, i + 1, it, e => fOk_at its _ h.2 i it e
theorem it_pre (parts : Parts) (f : Fc) : ∀ it, f.kinds <+: (itN parts f it).kinds ∧ f.funs <+: (itN parts f it).funs
  | .kind _ _ => ⟨List.prefix_append _ _, List.prefix_refl _⟩
  | .opn _ => ⟨List.prefix_append _ _, List.prefix_append _ _⟩
  | .fn _ _ _ => ⟨List.prefix_refl _, List.prefix_append _ _⟩
theorem fold_pre (parts : Parts) : ∀ (its : List It) (f : Fc), f.kinds <+: (its.foldl (itN parts) f).kinds ∧ f.funs <+: (its.foldl (itN parts) f).funs
  | [], f => ⟨List.prefix_refl _, List.prefix_refl _⟩
  | it :: its, f => ⟨(it_pre parts f it).1.trans (fold_pre parts its _).1, (it_pre parts f it).2.trans (fold_pre parts its _).2⟩
theorem full_pre (parts : Parts) (its : List It) (i : Nat) : (fullN parts (its.take i)).kinds <+: (fullN parts its).kinds ∧ (fullN parts (its.take i)).funs <+: (fullN parts its).funs := by
  have e : fullN parts its = (its.drop i).foldl (itN parts) (fullN parts (its.take i)) := by
    unfold fullN
    rw [← List.foldl_append, List.take_append_drop]
  rw [e]
  exact fold_pre parts _ _
theorem fullOk_of {parts : Parts} {its : List It} (h : fOk parts ⟨[], []⟩ its) (l1 : (fullN parts its).kinds.length ≤ 1000) (l2 : (fullN parts its).funs.length ≤ 1000) : FullOk parts its :=
  ⟨fOk_at its _ h, fun i => ⟨Nat.le_trans (full_pre parts its i).1.length_le l1, Nat.le_trans (full_pre parts its i).2.length_le l2⟩⟩
/-! a face that fits -/
theorem fit {ls : List Kd} {res F : Fc} {A V : Gv} (hr : FaceOk ls res) (hls : ∀ (q t : Str), Kd.nm q t ∈ ls → q ≠ "")
    (hk : ∀ p ∈ res.kinds, look F.kinds p.1 = some (p.2.put A)) (hf : ∀ p ∈ res.funs, look F.funs p.1 = some (Sg.put A p.2))
    (hA : Ow A) (hV : ∀ (q t : Str) (v : Kd), look V (q, t) = some v → q = "" ∧ look A ("", t) = some v ∧ v.far) :
    Fits F (res.put V) ∧ res.Ks fun k => (k.put V).put (fitG F (res.put V)) = k.put A := by
  have hG : Ow (fitG F (res.put V)) := by rw [fitG_w]; exact ow_wG _ _
  have main : res.Ks fun k => (k.put V).put (fitG F (res.put V)) = k.put A := by
    refine Fc.Ks.mono hr.a.ks fun k hk0 => ?_
    rw [Kd.put_put, Kd.put_eq k]
    refine Kd.sub_congr k (hk0.mono _ fun q u z => ?_)
    cases e : look V (q, u) with
    | some v =>
      obtain ⟨rfl, a, b⟩ := hV q u v e
      rw [pφ_some e, pφ_some a]
      exact far_put b hG
    | none =>
      rw [pφ_none e, Kd.put_nm]
      rcases z with ⟨rfl, z⟩ | z
      · have m := hid_put z e
        have e3 := hk _ (hidK_mem.mp z)
        rw [fitG_w, look_wG, if_pos ⟨rfl, m⟩]
        show (look F.kinds u).getD (.num 0) = _
        rw [e3]
        rfl
      · have hq := hls q u z
        rw [hG q u hq, pφ_none (hA q u hq)]
        rfl
  refine ⟨⟨fun p hp => ?_, fun p hp => ?_⟩, main⟩
  · obtain ⟨x, hx, rfl⟩ := List.mem_map.mp hp
    rw [hk x hx]
    exact congrArg some (main.1 x hx).symm
  · obtain ⟨x, hx, rfl⟩ := List.mem_map.mp hp
    rw [hf x hx]
    refine congrArg some ?_
    show (x.2.1.map (Kd.put A), x.2.2.put A) = ((x.2.1.map (Kd.put V)).map (Kd.put (fitG F (res.put V))), (x.2.2.put V).put (fitG F (res.put V)))
    rw [(main.2 x hx).2, List.map_map]
    congr 1
    exact List.map_congr_left fun a ha => ((main.2 x hx).1 a ha).symm
end Q
-- text N2
set_option Elab.async false
set_option linter.all false
/-! The mathematics, part 12: the formals, what they want, what is known of them. -/
namespace Q
open PySem
structure D0 (W : List Str) (w0 : Str) (ks : List (Str × Kd)) (ls : List Kd) (f0 f1 res : Fc) (rows : List FRow) : Prop where
  hW : WsOk W
  e0 : W[0]? = some w0
  hk : KnownOk w0 ks
  ll : ∀ q t, Kd.nm q t ∈ ls → q = w0 ∧ (t, Kd.nm w0 t) ∈ ks
  hl : LsOk w0 ls
  h0 : FaceOk ls f0
  h1 : FaceOk ls f1
  hr : FaceOk ls res
  hF : FormsOk W ls f0 f1 (knowG w0 ks) rows
def p0s (w0 : Str) (ks : List (Str × Kd)) : Parts := [(w0, ⟨ks, []⟩)]
def kps (w0 : Str) (ks : List (Str × Kd)) (rows : List FRow) : Parts := p0s w0 ks ++ rows.map fun r => (r.x, hidF r.x r.want)
def mrow (r : FRow) : Str × Sl := (r.x, some (r.wd, r.ws))
theorem FormsOk.take {W : List Str} {ls : List Kd} {f0 f1 : Fc} {N : Gv} {rows : List FRow} (h : FormsOk W ls f0 f1 N rows) (i : Nat) : FormsOk W ls f0 f1 N (rows.take i) := by
  refine ⟨by have := h.l; rw [List.length_take]; omega, fun j r e => ?_⟩
  have hj : j < i := by
    have := (List.getElem?_eq_some_iff.mp e).1
    rw [List.length_take] at this
    omega
  rw [List.getElem?_take_of_lt hj] at e
  rw [List.take_take, Nat.min_eq_left (by omega)]
  exact h.r j r e
theorem FaceOk.B {w0 : Str} {ls : List Kd} {f : Fc} (h : FaceOk ls f) (hl : LsOk w0 ls) : f.B := ((h.W hl).V (by decide)).B h.sm
section
variable {W : List Str} {w0 : Str} {ks : List (Str × Kd)} {ls : List Kd} {f0 f1 res : Fc} {rows : List FRow}
theorem D0.take (h : D0 W w0 ks ls f0 f1 res rows) (i : Nat) : D0 W w0 ks ls f0 f1 res (rows.take i) := ⟨h.hW, h.e0, h.hk, h.ll, h.hl, h.h0, h.h1, h.hr, h.hF.take i⟩
theorem D0.keys (h : D0 W w0 ks ls f0 f1 res rows) : (kps w0 ks rows).map (·.1) = W.take (rows.length + 1) := by
  apply List.ext_getElem?
  intro j
  cases j with
  | zero => rw [List.getElem?_take_of_lt (by omega), h.e0]; rfl
  | succ j =>
    show ((rows.map fun r => (r.x, hidF r.x r.want)).map (·.1))[j]? = _
    rw [List.getElem?_map, List.getElem?_map]
    by_cases hj : j < rows.length
    · have e : rows[j]? = some rows[j] := List.getElem?_eq_getElem hj
      rw [e, List.getElem?_take_of_lt (by omega)]
      have := (h.hF.r j _ e).2.1
      rw [Nat.add_comm] at this
      exact this.symm
    · rw [List.getElem?_eq_none (by omega), List.getElem?_eq_none (by rw [List.length_take]; omega)]; rfl
theorem D0.nd (h : D0 W w0 ks ls f0 f1 res rows) : ((kps w0 ks rows).map (·.1)).Nodup := by
  rw [h.keys]
  exact (List.take_sublist _ _).nodup h.hW.nd
theorem D0.w0k (h : D0 W w0 ks ls f0 f1 res rows) : okW w0 := h.hW.k _ (List.mem_of_getElem? h.e0)
theorem D0.N0 (h : D0 W w0 ks ls f0 f1 res rows) : Nm (knowG w0 ks) := by
  have o := h.w0k
  refine ⟨fun p hp => ?_, fun p hp => ?_⟩ <;> obtain ⟨y, hy, rfl⟩ := List.mem_map.mp hp
  · exact ⟨o.ne, o.s, (h.hk.k y hy).1.s⟩
  · obtain ⟨a, b⟩ := h.hk.k y hy
    rcases b with b | ⟨b, c⟩
    · refine ⟨?_, ?_, ?_⟩
      · show y.2.ok = true
        rw [b]; show (okS w0 && okS y.1) = true
        rw [o.s, a.s]; rfl
      · show y.2.words ≤ 40
        rw [b]; exact (by decide : 1 ≤ 40)
      · show y.2.far
        rw [b]; exact o.ne
    · refine ⟨Kd.ok_of _ (c.mono _ fun _ _ z => z.elim), Nat.le_trans b (by decide), c.mono _ fun _ _ z => z.elim⟩
theorem D0.N (h : D0 W w0 ks ls f0 f1 res rows) : Nm (nmsAt (knowG w0 ks) rows) := by
  have := FormsOk.Nm h.hW h.e0 h.hl h.N0 h.h0 h.h1 rows h.hF rows.length (Nat.le_refl _)
  rwa [List.take_length] at this
theorem nms_kps (w0 : Str) (ks : List (Str × Kd)) (rows : List FRow) : nmsOf (kps w0 ks rows) = nmsAt (knowG w0 ks) rows := by
  unfold nmsOf kps p0s nmsAt
  rw [List.flatMap_append, List.flatMap_map, List.flatMap_singleton]
theorem D0.kn (h : D0 W w0 ks ls f0 f1 res rows) : Kn (kps w0 ks rows) (nmsAt (knowG w0 ks) rows) := ⟨h.N, fun q t _ => by rw [← nms_kps]; exact look_nmsOf _ h.nd q t⟩
theorem norK_kn {L : Parts} {N : Gv} (h : Kn L N) (ws : List (Str × Kd)) : norK [] L ws = putK N ws := by
  unfold norK putK
  refine List.map_congr_left fun p _ => ?_
  have : p.2.sub (nφ [] L) = p.2.put N := by
    rw [h.sub]
    exact Kd.put_nil _
  rw [this]
theorem know_putK (N : Gv) (ws : List (Str × Kd)) : knowG "" (putK N ws) = wpG N ws := by
  unfold knowG putK wpG
  rw [List.map_map]
  rfl
theorem D0.row (h : D0 W w0 ks ls f0 f1 res rows) {i : Nat} {r : FRow} (e : rows[i]? = some r) : FaceOk ls r.fc ∧ r.want.W 47 ∧ r.want.cl ∧ r.want.sm ∧ W[1 + i]? = some r.x := by
  obtain ⟨a, b, c⟩ := h.hF.r i r e
  have hf := h.hF.face h.h0 h.h1 e
  have w := a.W (h.take i).N hf h.hl
  exact ⟨hf, w.1, w.2, a.sm, b⟩
theorem D0.xok (h : D0 W w0 ks ls f0 f1 res rows) {i : Nat} {r : FRow} (e : rows[i]? = some r) : okW r.x := h.hW.k _ (List.mem_of_getElem? (h.row e).2.2.2.2)
theorem D0.rB (h : D0 W w0 ks ls f0 f1 res rows) {i : Nat} {r : FRow} (e : rows[i]? = some r) : r.want.B ∧ (hidF r.x r.want).B := by
  obtain ⟨_, b, _, d, _⟩ := h.row e
  have w := b.put (hideG_k (h.xok e).s fun p hp => (b.k p hp).1)
  exact ⟨(b.V (by decide)).B d, (w.V (by decide)).B (hid_sm d)⟩
theorem D0.want (h : D0 W w0 ks ls f0 f1 res rows) {i : Nat} {r : FRow} (e : rows[i]? = some r) {faces : Parts} (hf : look faces r.wd = some r.fc) :
    wantN faces (kps w0 ks (rows.take i)) (some (r.wd, r.ws)) = some r.want ∧ WantOk faces (kps w0 ks (rows.take i)) (some (r.wd, r.ws)) := by
  obtain ⟨a, b, c⟩ := h.hF.r i r e
  obtain ⟨fo, _, _, sm, _⟩ := h.row e
  have kn := (h.take i).kn
  generalize nmsAt (knowG w0 ks) (rows.take i) = N at kn a
  have far : ∀ p ∈ putK N r.ws, p.2.far ∧ p.2.ok = true := fun p hp => by
    obtain ⟨y, hy, rfl⟩ := List.mem_map.mp hp
    have := over_put kn.nm (a.ws y hy).2
    exact ⟨this.2.2, this.1⟩
  have e1 : refN r.fc (norK [] (kps w0 ks (rows.take i)) r.ws) = r.want := by
    rw [norK_kn kn, refN_eq fun p hp => (far p hp).1, know_putK, ← a.want]
  constructor
  · show (look faces r.wd).map _ = _
    rw [hf]
    exact congrArg some e1
  · have nd : ((putK N r.ws).map (·.1)).Nodup := by rw [putK_keys]; exact a.nd
    refine ⟨?_, fun p hp => ⟨⟨?_, ?_⟩, ?_, ?_, ?_⟩, r.fc, hf, ?_⟩
    · have := sub_len (r.ws.map (·.1)) (hidK r.fc.kinds) a.nd fun x hx => by
        obtain ⟨y, hy, rfl⟩ := List.mem_map.mp hx
        exact a.sub y hy
      have l1 := hidK_len r.fc.kinds
      have l2 := fo.lk
      rw [List.length_map] at this
      omega
    · have := (a.ws p hp).1; omega
    · exact Kd.put_over (a.ws p hp).2 kn.nm
    · exact (a.ws p hp).2.mono _ fun q t m => kn.some [] m
    · rw [kn.sub]
      show ((p.2.put N).put []).words ≤ 40
      rw [Kd.put_nil]
      have m := hidK_mem.mp (a.sub p hp)
      have m2 : (p.1, p.2.put N) ∈ r.want.kinds := by
        rw [a.want]
        refine List.mem_map.mpr ⟨_, m, ?_⟩
        show (p.1, (look (wpG N r.ws) ("", p.1)).getD (Kd.nm "" p.1)) = _
        rw [← know_putK, look_knowG, if_pos rfl, look_nd nd (List.mem_map.mpr ⟨p, hp, rfl⟩)]
        rfl
      exact sm.k _ m2
    · rw [kn.sub]
      show ((p.2.put N).put []).ok = true
      rw [Kd.put_nil]
      exact (over_put kn.nm (a.ws p hp).2).1
    · rw [norK_kn kn]
      refine refOk (fo.B h.hl) far nd (fun p hp => ?_) (by rw [know_putK, ← a.want]; exact sm)
      obtain ⟨y, hy, rfl⟩ := List.mem_map.mp hp
      exact a.sub y hy
theorem D0.mkn (h : D0 W w0 ks ls f0 f1 res rows) {faces : Parts} (hf : ∀ (i : Nat) (r : FRow), rows[i]? = some r → look faces r.wd = some r.fc) : ∀ i, i ≤ rows.length →
    mkN faces (p0s w0 ks) ((rows.map mrow).take i) = (kps w0 ks (rows.take i), (rows.take i).map fun r => (r.x, r.want))
  | 0, _ => by rw [List.take_zero, List.take_zero]; unfold kps; rw [List.map_nil, List.append_nil]; rfl
  | i + 1, hi => by
    have e : rows[i]? = some rows[i] := List.getElem?_eq_getElem (by omega)
    have e2 : (rows.map mrow)[i]? = some (mrow rows[i]) := by rw [List.getElem?_map, e]; rfl
    have w := (h.want e (hf i _ e)).1
    rw [mkN_more e2, D0.mkn h hf i (by omega)]
    have s : stepM faces (kps w0 ks (rows.take i)) (mrow rows[i]).2 = rows[i].want := by
      unfold stepM
      show (wantN faces (kps w0 ks (rows.take i)) (some (rows[i].wd, rows[i].ws))).getD _ = _
      rw [w]; rfl
    unfold mkS
    show (kps w0 ks (rows.take i) ++ [(rows[i].x, hidF rows[i].x (stepM faces (kps w0 ks (rows.take i)) (mrow rows[i]).2))], (rows.take i).map (fun r => (r.x, r.want)) ++ [(rows[i].x, stepM faces (kps w0 ks (rows.take i)) (mrow rows[i]).2)]) = _
    rw [s, take_more e]
    unfold kps
    rw [List.map_append, List.map_append, List.append_assoc]
    rfl
/-- the names that may stand in what the i-th formal wants -/
def nmBe (w0 : Str) (rows : List FRow) (i : Nat) (q : Str) : Prop := q = w0 ∨ ∃ j r, j < i ∧ rows[j]? = some r ∧ q = r.x
theorem D0.nms (h : D0 W w0 ks ls f0 f1 res rows) : ∀ (n i : Nat), i < n → ∀ (r : FRow), rows[i]? = some r → r.want.All fun q _ => q = "" ∨ nmBe w0 rows i q
  | 0, i, hi, _, _ => absurd hi (Nat.not_lt_zero _)
  | n + 1, i, hi, r, e => by
    have ih := D0.nms h n
    obtain ⟨a, _, _⟩ := h.hF.r i r e
    obtain ⟨fo, _, _, _, _⟩ := h.row e
    have vals : ∀ p ∈ nmsAt (knowG w0 ks) (rows.take i), p.2.All fun q _ => nmBe w0 rows i q := fun p hp => by
      rcases List.mem_append.mp hp with z | z
      · obtain ⟨y, hy, rfl⟩ := List.mem_map.mp z
        rcases (h.hk.k y hy).2 with b | ⟨_, b⟩
        · show y.2.All _
          rw [b]; exact .inl rfl
        · exact b.mono _ fun _ _ z => z.elim
      · obtain ⟨r', hr', z⟩ := List.mem_flatMap.mp z
        obtain ⟨j, hj⟩ := List.mem_iff_getElem?.mp hr'
        have ji : j < i := by
          have := (List.getElem?_eq_some_iff.mp hj).1
          rw [List.length_take] at this
          omega
        rw [List.getElem?_take_of_lt ji] at hj
        obtain ⟨y, hy, rfl⟩ := List.mem_map.mp z
        obtain ⟨_, _, cl, _, _⟩ := h.row hj
        have A : (hidF r'.x r'.want).All fun q _ => nmBe w0 rows i q := by
          have both : r'.want.All fun q t => (q = "" ∨ nmBe w0 rows j q) ∧ (q = "" → t ∈ hidK r'.want.kinds) :=
            ⟨fun x hx => ((ih j (by omega) r' hj).1 x hx).and _ (cl.1 x hx), fun x hx => ⟨fun b hb => (((ih j (by omega) r' hj).2 x hx).1 b hb).and _ ((cl.2 x hx).1 b hb), ((ih j (by omega) r' hj).2 x hx).2.and _ (cl.2 x hx).2⟩⟩
          refine Fc.All.put both fun q t z => ?_
          rw [pφ_hide]
          by_cases c : q = "" ∧ t ∈ hidK r'.want.kinds
          · rw [if_pos c]
            exact .inr ⟨j, r', ji, hj, rfl⟩
          · rw [if_neg c]
            have nq : q ≠ "" := fun eq => c ⟨eq, z.2 eq⟩
            rcases z.1 with z | z | ⟨j', r2, z1, z2, z3⟩
            · exact absurd z nq
            · exact .inl z
            · exact .inr ⟨j', r2, by omega, z2, z3⟩
        exact A.1 y hy
    rw [a.want]
    refine Fc.All.put fo.a fun q t z => ?_
    cases e2 : look (wpG (nmsAt (knowG w0 ks) (rows.take i)) r.ws) (q, t) with
    | none =>
      rw [pφ_none e2]
      rcases z with z | z
      · exact .inl z.1
      · exact .inr (.inl (h.ll q t z).1)
    | some v =>
      rw [pφ_some e2]
      obtain ⟨y, hy, e3⟩ := List.mem_map.mp (look_mem e2)
      injection e3 with _ e3
      rw [← e3, Kd.put_eq]
      refine Kd.All_sub _ ((a.ws y hy).2.mono _ fun q t m => ?_)
      obtain ⟨v2, e4⟩ := look_isSome m
      rw [pφ_some e4]
      exact (vals _ (look_mem e4)).mono _ fun _ _ z => .inr z
end
end Q
-- text N3
set_option Elab.async false
set_option linter.all false
/-! The mathematics, part 13: the items' full face. -/
namespace Q
open PySem
theorem ownF_pre (N : Gv) : ∀ (b acc : List (Str × Kd)), acc <+: b.foldl (fun acc p => acc ++ [(p.1, (p.2.put N).put (knowG "" acc))]) acc
  | [], acc => List.prefix_refl _
  | p :: b, acc => (List.prefix_append acc _).trans (ownF_pre N b _)
theorem ownL_len (N : Gv) (its : List (Str × Kd)) : (ownL N its).length = its.length := by
  have := congrArg List.length (ownL_keys N _ its rfl)
  rwa [List.length_map, List.length_map] at this
theorem ownL_take (N : Gv) (its : List (Str × Kd)) {i : Nat} (hi : i ≤ its.length) : ownL N (its.take i) = (ownL N its).take i := by
  have p : ownL N (its.take i) <+: ownL N its := by
    have e : ownL N its = (its.drop i).foldl (fun acc p => acc ++ [(p.1, (p.2.put N).put (knowG "" acc))]) (ownL N (its.take i)) := by
      unfold ownL
      rw [← List.foldl_append, List.take_append_drop]
    rw [e]
    exact ownF_pre N _ _
  have := List.prefix_iff_eq_take.mp p
  rw [ownL_len, List.length_take, Nat.min_eq_left hi] at this
  exact this
theorem ownL_get (N : Gv) {its : List (Str × Kd)} {j : Nat} {t : Str} {k : Kd} (e : its[j]? = some (t, k)) : (ownL N its)[j]? = some (t, (k.put N).put (knowG "" ((ownL N its).take j))) := by
  have hj := (List.getElem?_eq_some_iff.mp e).1
  have e1 : (ownL N its)[j]? = ((ownL N its).take (j + 1))[j]? := (List.getElem?_take_of_lt (by omega)).symm
  have l : ((ownL N its).take j).length = j := by rw [List.length_take, ownL_len]; omega
  rw [e1, ← ownL_take N its (by omega), take_more e, ownL_snoc, ownL_take N its (by omega)]
  rw [List.getElem?_append_right (by omega), l, Nat.sub_self]
  rfl
abbrev Rs (ls : List Kd) (res : Fc) : Str → Str → Prop := fun q t => (q = "" ∧ t ∈ hidK res.kinds) ∨ Kd.nm q t ∈ ls
structure D1 (w0 : Str) (ls : List Kd) (res : Fc) (N : Gv) (its : List (Str × Kd)) : Prop where
  hr : FaceOk ls res
  hl : LsOk w0 ls
  hN : Nm N
  lsN : ∀ q t, Kd.nm q t ∈ ls → look N (q, t) = some (Kd.nm q t)
  it : ItOk N (ordK res.kinds) its
theorem look_take {l : List (Str × Kd)} (nd : (l.map (·.1)).Nodup) {i j : Nat} {t : Str} {v : Kd} (e : l[j]? = some (t, v)) (h : j < i) : look (l.take i) t = some v := by
  refine look_nd ?_ ?_
  · rw [List.map_take]; exact (List.take_sublist _ _).nodup nd
  · have : (l.take i)[j]? = some (t, v) := by rw [List.getElem?_take_of_lt h]; exact e
    exact List.mem_of_getElem? this
section
variable {w0 : Str} {ls : List Kd} {res : Fc} {N : Gv} {its : List (Str × Kd)}
theorem D1.ne (h : D1 w0 ls res N its) {q t : Str} (m : Kd.nm q t ∈ ls) : q ≠ "" := by
  rw [(h.hl.nm m).1]; exact h.hl.ne
theorem D1.rsN (h : D1 w0 ls res N its) {k : Kd} (a : k.All (Rs ls res)) : k.put N = k := by
  rw [Kd.put_eq]
  refine (Kd.sub_congr k (a.mono _ fun q t z => ?_)).trans (Kd.sub_nm k)
  rcases z with ⟨rfl, _⟩ | z
  · exact pφ_none (h.hN.own t)
  · exact pφ_some (h.lsN q t z)
theorem D1.keys (h : D1 w0 ls res N its) : (ownL N its).map (·.1) = (ordK res.kinds).map (·.1) := by rw [ownL_keys N _ its rfl, h.it.keys]
theorem D1.nd (h : D1 w0 ls res N its) : ((ownL N its).map (·.1)).Nodup := by rw [h.keys]; exact ord_nd h.hr.nk
theorem D1.key (h : D1 w0 ls res N its) {t : Str} : t ∈ (ownL N its).map (·.1) ↔ t ∈ res.kinds.map (·.1) := by
  rw [h.keys]
  constructor
  · intro m
    obtain ⟨p, hp, rfl⟩ := List.mem_map.mp m
    exact List.mem_map.mpr ⟨p, ord_mem.mp hp, rfl⟩
  · intro m
    obtain ⟨p, hp, rfl⟩ := List.mem_map.mp m
    exact List.mem_map.mpr ⟨p, ord_mem.mpr hp, rfl⟩
theorem D1.hid (h : D1 w0 ls res N its) {t : Str} (m : t ∈ hidK res.kinds) : ∃ j k, its[j]? = some (t, k) ∧ j < (res.kinds.filter isH).length ∧ k.words ≤ 5 ∧ (k.All fun q t => (q, t) ∈ N.map (·.1)) ∧ (k.put N).words ≤ 40 ∧
    (k.put N).far ∧ (ownL N its)[j]? = some (t, k.put N) ∧ look (ownL N its) t = some (k.put N) := by
  obtain ⟨j, hj⟩ := List.mem_iff_getElem?.mp (ord_mem.mpr (hidK_mem.mp m))
  obtain ⟨k, e, c⟩ := h.it.k j t _ hj
  unfold ItC at c
  rw [if_pos rfl] at c
  obtain ⟨c1, c2, c3⟩ := c
  have fr := (over_put h.hN c2).2.2
  have g := ownL_get N e
  rw [far_put fr (ow_know _)] at g
  exact ⟨j, k, e, (ord_hid hj).mp (by unfold isH; exact decide_eq_true rfl), c1, c2, c3, fr, g, look_nd h.nd (List.mem_of_getElem? g)⟩
theorem rs_app {k : Kd} (a : k.All (Rs ls res)) (hl : LsOk w0 ls) {A l : List (Str × Kd)} (hA : ∀ t ∈ hidK res.kinds, t ∉ A.map (·.1)) : k.put (knowG "" (A ++ l)) = k.put (knowG "" l) := by
  refine Kd.put_congr k (a.mono _ fun q t z => ?_)
  rw [look_knowG, look_knowG]
  rcases z with ⟨rfl, z⟩ | z
  · rw [if_pos rfl, if_pos rfl, look_app, look_none (hA t z)]; rfl
  · have : ¬ "" = q := fun e => hl.ne ((hl.nm z).1.symm.trans e.symm)
    rw [if_neg this, if_neg this]
theorem D1.rs_take (h : D1 w0 ls res N its) {k : Kd} (a : k.All (Rs ls res)) {j : Nat} (hj : (res.kinds.filter isH).length ≤ j) : k.put (knowG "" ((ownL N its).take j)) = k.put (knowG "" (ownL N its)) := by
  refine Kd.put_congr k (a.mono _ fun q t z => ?_)
  rw [look_knowG, look_knowG]
  rcases z with ⟨rfl, z⟩ | z
  · obtain ⟨j', k, _, lt, _, _, _, _, g, e⟩ := h.hid z
    rw [if_pos rfl, if_pos rfl, e, look_take h.nd g (by omega)]
  · have : ¬ "" = q := fun e => h.ne z e.symm
    rw [if_neg this, if_neg this]
theorem D1.rsK (h : D1 w0 ls res N its) {t : Str} {k0 : Kd} (m : (t, k0) ∈ res.kinds) : look (ownL N its) t = some (k0.put (knowG "" (ownL N its))) := by
  by_cases c : k0 = .nm "" t
  · subst c
    obtain ⟨_, k, _, _, _, _, _, _, _, e⟩ := h.hid (hidK_mem.mpr m)
    rw [Kd.put_nm, look_knowG, if_pos rfl, e]
    rfl
  · obtain ⟨j, hj⟩ := List.mem_iff_getElem?.mp (ord_mem.mpr m)
    obtain ⟨k, e, cc⟩ := h.it.k j t _ hj
    unfold ItC at cc
    rw [if_neg c] at cc
    subst cc
    have a := h.hr.a.1 _ m
    have g := ownL_get N e
    have nh : (res.kinds.filter isH).length ≤ j := by
      have := ord_hid hj
      apply Classical.byContradiction
      intro n
      exact c (of_decide_eq_true (this.mpr (by omega)))
    rw [h.rsN a, h.rs_take a nh] at g
    exact look_nd h.nd (List.mem_of_getElem? g)
theorem D1.rs_ok (h : D1 w0 ls res N its) {k : Kd} (a : k.All (Rs ls res)) : k.ok = true ∧ (k.put (knowG "" (ownL N its))).ok = true ∧ (k.put (knowG "" (ownL N its))).far := by
  have o : k.ok = true := Kd.ok_of k (a.mono _ fun q t z => by
    rcases z with ⟨rfl, z⟩ | z
    · exact ⟨by decide +kernel, (h.hr.wk _ (hidK_mem.mp z)).s⟩
    · obtain ⟨e, o⟩ := h.hl.nm z; rw [e]; exact ⟨h.hl.ok, o⟩)
  have st : k.All fun q t => (pφ (knowG "" (ownL N its)) q t).ok = true ∧ (pφ (knowG "" (ownL N its)) q t).far := a.mono _ fun q t z => by
    rcases z with ⟨rfl, z⟩ | z
    · obtain ⟨_, k, _, _, _, c, _, fr, _, e⟩ := h.hid z
      have e2 : look (knowG "" (ownL N its)) ("", t) = some (k.put N) := by rw [look_knowG, if_pos rfl, e]
      rw [pφ_some e2]
      exact ⟨(over_put h.hN c).1, fr⟩
    · obtain ⟨e, o⟩ := h.hl.nm z
      rw [pφ_none (ow_know _ q t (h.ne z))]
      refine ⟨?_, h.ne z⟩
      show (okS q && okS t) = true
      rw [e, h.hl.ok, o]; rfl
  refine ⟨o, ?_, ?_⟩ <;> rw [Kd.put_eq]
  · exact Kd.ok_sub k (st.mono _ fun q t z => z.1)
  · exact Kd.All_sub k (st.mono _ fun q t z => z.2)
theorem D1.own (h : D1 w0 ls res N its) : ∀ p ∈ ownL N its, okS p.1 = true ∧ p.2.ok = true ∧ p.2.far := fun p hp => by
  have m := h.key.mp (List.mem_map.mpr ⟨p, hp, rfl⟩)
  obtain ⟨y, hy, e⟩ := List.mem_map.mp m
  have e2 := h.rsK (t := y.1) (k0 := y.2) hy
  have e3 := look_nd h.nd (t := p.1) (v := p.2) hp
  rw [e, e3] at e2
  have e2 := Option.some.inj e2
  rw [e2]
  have r := h.rs_ok (h.hr.a.1 _ hy)
  exact ⟨by rw [← e]; exact (h.hr.wk y hy).s, r.2⟩
theorem D1.lko (h : D1 w0 ls res N its) {L : Parts} (kn : Kn L N) {own : List (Str × Kd)} (ho : ∀ t ∈ hidK res.kinds, t ∈ own.map (·.1)) {k : Kd} (a : k.All (Rs ls res)) : k.All fun q t => (lkN own L q t).isSome = true := a.mono _ fun q t z => by
  rcases z with ⟨rfl, z⟩ | z
  · exact own_some L (ho t z)
  · exact kn.some own (look_key (h.lsN q t z))
theorem D1.mid (h : D1 w0 ls res N its) {L : Parts} (kn : Kn L N) {A : List (Str × Kd)} {B : List (Str × Sg)} (hA : ∀ t ∈ res.kinds.map (·.1), t ∉ A.map (·.1)) (hs : ∀ p ∈ ownL N its, p.2.words ≤ 40) :
    ∀ i, i ≤ its.length → ((its.take i).map kItem).foldl (itN L) ⟨A, B⟩ = ⟨A ++ (ownL N its).take i, B⟩ ∧ fOk L ⟨A, B⟩ ((its.take i).map kItem)
  | 0, _ => by
    rw [List.take_zero, List.take_zero, List.append_nil]
    exact ⟨rfl, True.intro⟩
  | i + 1, hi => by
    obtain ⟨i1, i2⟩ := D1.mid h kn (B := B) hA hs i (by omega)
    have ei : its[i]? = some (its[i].1, its[i].2) := List.getElem?_eq_getElem (by omega)
    have lo : (ordK res.kinds).length = its.length := h.it.l.symm
    have eo : (ordK res.kinds)[i]? = some ((ordK res.kinds)[i].1, (ordK res.kinds)[i].2) := List.getElem?_eq_getElem (by omega)
    obtain ⟨k, e, c⟩ := h.it.k i _ _ eo
    have mo := ord_mem.mp (List.mem_of_getElem? eo)
    rw [ei] at e
    injection e with e
    injection e with e1 e2
    rw [← e1] at c eo mo
    rw [← e2] at c
    generalize its[i].1 = t at *
    generalize its[i].2 = k at *
    generalize (ordK res.kinds)[i].2 = k0 at *
    have g := ownL_get N ei
    have hkey : t ∈ res.kinds.map (·.1) := List.mem_map.mpr ⟨_, mo, rfl⟩
    have hAh : ∀ u ∈ hidK res.kinds, u ∉ A.map (·.1) := fun u hu => hA u (List.mem_map.mpr ⟨_, hidK_mem.mp hu, rfl⟩)
    have val : k.sub (nφ (A ++ (ownL N its).take i) L) = (k.put N).put (knowG "" ((ownL N its).take i)) ∧ k.words ≤ 40 ∧ k.ok = true ∧ k.All fun q u => (lkN (A ++ (ownL N its).take i) L q u).isSome = true := by
      rw [kn.sub]
      unfold ItC at c
      split at c
      · obtain ⟨c1, c2, c3⟩ := c
        have fr := (over_put h.hN c2).2.2
        exact ⟨by rw [far_put fr (ow_know _), far_put fr (ow_know _)], by omega, Kd.put_over c2 h.hN, c2.mono _ fun q u m => kn.some _ m⟩
      · rename_i nh
        subst c
        have a := h.hr.a.1 _ mo
        have hj : (res.kinds.filter isH).length ≤ i := by
          have := ord_hid eo
          apply Classical.byContradiction
          intro n
          exact nh (of_decide_eq_true (this.mpr (by omega)))
        refine ⟨by rw [h.rsN a]; exact rs_app a h.hl hAh, by have : k.words ≤ 7 := h.hr.sk _ mo; omega, (h.rs_ok a).1, h.lko kn (fun u hu => ?_) a⟩
        obtain ⟨j', k', _, lt, _, _, _, _, g', _⟩ := h.hid hu
        rw [List.map_append]
        exact List.mem_append.mpr (.inr (look_key (look_take h.nd g' (by omega))))
    have mg := List.mem_of_getElem? g
    rw [take_more ei, take_more g, List.map_append, List.foldl_append, i1]
    refine ⟨?_, fOk_app _ _ _ i2 ?_⟩
    · show (⟨(A ++ (ownL N its).take i) ++ [(t, k.sub (nφ (A ++ (ownL N its).take i) L))], B⟩ : Fc) = _
      rw [val.1, List.append_assoc]
    · rw [i1]
      refine ⟨⟨fun m => ?_, ⟨val.2.1, val.2.2.1⟩, val.2.2.2, ?_⟩, True.intro⟩
      · rw [List.map_append] at m
        rcases List.mem_append.mp m with z | z
        · exact hA t hkey z
        · exact key_take h.nd g z
      · show (k.sub (nφ (A ++ (ownL N its).take i) L)).B
        rw [val.1]
        exact ⟨hs _ mg, (h.own _ mg).2.1⟩
theorem D1.midf (h : D1 w0 ls res N its) {L : Parts} (kn : Kn L N) {A : List (Str × Kd)} {B : List (Str × Sg)} (hA : ∀ t ∈ res.kinds.map (·.1), t ∉ A.map (·.1)) (hB : ∀ t ∈ res.funs.map (·.1), t ∉ B.map (·.1))
    (hs : ∀ p ∈ putF (knowG "" (ownL N its)) res.funs, (∀ a ∈ p.2.1, a.words ≤ 40) ∧ p.2.2.words ≤ 40) :
    ∀ i, i ≤ res.funs.length → ((res.funs.take i).map fItem).foldl (itN L) ⟨A ++ ownL N its, B⟩ = ⟨A ++ ownL N its, B ++ putF (knowG "" (ownL N its)) (res.funs.take i)⟩ ∧ fOk L ⟨A ++ ownL N its, B⟩ ((res.funs.take i).map fItem)
  | 0, _ => by
    rw [List.take_zero]
    refine ⟨?_, True.intro⟩
    show _ = (⟨A ++ ownL N its, B ++ []⟩ : Fc)
    rw [List.append_nil]
    rfl
  | i + 1, hi => by
    obtain ⟨i1, i2⟩ := D1.midf h kn (B := B) hA hB hs i (by omega)
    have ei : res.funs[i]? = some (res.funs[i].1, (res.funs[i].2.1, res.funs[i].2.2)) := List.getElem?_eq_getElem (by omega)
    generalize res.funs[i].1 = t at *
    generalize res.funs[i].2.1 = ars at *
    generalize res.funs[i].2.2 = r at *
    have mo := List.mem_of_getElem? ei
    have hAh : ∀ u ∈ hidK res.kinds, u ∉ A.map (·.1) := fun u hu => hA u (List.mem_map.mpr ⟨_, hidK_mem.mp hu, rfl⟩)
    have ho : ∀ u ∈ hidK res.kinds, u ∈ (A ++ ownL N its).map (·.1) := fun u hu => by
      rw [List.map_append]
      exact List.mem_append.mpr (.inr (h.key.mpr (List.mem_map.mpr ⟨_, hidK_mem.mp hu, rfl⟩)))
    have val : ∀ k : Kd, k.All (Rs ls res) → k.sub (nφ (A ++ ownL N its) L) = k.put (knowG "" (ownL N its)) := fun k a => by
      rw [kn.sub, h.rsN a, rs_app a h.hl hAh]
    have nok : ∀ k : Kd, k.All (Rs ls res) → k.words ≤ 7 → (k.put (knowG "" (ownL N its))).words ≤ 40 → NOk k (A ++ ownL N its) L := fun k a w1 w2 => ⟨⟨by omega, (h.rs_ok a).1⟩, h.lko kn ho a, by rw [val k a]; exact ⟨w2, (h.rs_ok a).2.1⟩⟩
    have a1 := h.hr.a.2 _ mo
    have s1 := h.hr.sf _ mo
    have s2 := hs (t, Sg.put (knowG "" (ownL N its)) (ars, r)) (List.mem_map.mpr ⟨_, mo, rfl⟩)
    have eps : ((abP 0 ars).map fun p => p.2.sub (nφ (A ++ ownL N its) L)) = ars.map (Kd.put (knowG "" (ownL N its))) := by
      have : ((abP 0 ars).map fun p => p.2.sub (nφ (A ++ ownL N its) L)) = ((abP 0 ars).map (·.2)).map fun k => k.sub (nφ (A ++ ownL N its) L) := by rw [List.map_map]; rfl
      rw [this, abP_snd]
      exact List.map_congr_left fun a ha => val a (a1.1 a ha)
    rw [take_more ei, List.map_append, List.foldl_append, i1]
    refine ⟨?_, fOk_app _ _ _ i2 ?_⟩
    · show (⟨A ++ ownL N its, (B ++ putF (knowG "" (ownL N its)) (res.funs.take i)) ++ [(t, ((abP 0 ars).map fun p => p.2.sub (nφ (A ++ ownL N its) L), r.sub (nφ (A ++ ownL N its) L)))]⟩ : Fc) = _
      rw [eps, val r a1.2, List.append_assoc]
      unfold putF
      rw [List.map_append]
      rfl
    · rw [i1]
      refine ⟨⟨fun m => ?_, ?_, fun p hp => ?_, ?_⟩, True.intro⟩
      · rw [List.map_append] at m
        rcases List.mem_append.mp m with z | z
        · exact hB t (List.mem_map.mpr ⟨_, mo, rfl⟩) z
        · rw [putF_keys] at z
          exact key_take h.hr.nf ei z
      · have := (h.hr.wf _ mo).2
        rw [abP_len]
        show ars.length ≤ 1000
        have : ars.length ≤ 4 := this
        omega
      · have m2 : p.2 ∈ ars := by
          rw [← abP_snd ars 0]
          exact List.mem_map.mpr ⟨p, hp, rfl⟩
        exact nok p.2 (a1.1 _ m2) (s1.1 _ m2) (s2.1 _ (List.mem_map.mpr ⟨_, m2, rfl⟩))
      · exact nok r a1.2 s1.2 s2.2
theorem D1.items (h : D1 w0 ls res N its) {L : Parts} (kn : Kn L N) {A : List (Str × Kd)} {B : List (Str × Sg)} (hA : ∀ t ∈ res.kinds.map (·.1), t ∉ A.map (·.1)) (hB : ∀ t ∈ res.funs.map (·.1), t ∉ B.map (·.1))
    (hs0 : ∀ p ∈ ownL N its, p.2.words ≤ 40) (hs : ∀ p ∈ putF (knowG "" (ownL N its)) res.funs, (∀ a ∈ p.2.1, a.words ≤ 40) ∧ p.2.2.words ≤ 40) :
    (its.map kItem ++ res.funs.map fItem).foldl (itN L) ⟨A, B⟩ = ⟨A ++ ownL N its, B ++ putF (knowG "" (ownL N its)) res.funs⟩ ∧ fOk L ⟨A, B⟩ (its.map kItem ++ res.funs.map fItem) := by
  obtain ⟨a1, a2⟩ := h.mid kn (B := B) hA hs0 its.length (Nat.le_refl _)
  obtain ⟨b1, b2⟩ := h.midf kn hA hB hs res.funs.length (Nat.le_refl _)
  rw [List.take_length] at a1 a2 b1 b2
  have e : (ownL N its).take its.length = ownL N its := by rw [← ownL_len N its, List.take_length]
  rw [e] at a1
  rw [List.foldl_append, a1]
  exact ⟨b1, fOk_app _ _ _ a2 (by rw [a1]; exact b2)⟩
end
end Q
-- text N4
set_option Elab.async false
set_option linter.all false
/-! The mathematics, part 14: all the items, opened ones too; the same items written out by the given parts. -/
namespace Q
open PySem
def OpR (rows : List FRow) (I0 : List It) (own : List (Str × Kd)) (fu : List (Str × Sg)) (at_ : Int) (I : List It) (own' : List (Str × Kd)) (fu' : List (Str × Sg)) : Prop :=
  (∃ (i : Nat) (r : FRow), rows[i]? = some r ∧ (∀ p ∈ r.want.kinds, p.1 ∉ own.map (·.1)) ∧ (∀ p ∈ r.want.funs, p.1 ∉ fu.map (·.1)) ∧ at_ = (i : Int) ∧ I = .opn r.x :: I0 ∧ own' = (hidF r.x r.want).kinds ++ own ∧ fu' = (hidF r.x r.want).funs ++ fu) ∨
  (∃ u, okW u ∧ u ∉ own.map (·.1) ∧ at_ = -1 ∧ I = I0 ++ [.kind u (.num 6)] ∧ own' = own ++ [(u, .num 6)] ∧ fu' = fu)
structure FullR (L : Parts) (res : Fc) (I : List It) (own own' : List (Str × Kd)) (fu fu' : List (Str × Sg)) : Prop where
  e : fullN L I = ⟨own', fu'⟩
  o : fOk L ⟨[], []⟩ I
  b : Fc.B ⟨own', fu'⟩
  l : own'.length ≤ 100 ∧ fu'.length ≤ 100
  far : (⟨own', fu'⟩ : Fc).Ks Kd.far
  k : ∀ t ∈ res.kinds.map (·.1), look own' t = look own t
  f : ∀ t ∈ res.funs.map (·.1), look fu' t = look fu t
theorem nd_app {α β : Type} {a b : List (α × β)} (h1 : (a.map (·.1)).Nodup) (h2 : (b.map (·.1)).Nodup) (h : ∀ t ∈ b.map (·.1), t ∉ a.map (·.1)) : ((a ++ b).map (·.1)).Nodup := by
  rw [List.map_append]
  exact List.nodup_append.mpr ⟨h1, h2, fun x hx y hy e => h y hy (by rw [← e]; exact hx)⟩
section
variable {W : List Str} {w0 : Str} {ks : List (Str × Kd)} {ls : List Kd} {f0 f1 res : Fc} {rows : List FRow} {N : Gv} {its : List (Str × Kd)}
theorem D1.fu (h : D1 w0 ls res N its) : ∀ p ∈ putF (knowG "" (ownL N its)) res.funs, okS p.1 = true ∧ p.2.1.length ≤ 4 ∧ (∀ a ∈ p.2.1, a.ok = true ∧ a.far) ∧ p.2.2.ok = true ∧ p.2.2.far := fun p hp => by
  obtain ⟨x, hx, rfl⟩ := List.mem_map.mp hp
  refine ⟨(h.hr.wf x hx).1.s, by show (x.2.1.map _).length ≤ 4; rw [List.length_map]; exact (h.hr.wf x hx).2, fun a ha => ?_, (h.rs_ok (h.hr.a.2 x hx).2).2⟩
  obtain ⟨y, hy, rfl⟩ := List.mem_map.mp ha
  exact (h.rs_ok ((h.hr.a.2 x hx).1 y hy)).2
theorem full1 (d : D0 W w0 ks ls f0 f1 res rows) (h : D1 w0 ls res N its) (kn : Kn (kps w0 ks rows) N) {at_ : Int} {I : List It} {own' : List (Str × Kd)} {fu' : List (Str × Sg)}
    (op : OpR rows (its.map kItem ++ res.funs.map fItem) (ownL N its) (putF (knowG "" (ownL N its)) res.funs) at_ I own' fu') (sm : Fc.sm ⟨own', fu'⟩) :
    FullR (kps w0 ks rows) res I (ownL N its) own' (putF (knowG "" (ownL N its)) res.funs) fu' := by
  have lo : (ownL N its).length ≤ 7 := by rw [ownL_len, h.it.l, ord_len]; exact h.hr.lk
  have lf : (putF (knowG "" (ownL N its)) res.funs).length ≤ 3 := by unfold putF; rw [List.length_map]; exact h.hr.lf
  have nf : ((putF (knowG "" (ownL N its)) res.funs).map (·.1)).Nodup := by rw [putF_keys]; exact h.hr.nf
  have own := h.own
  have fu := h.fu
  have key := fun t => h.key (t := t)
  have ekf := putF_keys (knowG "" (ownL N its)) res.funs
  have nd := h.nd
  have it0 := fun (A : List (Str × Kd)) (B : List (Str × Sg)) => h.items kn (A := A) (B := B)
  rcases op with ⟨i, r, er, a1, a2, rfl, rfl, rfl, rfl⟩ | ⟨u, ou, nu, rfl, rfl, rfl, rfl⟩
  · obtain ⟨b1, b2⟩ := d.rB er
    obtain ⟨_, w, cl, _, _⟩ := d.row er
    have lk : look (kps w0 ks rows) r.x = some (hidF r.x r.want) := look_nd d.nd (List.mem_append.mpr (.inr (List.mem_map.mpr ⟨r, List.mem_of_getElem? er, rfl⟩)))
    have ek : (hidF r.x r.want).kinds.map (·.1) = r.want.kinds.map (·.1) := putK_keys _ _
    have ef : (hidF r.x r.want).funs.map (·.1) = r.want.funs.map (·.1) := putF_keys _ _
    have lA : (hidF r.x r.want).kinds.length ≤ 50 := by have := congrArg List.length ek; rw [List.length_map, List.length_map] at this; have := w.lk; omega
    have lB : (hidF r.x r.want).funs.length ≤ 50 := by have := congrArg List.length ef; rw [List.length_map, List.length_map] at this; have := w.lf; omega
    have fr := hidF_far (d.xok er).ne cl
    generalize hidF r.x r.want = H at *
    have dA : ∀ t ∈ res.kinds.map (·.1), t ∉ H.kinds.map (·.1) := fun t m m2 => by
      rw [ek] at m2
      obtain ⟨p, hp, rfl⟩ := List.mem_map.mp m2
      exact a1 p hp ((key p.1).mpr m)
    have dB : ∀ t ∈ res.funs.map (·.1), t ∉ H.funs.map (·.1) := fun t m m2 => by
      rw [ef] at m2
      obtain ⟨p, hp, rfl⟩ := List.mem_map.mp m2
      exact a2 p hp (by rw [ekf]; exact m)
    obtain ⟨c1, c2⟩ := it0 H.kinds H.funs dA dB (fun p hp => sm.k p (List.mem_append.mpr (.inr hp))) (fun p hp => sm.f p (List.mem_append.mpr (.inr hp)))
    have e0 : itN (kps w0 ks rows) ⟨[], []⟩ (.opn r.x) = ⟨H.kinds, H.funs⟩ := by
      show Fc.app ⟨[], []⟩ ((look (kps w0 ks rows) r.x).getD ⟨[], []⟩) = _
      rw [lk]
      show (⟨[] ++ H.kinds, [] ++ H.funs⟩ : Fc) = _
      rw [List.nil_append, List.nil_append]
    refine ⟨?_, ⟨⟨H, lk, b2.nk, b2.nf, by omega, by omega⟩, by rw [e0]; exact c2⟩, ⟨?_, ?_, ?_, ?_, fun p hp => ?_, fun p hp => ?_⟩, ?_, ⟨fun p hp => ?_, fun p hp => ?_⟩, fun t m => ?_, fun t m => ?_⟩
    · unfold fullN
      rw [List.foldl_cons, e0, c1]
    · exact nd_app b2.nk nd fun t m => dA t ((key t).mp m)
    · exact nd_app b2.nf nf fun t m => dB t (by rw [ekf] at m; exact m)
    · show (H.kinds ++ ownL N its).length ≤ 1000
      rw [List.length_append]; omega
    · show (H.funs ++ _).length ≤ 1000
      rw [List.length_append]; omega
    · rcases List.mem_append.mp hp with z | z
      · exact b2.k p z
      · exact ⟨(own p z).1, sm.k p hp, (own p z).2.1⟩
    · rcases List.mem_append.mp hp with z | z
      · exact b2.f p z
      · obtain ⟨x1, x2, x3, x4, _⟩ := fu p z
        exact ⟨by omega, fun a ha => ⟨(sm.f p hp).1 a ha, (x3 a ha).1⟩, (sm.f p hp).2, x4⟩
    · constructor
      · rw [List.length_append]; omega
      · rw [List.length_append]; omega
    · rcases List.mem_append.mp hp with z | z
      · exact fr.1 p z
      · exact (own p z).2.2
    · rcases List.mem_append.mp hp with z | z
      · exact fr.2 p z
      · exact ⟨fun a ha => ((fu p z).2.2.1 a ha).2, (fu p z).2.2.2.2⟩
    · rw [look_app, look_none (dA t m)]; rfl
    · rw [look_app, look_none (dB t m)]; rfl
  · obtain ⟨c1, c2⟩ := it0 [] [] (fun t _ m => by cases m) (fun t _ m => by cases m) (fun p hp => sm.k p (List.mem_append.mpr (.inl hp))) (fun p hp => sm.f p hp)
    rw [List.nil_append, List.nil_append] at c1
    have one : (Kd.num 6).B := ⟨by decide, rfl⟩
    refine ⟨?_, fOk_app _ _ _ c2 ?_, ⟨?_, nf, ?_, ?_, fun p hp => ?_, fun p hp => ?_⟩, ?_, ⟨fun p hp => ?_, fun p hp => ⟨fun a ha => ((fu p hp).2.2.1 a ha).2, (fu p hp).2.2.2.2⟩⟩, fun t m => ?_, fun t m => rfl⟩
    · unfold fullN
      rw [List.foldl_append, c1]
      rfl
    · rw [c1]
      exact ⟨⟨nu, one, True.intro, one⟩, True.intro⟩
    · exact nd_snoc nd nu
    · show (_ ++ [_]).length ≤ 1000
      rw [List.length_append, List.length_singleton]; omega
    · show (putF _ _).length ≤ 1000
      omega
    · rcases List.mem_append.mp hp with z | z
      · exact ⟨(own p z).1, sm.k p hp, (own p z).2.1⟩
      · rw [List.mem_singleton.mp z]; exact ⟨ou.s, one⟩
    · obtain ⟨x1, x2, x3, x4, _⟩ := fu p hp
      exact ⟨by omega, fun a ha => ⟨(sm.f p hp).1 a ha, (x3 a ha).1⟩, (sm.f p hp).2, x4⟩
    · constructor
      · rw [List.length_append, List.length_singleton]; omega
      · omega
    · rcases List.mem_append.mp hp with z | z
      · exact (own p z).2.2
      · rw [List.mem_singleton.mp z]; exact True.intro
    · obtain ⟨v, e⟩ := look_isSome ((key t).mpr m)
      rw [look_app, e]; rfl
end
/-! the items written out by other parts -/
structure Mv (mv : List (Str × Str)) (known parts : Parts) (N2 : Gv) : Prop where
  e : look mv "" = none
  ne : ∀ x y, look mv x = some y → okW y
  p : ∀ (q t : Str) (v : Kd), q ≠ "" → ((look known q).bind fun f => look f.kinds t) = some v → ((look parts ((look mv q).getD q)).bind fun f => look f.kinds t) = some (v.put N2)
  nm : Nm N2
theorem Mv.q {mv : List (Str × Str)} {known parts : Parts} {N2 : Gv} (h : Mv mv known parts N2) {q : Str} (hq : q ≠ "") : (look mv q).getD q ≠ "" := by
  cases e : look mv q with
  | none => exact hq
  | some y => exact (h.ne q y e).ne
theorem mv_words (mv : List (Str × Str)) : ∀ k : Kd, (mvK mv k).words = k.words
  | .num _ => rfl
  | .nm _ _ => rfl
  | .pair a b => by
    show 1 + (mvK mv a).words + (mvK mv b).words = 1 + a.words + b.words
    rw [mv_words mv a, mv_words mv b]
theorem mv_dep (mv : List (Str × Str)) : ∀ k : Kd, (mvK mv k).dep = k.dep
  | .num _ => rfl
  | .nm _ _ => rfl
  | .pair a b => by
    show 1 + max (mvK mv a).dep (mvK mv b).dep = 1 + max a.dep b.dep
    rw [mv_dep mv a, mv_dep mv b]
section
variable {mv : List (Str × Str)} {known parts : Parts} {N2 : Gv}
theorem Mv.ok (h : Mv mv known parts N2) : ∀ k : Kd, k.ok = true → (mvK mv k).ok = true
  | .num _, _ => rfl
  | .nm q t, o => by
    have o : (okS q && okS t) = true := o
    rw [Bool.and_eq_true] at o
    show (okS ((look mv q).getD q) && okS t) = true
    rw [o.2, Bool.and_true]
    cases e : look mv q with
    | none => exact o.1
    | some y => exact (h.ne q y e).s
  | .pair a b, o => by
    have o : (a.ok && b.ok) = true := o
    rw [Bool.and_eq_true] at o
    show ((mvK mv a).ok && (mvK mv b).ok) = true
    rw [h.ok a o.1, h.ok b o.2]; rfl
theorem Mv.sub (h : Mv mv known parts N2) (own : List (Str × Kd)) : ∀ k : Kd, (k.All fun q t => (lkN own known q t).isSome = true) →
    (mvK mv k).sub (nφ (putK N2 own) parts) = (k.sub (nφ own known)).put N2 ∧ (mvK mv k).All fun q t => (lkN (putK N2 own) parts q t).isSome = true
  | .num _, _ => ⟨rfl, True.intro⟩
  | .nm q t, a => by
    have a : (lkN own known q t).isSome = true := a
    obtain ⟨v, e⟩ := Option.isSome_iff_exists.mp a
    have key : lkN (putK N2 own) parts ((look mv q).getD q) t = some (v.put N2) := by
      by_cases hq : q = ""
      · subst hq
        rw [h.e]
        show lkN (putK N2 own) parts "" t = _
        unfold lkN at e ⊢
        rw [if_pos rfl] at e
        rw [if_pos rfl]
        unfold putK
        rw [look_map2, e]
        rfl
      · unfold lkN at e ⊢
        rw [if_neg hq] at e
        rw [if_neg (h.q hq)]
        exact h.p q t v hq e
    constructor
    · show nφ (putK N2 own) parts ((look mv q).getD q) t = (nφ own known q t).put N2
      unfold nφ
      rw [key, e]
      rfl
    · show (lkN (putK N2 own) parts ((look mv q).getD q) t).isSome = true
      rw [key]; rfl
  | .pair a b, z => by
    obtain ⟨a1, a2⟩ := h.sub own a z.1
    obtain ⟨b1, b2⟩ := h.sub own b z.2
    refine ⟨?_, a2, b2⟩
    show Kd.pair _ _ = Kd.pair _ _
    rw [a1, b1]
theorem Mv.nok (h : Mv mv known parts N2) {own : List (Str × Kd)} {k : Kd} (n : NOk k own known) (s : ((k.sub (nφ own known)).put N2).words ≤ 40) : NOk (mvK mv k) (putK N2 own) parts := by
  obtain ⟨a, b⟩ := h.sub own k n.all
  exact ⟨⟨by rw [mv_words]; exact n.b.1, h.ok k n.b.2⟩, b, by rw [a]; exact ⟨s, put_ok n.r.2 fun p hp => (h.nm.v p hp).1⟩⟩
theorem sm_pre {a b : Fc} {g : Gv} (h1 : a.kinds <+: b.kinds) (h2 : a.funs <+: b.funs) (s : (b.put g).sm) : (a.put g).sm := by
  have s := Fc.ks_put.mp s.ks
  exact (Fc.ks_put.mpr ⟨fun x hx => s.1 x (h1.subset hx), fun x hx => s.2 x (h2.subset hx)⟩).sm
theorem Mv.it (h : Mv mv known parts N2) (f : Fc) (it : It) (o : itOk known f it) (ho : ∀ x, it = .opn x → ∀ g, look known x = some g → look parts ((look mv x).getD x) = some (g.put N2)) (s : ((itN known f it).put N2).sm) :
    itOk parts (f.put N2) (mvI mv it) ∧ itN parts (f.put N2) (mvI mv it) = (itN known f it).put N2 := by
  cases it with
  | kind t k =>
    obtain ⟨o1, o2⟩ := o
    have sk := (Fc.ks_put.mp s.ks).1 (t, k.sub (nφ f.kinds known)) (List.mem_append.mpr (.inr (List.mem_singleton.mpr rfl)))
    refine ⟨⟨by rw [Fc.put_def]; show t ∉ (putK N2 f.kinds).map (·.1); rw [putK_keys]; exact o1, h.nok o2 sk⟩, ?_⟩
    show (⟨putK N2 f.kinds ++ [(t, (mvK mv k).sub (nφ (putK N2 f.kinds) parts))], putF N2 f.funs⟩ : Fc) = ⟨putK N2 (f.kinds ++ [(t, k.sub (nφ f.kinds known))]), putF N2 f.funs⟩
    rw [(h.sub f.kinds k o2.all).1]
    unfold putK
    rw [List.map_append]
    rfl
  | opn x =>
    obtain ⟨g, e, n1, n2, l1, l2⟩ := o
    have e2 := ho x rfl g e
    refine ⟨⟨g.put N2, e2, ?_, ?_, ?_, ?_⟩, ?_⟩
    · show ((putK N2 f.kinds ++ putK N2 g.kinds).map (·.1)).Nodup
      rw [List.map_append, putK_keys, putK_keys, ← List.map_append]; exact n1
    · show ((putF N2 f.funs ++ putF N2 g.funs).map (·.1)).Nodup
      rw [List.map_append, putF_keys, putF_keys, ← List.map_append]; exact n2
    · show (putK N2 g.kinds).length ≤ 1000
      unfold putK; rw [List.length_map]; exact l1
    · show (putF N2 g.funs).length ≤ 1000
      unfold putF; rw [List.length_map]; exact l2
    · show (f.put N2).app ((look parts ((look mv x).getD x)).getD ⟨[], []⟩) = (f.app ((look known x).getD ⟨[], []⟩)).put N2
      rw [e, e2]
      show (⟨putK N2 f.kinds ++ putK N2 g.kinds, putF N2 f.funs ++ putF N2 g.funs⟩ : Fc) = ⟨putK N2 (f.kinds ++ g.kinds), putF N2 (f.funs ++ g.funs)⟩
      unfold putK putF
      rw [List.map_append, List.map_append]
  | fn t ps r =>
    obtain ⟨o1, o2, o3, o4⟩ := o
    have sk := (Fc.ks_put.mp s.ks).2 (t, (ps.map fun p => p.2.sub (nφ f.kinds known), r.sub (nφ f.kinds known))) (List.mem_append.mpr (.inr (List.mem_singleton.mpr rfl)))
    refine ⟨⟨by rw [Fc.put_def]; show t ∉ (putF N2 f.funs).map (·.1); rw [putF_keys]; exact o1, by rw [List.length_map]; exact o2, fun p hp => ?_, h.nok o4 sk.2⟩, ?_⟩
    · obtain ⟨y, hy, rfl⟩ := List.mem_map.mp hp
      exact h.nok (o3 y hy) (sk.1 _ (List.mem_map.mpr ⟨y, hy, rfl⟩))
    · have e1 : ((ps.map fun p => (p.1, mvK mv p.2)).map fun p => p.2.sub (nφ (putK N2 f.kinds) parts)) = (ps.map fun p => p.2.sub (nφ f.kinds known)).map (Kd.put N2) := by
        rw [List.map_map, List.map_map]
        exact List.map_congr_left fun p hp => (h.sub f.kinds p.2 (o3 p hp).all).1
      show (⟨putK N2 f.kinds, putF N2 f.funs ++ [(t, ((ps.map fun p => (p.1, mvK mv p.2)).map fun p => p.2.sub (nφ (putK N2 f.kinds) parts), (mvK mv r).sub (nφ (putK N2 f.kinds) parts)))]⟩ : Fc) = ⟨putK N2 f.kinds, putF N2 (f.funs ++ [(t, (ps.map fun p => p.2.sub (nφ f.kinds known), r.sub (nφ f.kinds known)))])⟩
      rw [e1, (h.sub f.kinds r o4.all).1]
      unfold putF
      rw [List.map_append]
      rfl
theorem Mv.full (h : Mv mv known parts N2) : ∀ (its : List It) (f : Fc), fOk known f its → (∀ x, It.opn x ∈ its → ∀ g, look known x = some g → look parts ((look mv x).getD x) = some (g.put N2)) → ((its.foldl (itN known) f).put N2).sm →
    fOk parts (f.put N2) (its.map (mvI mv)) ∧ (its.map (mvI mv)).foldl (itN parts) (f.put N2) = (its.foldl (itN known) f).put N2
  | [], _, _, _, _ => ⟨True.intro, rfl⟩
  | it :: its, f, o, ho, s => by
    have p := fold_pre known its (itN known f it)
    obtain ⟨a, b⟩ := h.it f it o.1 (fun x e => ho x (by rw [e]; exact List.mem_cons_self ..)) (sm_pre p.1 p.2 s)
    obtain ⟨c, d⟩ := h.full its (itN known f it) o.2 (fun x m => ho x (List.mem_cons_of_mem _ m)) s
    rw [← b] at c d
    exact ⟨⟨a, c⟩, d⟩
end
end Q
-- text N5
set_option Elab.async false
set_option linter.all false
/-! The mathematics, part 15: the parts given. -/
namespace Q
open PySem
theorem put_nm_iff {N : Gv} (h : Nm N) (k : Kd) (t : Str) : k.put N = .nm "" t ↔ k = .nm "" t := by
  cases k with
  | num n => exact ⟨fun e => (by cases e), fun e => (by cases e)⟩
  | pair a b => exact ⟨fun e => (by cases e), fun e => (by cases e)⟩
  | nm q u =>
    rw [Kd.put_nm]
    cases e : look N (q, u) with
    | none => exact Iff.rfl
    | some v =>
      obtain ⟨a, _, _, b⟩ := h.look e
      constructor
      · intro e2
        have e2 : v = .nm "" t := e2
        rw [e2] at b
        exact absurd rfl b
      · intro e2
        injection e2 with e2 _
        exact absurd e2 a
theorem hidK_putN {N : Gv} (h : Nm N) : ∀ l : List (Str × Kd), hidK (putK N l) = hidK l
  | [] => rfl
  | p :: l => by
    have ih := hidK_putN h l
    unfold hidK putK at ih ⊢
    rw [List.map_cons, List.filter_cons, List.filter_cons]
    have e : decide ((p.1, p.2.put N).2 = Kd.nm "" (p.1, p.2.put N).1) = decide (p.2 = Kd.nm "" p.1) := by
      rw [decide_eq_decide]; exact put_nm_iff h p.2 p.1
    rw [e]
    split
    · rw [List.map_cons, List.map_cons, ih]
    · exact ih
theorem hid_putN {N : Gv} (h : Nm N) (f : Fc) : hidK (f.put N).kinds = hidK f.kinds := hidK_putN h f.kinds
theorem Fc.put22 {f : Fc} {g h g' h' : Gv} (H : f.Ks fun k => (k.put g).put h = (k.put g').put h') : (f.put g).put h = (f.put g').put h' := by
  have h1 : putK h (putK g f.kinds) = putK h' (putK g' f.kinds) := by
    unfold putK
    rw [List.map_map, List.map_map]
    exact List.map_congr_left fun x hx => by show (x.1, (x.2.put g).put h) = (x.1, (x.2.put g').put h'); rw [H.1 x hx]
  have h2 : putF h (putF g f.funs) = putF h' (putF g' f.funs) := by
    unfold putF
    rw [List.map_map, List.map_map]
    refine List.map_congr_left fun x hx => ?_
    show (x.1, ((x.2.1.map (Kd.put g)).map (Kd.put h), (x.2.2.put g).put h)) = (x.1, ((x.2.1.map (Kd.put g')).map (Kd.put h'), (x.2.2.put g').put h'))
    rw [(H.2 x hx).2, List.map_map, List.map_map]
    congr 2
    exact List.map_congr_left fun a ha => (H.2 x hx).1 a ha
  rw [Fc.put_def, Fc.put_def, Fc.put_def, Fc.put_def, h1, h2]
theorem gN_none {q u : Str} : ∀ (gs : List GRow), q ∉ gs.map (·.x) → look (gNames gs) (q, u) = none
  | [], _ => rfl
  | g :: gs, h => by
    have e : gNames (g :: gs) = wG g.x g.φ g.hs ++ gNames gs := by unfold gNames; rw [List.flatMap_cons]
    rw [e, look_app, look_wG, if_neg (fun z => h (by rw [← z.1]; exact List.mem_cons_self ..)), gN_none gs fun m => h (List.mem_cons_of_mem _ m)]
    rfl
theorem gN_some {u : Str} : ∀ (gs : List GRow), (gs.map (·.x)).Nodup → ∀ (i : Nat) (g : GRow), gs[i]? = some g → look (gNames gs) (g.x, u) = if u ∈ g.hs then some (g.φ u) else none
  | [], _, _, _, e => by simp at e
  | g0 :: gs, h, i, g, e => by
    have h' : (g0.x :: gs.map (·.x)).Nodup := h
    rw [List.nodup_cons] at h'
    have e0 : gNames (g0 :: gs) = wG g0.x g0.φ g0.hs ++ gNames gs := by unfold gNames; rw [List.flatMap_cons]
    rw [e0, look_app, look_wG]
    cases i with
    | zero =>
      have e : g0 = g := Option.some.inj e
      subst e
      rw [gN_none gs h'.1]
      by_cases m : u ∈ g0.hs
      · rw [if_pos ⟨rfl, m⟩, if_pos m]; rfl
      · rw [if_neg (fun z => m z.2), if_neg m]; rfl
    | succ i =>
      have e : gs[i]? = some g := e
      have ne : g0.x ≠ g.x := fun z => h'.1 (by rw [z]; exact List.mem_map.mpr ⟨g, List.mem_of_getElem? e, rfl⟩)
      rw [if_neg (fun z => ne z.1), gN_some gs h'.2 i g e]
      rfl
/-- the given parts' words -/
def w9s (W : List Str) (n : Nat) : List Str := (W.drop 9).take n
def mvL (W : List Str) (rows : List FRow) : List (Str × Str) := (rows.map (·.x)).zip (w9s W rows.length)
def gps (w0 : Str) (ks : List (Str × Kd)) (W : List Str) (gs : List GRow) : Parts := p0s w0 ks ++ (w9s W gs.length).zip (gFaces gs)
section
variable {W : List Str} {w0 : Str} {ks : List (Str × Kd)} {ls : List Kd} {f0 f1 res : Fc} {rows : List FRow} {op : Int} {gs : List GRow}
theorem D0.xs (d : D0 W w0 ks ls f0 f1 res rows) : (w0 :: rows.map (·.x)).Nodup := by
  have := d.nd
  unfold kps p0s at this
  rw [List.map_append, List.map_map] at this
  exact this
theorem GivenOk.xs (g : GivenOk W ls rows op gs) : gs.map (·.x) = rows.map (·.x) := by
  apply List.ext_getElem?
  intro i
  rw [List.getElem?_map, List.getElem?_map]
  cases e : rows[i]? with
  | none =>
    have : gs[i]? = none := by rw [List.getElem?_eq_none_iff] at e ⊢; rw [g.l]; exact e
    rw [this]; rfl
  | some r =>
    obtain ⟨g', _, e2, _, e3, _⟩ := g.r i r e
    rw [e2]
    show some g'.x = some r.x
    rw [e3]
theorem GivenOk.take (g : GivenOk W ls rows op gs) (i : Nat) : GivenOk W ls (rows.take i) op (gs.take i) := by
  refine ⟨by rw [List.length_take, List.length_take, g.l], fun j r e => ?_⟩
  have hj : j < i := by
    have := (List.getElem?_eq_some_iff.mp e).1
    rw [List.length_take] at this
    omega
  rw [List.getElem?_take_of_lt hj] at e
  rw [List.getElem?_take_of_lt hj, List.take_take, Nat.min_eq_left (by omega)]
  exact g.r j r e
theorem GivenOk.row (g : GivenOk W ls rows op gs) {i : Nat} {x : GRow} (e : gs[i]? = some x) : ∃ r, rows[i]? = some r := by
  have := (List.getElem?_eq_some_iff.mp e).1
  rw [g.l] at this
  exact ⟨_, List.getElem?_eq_getElem this⟩
/-- the names written out are well formed -/
theorem GivenOk.Nm (d : D0 W w0 ks ls f0 f1 res rows) (g : GivenOk W ls rows op gs) : ∀ i, i ≤ gs.length → Q.Nm (gNames (gs.take i))
  | 0, _ => by rw [List.take_zero]; exact ⟨fun p hp => (by cases hp), fun p hp => (by cases hp)⟩
  | i + 1, hi => by
    have ih := GivenOk.Nm d g i (by omega)
    have e : gs[i]? = some gs[i] := List.getElem?_eq_getElem (by omega)
    obtain ⟨r, er⟩ := g.row e
    obtain ⟨g', w9, e1, ew, ex, eW, ok⟩ := g.r i r er
    have := e.symm.trans e1
    injection this with this
    rw [take_more e, gNames_snoc, this]
    have o9 := d.hW.k _ (List.mem_of_getElem? ew)
    obtain ⟨_, w, _, _, _⟩ := d.row er
    have ehs : g'.hs = hidK r.want.kinds := by rw [ok.hs, eW]; exact hid_putN ih _
    refine ih.app ⟨fun p hp => ?_, fun p hp => ?_⟩ <;> obtain ⟨t, ht, rfl⟩ := List.mem_map.mp hp
    · have m := ht
      rw [ehs] at m
      exact ⟨by rw [ex]; exact (d.xok er).ne, by rw [ex]; exact (d.xok er).s, (w.k _ (hidK_mem.mp m)).1⟩
    · have m := ht
      rw [ehs] at m
      obtain ⟨a, b⟩ := ok.φ t ht
      refine ⟨Kd.ok_of _ (b.mono _ fun q u z => ?_), Nat.le_trans a (by decide), b.mono _ fun q u z => ?_⟩
      · rcases z with ⟨rfl, rfl⟩ | z
        · exact ⟨o9.s, (w.k _ (hidK_mem.mp m)).1⟩
        · obtain ⟨e, o⟩ := d.hl.nm z; rw [e]; exact ⟨d.hl.ok, o⟩
      · rcases z with ⟨rfl, _⟩ | z
        · exact o9.ne
        · rw [(d.hl.nm z).1]; exact d.hl.ne
theorem GivenOk.Nm' (d : D0 W w0 ks ls f0 f1 res rows) (g : GivenOk W ls rows op gs) : Q.Nm (gNames gs) := by
  have := GivenOk.Nm d g gs.length (Nat.le_refl _)
  rwa [List.take_length] at this
theorem GivenOk.w0n (d : D0 W w0 ks ls f0 f1 res rows) (g : GivenOk W ls rows op gs) (t : Str) : look (gNames gs) (w0, t) = none := gN_none _ (by rw [g.xs]; exact (List.nodup_cons.mp d.xs).1)
/-- what is written out ahead stays so -/
theorem GivenOk.pre (d : D0 W w0 ks ls f0 f1 res rows) (g : GivenOk W ls rows op gs) {i : Nat} (hi : i < rows.length) {q t : Str} (hq : nmBe w0 rows i q) : look (gNames gs) (q, t) = look (gNames (gs.take i)) (q, t) := by
  have gt := g.take i
  have dt := d.take i
  rcases hq with rfl | ⟨j, r, ji, er, rfl⟩
  · rw [GivenOk.w0n d g, GivenOk.w0n dt gt]
  · obtain ⟨g', w9, e1, _, ex, _, _⟩ := g.r j r er
    have n1 : (gs.map (·.x)).Nodup := by rw [g.xs]; exact (List.nodup_cons.mp d.xs).2
    have n2 : ((gs.take i).map (·.x)).Nodup := by rw [gt.xs]; exact (List.nodup_cons.mp dt.xs).2
    have e2 : (gs.take i)[j]? = some g' := by rw [List.getElem?_take_of_lt ji]; exact e1
    rw [← ex, gN_some gs n1 j g' e1, gN_some _ n2 j g' e2]
structure GR (d : D0 W w0 ks ls f0 f1 res rows) (gs : List GRow) (op : Int) (i : Nat) (r : FRow) (g : GRow) (w9 : Str) : Prop where
  eg : gs[i]? = some g
  ew : W[9 + i]? = some w9
  hs : g.hs = hidK r.want.kinds
  x : g.x = r.x
  want : g.want = r.want
  /-- what the formal tells, written out, is what the given part was made of -/
  e : (hidF r.x r.want).put (gNames gs) = gPut (gNames (gs.take i)) g
  ex : ∀ u v, g.ex = some (u, v) → (i : Int) ≠ op ∧ okW u ∧ okW v ∧ u ∉ (gPut (gNames (gs.take i)) g).kinds.map (·.1) ∧ v ∉ (gPut (gNames (gs.take i)) g).funs.map (·.1)
theorem GivenOk.gr (d : D0 W w0 ks ls f0 f1 res rows) (g : GivenOk W ls rows op gs) {i : Nat} {r : FRow} (er : rows[i]? = some r) : ∃ g' w9, GR d gs op i r g' w9 := by
  obtain ⟨g', w9, e1, ew, ex, eW, ok⟩ := g.r i r er
  have hi := (List.getElem?_eq_some_iff.mp er).1
  have nmi := GivenOk.Nm d g i (by rw [g.l]; omega)
  have nm := GivenOk.Nm' d g
  have ehs : g'.hs = hidK r.want.kinds := by rw [ok.hs, eW]; exact hid_putN nmi _
  refine ⟨g', w9, e1, ew, ehs, ex, eW, ?_, fun u v e => ?_⟩
  · obtain ⟨_, _, cl, _, _⟩ := d.row er
    have na := d.nms (i + 1) i (by omega) r er
    have both : r.want.All fun q t => (q = "" ∨ nmBe w0 rows i q) ∧ (q = "" → t ∈ hidK r.want.kinds) :=
      ⟨fun x hx => (na.1 x hx).and _ (cl.1 x hx), fun x hx => ⟨fun b hb => ((na.2 x hx).1 b hb).and _ ((cl.2 x hx).1 b hb), (na.2 x hx).2.and _ (cl.2 x hx).2⟩⟩
    unfold hidF gPut
    rw [eW]
    refine Fc.put22 (both.ks.mono fun k hk => ?_)
    rw [Kd.put_put, Kd.put_put]
    refine Kd.sub_congr k (hk.mono _ fun q t z => ?_)
    rw [pφ_hide]
    by_cases c : q = "" ∧ t ∈ hidK r.want.kinds
    · obtain ⟨rfl, m⟩ := c
      rw [if_pos ⟨rfl, m⟩, pφ_none (nmi.own t), Kd.put_nm, Kd.put_nm, look_wG, if_pos ⟨rfl, by rw [ehs]; exact m⟩]
      have n1 : (gs.map (·.x)).Nodup := by rw [g.xs]; exact (List.nodup_cons.mp d.xs).2
      have := gN_some (u := t) gs n1 i g' e1
      rw [ex, ehs, if_pos m] at this
      rw [this]; rfl
    · rw [if_neg c]
      have nq : q ≠ "" := fun eq => c ⟨eq, z.2 eq⟩
      have nb : nmBe w0 rows i q := z.1.resolve_left nq
      have pre := GivenOk.pre d g hi (t := t) nb
      rw [Kd.put_nm, pre]
      cases e : look (gNames (gs.take i)) (q, t) with
      | none =>
        rw [pφ_none e, Kd.put_nm, ow_wG _ _ q t nq]
      | some v =>
        rw [pφ_some e]
        exact (far_put (nmi.look e).2.2.2 (ow_wG _ _)).symm
  · obtain ⟨a, b⟩ := ok.ex u v e
    exact ⟨of_decide_eq_false a, b⟩
variable {d : D0 W w0 ks ls f0 f1 res rows}
theorem GR.lk {i : Nat} {r : FRow} {g : GRow} {w9 : Str} (h : GR d gs op i r g w9) {t : Str} (m : t ∈ (gPut (gNames (gs.take i)) g).kinds.map (·.1)) : look (gFace (gNames (gs.take i)) g).kinds t = look (gPut (gNames (gs.take i)) g).kinds t := by
  unfold gFace
  cases e : g.ex with
  | none => rfl
  | some p =>
    obtain ⟨u, v⟩ := p
    obtain ⟨_, _, _, n, _⟩ := h.ex u v e
    show (if u = t then _ else _) = _
    rw [if_neg (fun z => n (by rw [z]; exact m))]
theorem GR.lf {i : Nat} {r : FRow} {g : GRow} {w9 : Str} (h : GR d gs op i r g w9) {t : Str} (m : t ∈ (gPut (gNames (gs.take i)) g).funs.map (·.1)) : look (gFace (gNames (gs.take i)) g).funs t = look (gPut (gNames (gs.take i)) g).funs t := by
  unfold gFace
  cases e : g.ex with
  | none => rfl
  | some p =>
    obtain ⟨u, v⟩ := p
    obtain ⟨x, hx⟩ := look_isSome m
    show look ((gPut (gNames (gs.take i)) g).funs ++ [(v, ([], .num 8))]) t = _
    rw [look_app, hx]; rfl
theorem GR.none {i : Nat} {r : FRow} {g : GRow} {w9 : Str} (h : GR d gs op i r g w9) (ho : (i : Int) = op) : gFace (gNames (gs.take i)) g = gPut (gNames (gs.take i)) g := by
  unfold gFace
  cases e : g.ex with
  | none => rfl
  | some p =>
    obtain ⟨u, v⟩ := p
    exact absurd ho (h.ex u v e).1
theorem gPut_keys (N2 : Gv) (g : GRow) : (gPut N2 g).kinds.map (·.1) = g.want.kinds.map (·.1) ∧ (gPut N2 g).funs.map (·.1) = g.want.funs.map (·.1) := ⟨(putK_keys _ _).trans (putK_keys _ _), (putF_keys _ _).trans (putF_keys _ _)⟩
theorem gFace_sub (N2 : Gv) (g : GRow) : (∀ p ∈ (gPut N2 g).kinds, p ∈ (gFace N2 g).kinds) ∧ ∀ p ∈ (gPut N2 g).funs, p ∈ (gFace N2 g).funs := by
  unfold gFace
  split
  · exact ⟨fun _ h => h, fun _ h => h⟩
  · exact ⟨fun _ h => List.mem_cons_of_mem _ h, fun _ h => List.mem_append.mpr (.inl h)⟩
/-- one formal and the part given for it -/
theorem GR.fits {i : Nat} {r : FRow} {g : GRow} {w9 : Str} (h : GR d gs op i r g w9) (er : rows[i]? = some r) (nmi : Q.Nm (gNames (gs.take i))) (sm : (gFace (gNames (gs.take i)) g).sm) :
    fitG (gFace (gNames (gs.take i)) g) (r.want.put (gNames (gs.take i))) = wG "" g.φ g.hs ∧ Fits (gFace (gNames (gs.take i)) g) (r.want.put (gNames (gs.take i))) ∧ (r.want.put (gNames (gs.take i))).B := by
  obtain ⟨_, w, _, _, _⟩ := d.row er
  obtain ⟨k1, k2⟩ := gPut_keys (gNames (gs.take i)) g
  have hlk := fun t => h.lk (t := t)
  have hlf := fun t => h.lf (t := t)
  have sub := gFace_sub (gNames (gs.take i)) g
  rw [h.want] at k1 k2
  have n1 : ((gPut (gNames (gs.take i)) g).kinds.map (·.1)).Nodup := by rw [k1]; exact w.nk
  have n2 : ((gPut (gNames (gs.take i)) g).funs.map (·.1)).Nodup := by rw [k2]; exact w.nf
  have eP : gPut (gNames (gs.take i)) g = (r.want.put (gNames (gs.take i))).put (wG "" g.φ g.hs) := by unfold gPut; rw [h.want]
  generalize gNames (gs.take i) = Ni at *
  have hk : hidK (r.want.put Ni).kinds = g.hs := by rw [hid_putN nmi, h.hs]
  have a : ∀ p ∈ (r.want.put Ni).kinds, look (gFace Ni g).kinds p.1 = some (p.2.put (wG "" g.φ g.hs)) := fun p hp => by
    have m : (p.1, p.2.put (wG "" g.φ g.hs)) ∈ (gPut Ni g).kinds := by rw [eP]; exact List.mem_map.mpr ⟨p, hp, rfl⟩
    rw [hlk p.1 (List.mem_map.mpr ⟨_, m, rfl⟩)]
    exact look_nd n1 m
  have b : ∀ p ∈ (r.want.put Ni).funs, look (gFace Ni g).funs p.1 = some (Sg.put (wG "" g.φ g.hs) p.2) := fun p hp => by
    have m : (p.1, Sg.put (wG "" g.φ g.hs) p.2) ∈ (gPut Ni g).funs := by rw [eP]; exact List.mem_map.mpr ⟨p, hp, rfl⟩
    rw [hlf p.1 (List.mem_map.mpr ⟨_, m, rfl⟩)]
    exact look_nd n2 m
  have e : fitG (gFace Ni g) (r.want.put Ni) = wG "" g.φ g.hs := by
    rw [fitG_w, hk]
    unfold wG
    refine List.map_congr_left fun t ht => ?_
    have m := ht
    rw [← hk] at m
    have am := a _ (hidK_mem.mp m)
    rw [Kd.put_nm, look_wG, if_pos ⟨rfl, ht⟩] at am
    show ((("" : Str), t), (look (gFace Ni g).kinds t).getD (Kd.num 0)) = ((("" : Str), t), g.φ t)
    rw [show look (gFace Ni g).kinds t = some (g.φ t) from am]
    rfl
  refine ⟨e, ⟨fun p hp => by rw [e]; exact a p hp, fun p hp => by rw [e]; exact b p hp⟩, ?_⟩
  refine (d.rB er).1.put (fun p hp => (nmi.v p hp).1) ?_
  have s2 : (gPut Ni g).sm := ⟨fun p hp => sm.k p (sub.1 p hp), fun p hp => sm.f p (sub.2 p hp)⟩
  rw [eP] at s2
  exact ((Fc.ks_put.mp s2.ks).mono fun k hk => Nat.le_trans (Kd.words_put k _) hk).sm
theorem GR.B {i : Nat} {r : FRow} {g : GRow} {w9 : Str} (h : GR d gs op i r g w9) (er : rows[i]? = some r) (hg : GivenOk W ls rows op gs) (nmi : Q.Nm (gNames (gs.take i))) (sm : (gFace (gNames (gs.take i)) g).sm) : (gFace (gNames (gs.take i)) g).B := by
  obtain ⟨_, _, b⟩ := h.fits er nmi sm
  obtain ⟨_, w, _, _, _⟩ := d.row er
  have sub := gFace_sub (gNames (gs.take i)) g
  have eP : gPut (gNames (gs.take i)) g = (r.want.put (gNames (gs.take i))).put (wG "" g.φ g.hs) := by unfold gPut; rw [h.want]
  have nm := GivenOk.Nm' d hg
  have n1 : (gs.map (·.x)).Nodup := by rw [hg.xs]; exact (List.nodup_cons.mp d.xs).2
  have okφ : ∀ p ∈ wG "" g.φ g.hs, p.2.ok = true := fun p hp => by
    obtain ⟨t, ht, rfl⟩ := List.mem_map.mp hp
    have := gN_some (u := t) gs n1 i g h.eg
    rw [if_pos ht] at this
    exact (nm.look this).2.1
  have s2 : (gPut (gNames (gs.take i)) g).sm := ⟨fun p hp => sm.k p (sub.1 p hp), fun p hp => sm.f p (sub.2 p hp)⟩
  have pB : (gPut (gNames (gs.take i)) g).B := by rw [eP] at s2 ⊢; exact b.put okφ s2
  obtain ⟨k1, k2⟩ := gPut_keys (gNames (gs.take i)) g
  rw [h.want] at k1 k2
  have l1 : (gPut (gNames (gs.take i)) g).kinds.length ≤ 50 := by have := congrArg List.length k1; rw [List.length_map, List.length_map] at this; have := w.lk; omega
  have l2 : (gPut (gNames (gs.take i)) g).funs.length ≤ 50 := by have := congrArg List.length k2; rw [List.length_map, List.length_map] at this; have := w.lf; omega
  have one : (Kd.num 8).B := ⟨by decide, rfl⟩
  have hex := h.ex
  generalize gNames (gs.take i) = Ni at *
  unfold gFace
  cases e : g.ex with
  | none => exact pB
  | some p =>
    obtain ⟨u, v⟩ := p
    obtain ⟨_, ou, ov, nu, nv⟩ := hex u v e
    refine ⟨?_, nd_snoc pB.nf nv, ?_, ?_, fun p hp => ?_, fun p hp => ?_⟩
    · show (u :: (gPut Ni g).kinds.map (·.1)).Nodup
      exact List.nodup_cons.mpr ⟨nu, pB.nk⟩
    · show (gPut Ni g).kinds.length + 1 ≤ 1000
      omega
    · show ((gPut Ni g).funs ++ [_]).length ≤ 1000
      rw [List.length_append, List.length_singleton]; omega
    · rcases List.mem_cons.mp hp with z | z
      · rw [z]; exact ⟨ou.s, one⟩
      · exact pB.k p z
    · rcases List.mem_append.mp hp with z | z
      · exact pB.f p z
      · rw [List.mem_singleton.mp z]; exact ⟨Nat.zero_le _, fun a ha => (by cases ha), one⟩
end
end Q
-- text N6
set_option Elab.async false
set_option linter.all false
/-! The mathematics, part 16: all of it together. -/
namespace Q
open PySem
theorem w9_get {W : List Str} {n i : Nat} (h : i < n) : (w9s W n)[i]? = W[9 + i]? := by
  unfold w9s
  rw [List.getElem?_take_of_lt h, List.getElem?_drop]
theorem w9_len {W : List Str} (h : W.length = 13) {n : Nat} (hn : n ≤ 4) : (w9s W n).length = n := by
  unfold w9s
  rw [List.length_take, List.length_drop, h]
  omega
section
variable {W : List Str} {w0 : Str} {ks : List (Str × Kd)} {ls : List Kd} {f0 f1 res : Fc} {rows : List FRow} {op : Int} {gs : List GRow} {N : Gv} {its : List (Str × Kd)}
theorem D1.rs_dep (h : D1 w0 ls res N its) {k : Kd} (a : k.All (Rs ls res)) : (k.put (knowG "" (ownL N its))).dep ≤ k.dep + 43 := by
  rw [Kd.put_eq]
  refine Kd.dep_sub k (a.mono _ fun q t z => ?_)
  rcases z with ⟨rfl, z⟩ | z
  · obtain ⟨_, k, _, _, c1, c, _, fr, _, e⟩ := h.hid z
    have e2 : look (knowG "" (ownL N its)) ("", t) = some (k.put N) := by rw [look_knowG, if_pos rfl, e]
    rw [pφ_some e2]
    have := (over_put h.hN c).2.1
    have := k.dep_le
    omega
  · rw [pφ_none (ow_know _ q t (h.ne z))]
    exact Nat.zero_le _
theorem D1.own_dep (h : D1 w0 ls res N its) : ∀ p ∈ ownL N its, p.2.dep ≤ 49 := fun p hp => by
  have m := h.key.mp (List.mem_map.mpr ⟨p, hp, rfl⟩)
  obtain ⟨y, hy, e⟩ := List.mem_map.mp m
  have e2 := h.rsK (t := y.1) (k0 := y.2) hy
  have e3 := look_nd h.nd (t := p.1) (v := p.2) hp
  rw [e, e3] at e2
  have e2 := Option.some.inj e2
  rw [e2]
  have r := h.rs_dep (h.hr.a.1 _ hy)
  have := h.hr.sk _ hy
  have := y.2.dep_le
  omega
theorem fullW (d : D0 W w0 ks ls f0 f1 res rows) (h : D1 w0 ls res N its) {at_ : Int} {I : List It} {own' : List (Str × Kd)} {fu' : List (Str × Sg)}
    (op : OpR rows (its.map kItem ++ res.funs.map fItem) (ownL N its) (putF (knowG "" (ownL N its)) res.funs) at_ I own' fu') : Fc.W 49 ⟨own', fu'⟩ ∧ I.length ≤ 20 ∧ ∀ it ∈ I, it.dp := by
  have lo : (ownL N its).length ≤ 7 := by rw [ownL_len, h.it.l, ord_len]; exact h.hr.lk
  have lf : (putF (knowG "" (ownL N its)) res.funs).length ≤ 3 := by unfold putF; rw [List.length_map]; exact h.hr.lf
  have li : (its.map kItem ++ res.funs.map fItem).length ≤ 10 := by
    rw [List.length_append, List.length_map, List.length_map, h.it.l, ord_len]
    have := h.hr.lk; have := h.hr.lf; omega
  have nf : ((putF (knowG "" (ownL N its)) res.funs).map (·.1)).Nodup := by rw [putF_keys]; exact h.hr.nf
  have own := h.own
  have fu := h.fu
  have dep := h.own_dep
  have fdep : ∀ p ∈ putF (knowG "" (ownL N its)) res.funs, (∀ a ∈ p.2.1, a.dep ≤ 49) ∧ p.2.2.dep ≤ 49 := fun p hp => by
    obtain ⟨x, hx, rfl⟩ := List.mem_map.mp hp
    have st : ∀ k : Kd, k.All (Rs ls res) → k.words ≤ 7 → (k.put (knowG "" (ownL N its))).dep ≤ 49 := fun k a w => by
      have := h.rs_dep a
      have := k.dep_le
      omega
    refine ⟨fun a ha => ?_, st _ (h.hr.a.2 x hx).2 (h.hr.sf x hx).2⟩
    obtain ⟨y, hy, rfl⟩ := List.mem_map.mp ha
    exact st _ ((h.hr.a.2 x hx).1 y hy) ((h.hr.sf x hx).1 y hy)
  have idp : ∀ it ∈ its.map kItem ++ res.funs.map fItem, it.dp := fun it hit => by
    rcases List.mem_append.mp hit with z | z
    · obtain ⟨p, hp, rfl⟩ := List.mem_map.mp z
      obtain ⟨j, hj⟩ := List.mem_iff_getElem?.mp hp
      have lj := (List.getElem?_eq_some_iff.mp hj).1
      obtain ⟨⟨t0, k0⟩, eo⟩ : ∃ x, (ordK res.kinds)[j]? = some x := ⟨_, List.getElem?_eq_getElem (by rw [← h.it.l]; exact lj)⟩
      obtain ⟨k, e, c⟩ := h.it.k j _ _ eo
      have mo := ord_mem.mp (List.mem_of_getElem? eo)
      have e2 := hj.symm.trans e
      injection e2 with e2
      subst e2
      show k.dep < 100
      have := c.dep (by have : k0.words ≤ 7 := h.hr.sk _ mo; have := k0.dep_le; omega)
      omega
    · obtain ⟨p, hp, rfl⟩ := List.mem_map.mp z
      have s := h.hr.sf p hp
      refine ⟨by rw [abP_len]; have := (h.hr.wf p hp).2; omega, fun q hq => ?_, by have := s.2; have := p.2.2.dep_le; omega⟩
      have m2 : q.2 ∈ p.2.1 := by
        rw [← abP_snd p.2.1 0]
        exact List.mem_map.mpr ⟨q, hq, rfl⟩
      have := s.1 _ m2
      have := q.2.dep_le
      omega
  have ekf := putF_keys (knowG "" (ownL N its)) res.funs
  have nd := h.nd
  rcases op with ⟨i, r, er, a1, a2, rfl, rfl, rfl, rfl⟩ | ⟨u, ou, nu, rfl, rfl, rfl, rfl⟩
  · obtain ⟨fo, w, cl, _, _⟩ := d.row er
    have w2 := w.put (hideG_k (d.xok er).s fun p hp => (w.k p hp).1)
    obtain ⟨ro, _, _⟩ := d.hF.r i r er
    have l1 := ro.len fo
    have l2 : r.want.funs.length ≤ 3 := by
      rw [ro.want, Fc.put_def]
      show (putF _ _).length ≤ 3
      unfold putF; rw [List.length_map]; exact fo.lf
    have ek : (hidF r.x r.want).kinds.map (·.1) = r.want.kinds.map (·.1) := putK_keys _ _
    have ef : (hidF r.x r.want).funs.map (·.1) = r.want.funs.map (·.1) := putF_keys _ _
    have lA : (hidF r.x r.want).kinds.length ≤ 7 := by have := congrArg List.length ek; rw [List.length_map, List.length_map] at this; omega
    have lB : (hidF r.x r.want).funs.length ≤ 3 := by have := congrArg List.length ef; rw [List.length_map, List.length_map] at this; omega
    have w2 : (hidF r.x r.want).W 47 := w2
    generalize hidF r.x r.want = H at *
    refine ⟨⟨?_, ?_, ?_, ?_, fun p hp => ?_, fun p hp => ?_⟩, by rw [List.length_cons]; omega, fun it hit => ?_⟩
    · refine nd_app w2.nk nd fun t m m2 => ?_
      rw [ek] at m2
      obtain ⟨p, hp, rfl⟩ := List.mem_map.mp m2
      exact a1 p hp m
    · refine nd_app w2.nf nf fun t m m2 => ?_
      rw [ef] at m2
      obtain ⟨p, hp, rfl⟩ := List.mem_map.mp m2
      exact a2 p hp m
    · show (H.kinds ++ ownL N its).length ≤ 50
      rw [List.length_append]; omega
    · show (H.funs ++ _).length ≤ 50
      rw [List.length_append]; omega
    · rcases List.mem_append.mp hp with z | z
      · obtain ⟨x1, x2, x3⟩ := w2.k p z
        exact ⟨x1, x2, by omega⟩
      · exact ⟨(own p z).1, (own p z).2.1, dep p z⟩
    · rcases List.mem_append.mp hp with z | z
      · obtain ⟨x1, x2, x3, x4⟩ := w2.f p z
        exact ⟨x1, fun a ha => ⟨(x2 a ha).1, by have := (x2 a ha).2; omega⟩, x3, by omega⟩
      · obtain ⟨x1, x2, x3, x4, _⟩ := fu p z
        exact ⟨by omega, fun a ha => ⟨(x3 a ha).1, (fdep p z).1 a ha⟩, x4, (fdep p z).2⟩
    · rcases List.mem_cons.mp hit with z | z
      · rw [z]; exact True.intro
      · exact idp it z
  · refine ⟨⟨nd_snoc nd nu, nf, ?_, ?_, fun p hp => ?_, fun p hp => ?_⟩, by rw [List.length_append, List.length_singleton]; omega, fun it hit => ?_⟩
    · show (_ ++ [_]).length ≤ 50
      rw [List.length_append, List.length_singleton]; omega
    · show (putF _ _).length ≤ 50
      omega
    · rcases List.mem_append.mp hp with z | z
      · exact ⟨(own p z).1, (own p z).2.1, dep p z⟩
      · rw [List.mem_singleton.mp z]; exact ⟨ou.s, rfl, Nat.zero_le _⟩
    · obtain ⟨x1, x2, x3, x4, _⟩ := fu p hp
      exact ⟨by omega, fun a ha => ⟨(x3 a ha).1, (fdep p hp).1 a ha⟩, x4, (fdep p hp).2⟩
    · rcases List.mem_append.mp hit with z | z
      · exact idp it z
      · rw [List.mem_singleton.mp z]; show 0 < 100; omega
/-! the given parts as parts -/
theorem D0.l4 (d : D0 W w0 ks ls f0 f1 res rows) : rows.length ≤ 4 := d.hF.l
theorem mvL_keys (d : D0 W w0 ks ls f0 f1 res rows) : (mvL W rows).map (·.1) = rows.map (·.x) := by
  unfold mvL
  exact List.map_fst_zip (by rw [List.length_map, w9_len d.hW.l d.l4]; exact Nat.le_refl _)
theorem mvL_get (d : D0 W w0 ks ls f0 f1 res rows) {i : Nat} {r : FRow} {w9 : Str} (er : rows[i]? = some r) (ew : W[9 + i]? = some w9) : (mvL W rows)[i]? = some (r.x, w9) := by
  unfold mvL
  rw [List.getElem?_zip_eq_some]
  have hi := (List.getElem?_eq_some_iff.mp er).1
  exact ⟨by rw [List.getElem?_map, er]; rfl, by rw [w9_get hi]; exact ew⟩
theorem mvL_nd (d : D0 W w0 ks ls f0 f1 res rows) : ((mvL W rows).map (·.1)).Nodup := by
  rw [mvL_keys d]; exact (List.nodup_cons.mp d.xs).2
theorem mvL_len (d : D0 W w0 ks ls f0 f1 res rows) : (mvL W rows).length = rows.length := by
  have := congrArg List.length (mvL_keys d)
  rwa [List.length_map, List.length_map] at this
theorem gps_keys (d : D0 W w0 ks ls f0 f1 res rows) (g : GivenOk W ls rows op gs) : (gps w0 ks W gs).map (·.1) = w0 :: w9s W gs.length := by
  unfold gps p0s
  rw [List.map_append, List.map_fst_zip (by rw [gFaces_len, w9_len d.hW.l (by rw [g.l]; exact d.l4)]; exact Nat.le_refl _)]
  rfl
theorem gps_nd (d : D0 W w0 ks ls f0 f1 res rows) (g : GivenOk W ls rows op gs) : ((gps w0 ks W gs).map (·.1)).Nodup := by
  rw [gps_keys d g]
  have h : (w0 :: w9s W gs.length).Sublist W := by
    have e : W = w0 :: W.drop 1 := by
      have hl := d.hW.l
      have h0 := d.e0
      match W, hl, h0 with
      | a :: l, _, h0 =>
        have h0 : a = w0 := Option.some.inj h0
        rw [h0]; rfl
    rw [e]
    refine List.Sublist.cons_cons _ ?_
    rw [← e]
    unfold w9s
    refine (List.take_sublist _ _).trans ?_
    have : W.drop 9 = (W.drop 1).drop 8 := by rw [List.drop_drop]
    rw [this]
    exact List.drop_sublist _ _
  exact h.nodup d.hW.nd
theorem gps_get (d : D0 W w0 ks ls f0 f1 res rows) (g : GivenOk W ls rows op gs) {i : Nat} {x : GRow} {w9 : Str} (e : gs[i]? = some x) (ew : W[9 + i]? = some w9) : look (gps w0 ks W gs) w9 = some (gFace (gNames (gs.take i)) x) := by
  refine look_nd (gps_nd d g) (List.mem_append.mpr (.inr ?_))
  have hi := (List.getElem?_eq_some_iff.mp e).1
  have : ((w9s W gs.length).zip (gFaces gs))[i]? = some (w9, gFace (gNames (gs.take i)) x) := by
    rw [List.getElem?_zip_eq_some]
    exact ⟨by rw [w9_get hi]; exact ew, gFaces_get e⟩
  exact List.mem_of_getElem? this
theorem look_p0 {l : Parts} : look (p0s w0 ks ++ l) w0 = some ⟨ks, []⟩ := by
  show (if w0 = w0 then some (⟨ks, []⟩ : Fc) else _) = _
  rw [if_pos rfl]
theorem mvOk (d : D0 W w0 ks ls f0 f1 res rows) (g : GivenOk W ls rows op gs) : Mv (mvL W rows) (kps w0 ks rows) (gps w0 ks W gs) (gNames gs) := by
  have nm := GivenOk.Nm' d g
  have non : ∀ q, q ∉ rows.map (·.x) → look (mvL W rows) q = none := fun q h => look_none (by rw [mvL_keys d]; exact h)
  refine ⟨non "" fun m => ?_, fun x y e => ?_, fun q t v hq e => ?_, nm⟩
  · obtain ⟨r, hr, e⟩ := List.mem_map.mp m
    obtain ⟨i, hi⟩ := List.mem_iff_getElem?.mp hr
    exact (d.xok hi).ne e
  · have m := look_mem e
    unfold mvL at m
    have m2 := (List.of_mem_zip m).2
    unfold w9s at m2
    exact d.hW.k _ (List.mem_of_mem_drop (List.mem_of_mem_take m2))
  · cases el : look (kps w0 ks rows) q with
    | none => rw [el] at e; cases e
    | some f =>
      rw [el] at e
      have e : look f.kinds t = some v := e
      rcases List.mem_append.mp (look_mem el) with z | z
      · have z := List.mem_singleton.mp z
        injection z with z1 z2
        subst z1; subst z2
        rw [non q (List.nodup_cons.mp d.xs).1]
        show ((look (p0s q ks ++ _) q).bind fun f => look f.kinds t) = _
        rw [look_p0]
        show look ks t = _
        have e : look ks t = some v := e
        rw [e]
        refine congrArg some ?_
        rcases (d.hk.k _ (look_mem e)).2 with b | ⟨_, b⟩
        · have b : v = .nm q t := b
          rw [b, Kd.put_nm, GivenOk.w0n d g]; rfl
        · exact (Kd.put_id v (b.mono _ fun _ _ z => z.elim)).symm
      · obtain ⟨r, hr, z⟩ := List.mem_map.mp z
        injection z with z1 z2
        obtain ⟨i, hi⟩ := List.mem_iff_getElem?.mp hr
        obtain ⟨g', w9, G⟩ := GivenOk.gr d g hi
        have el2 : look (mvL W rows) q = some w9 := by
          rw [← z1]
          exact look_nd (mvL_nd d) (List.mem_of_getElem? (mvL_get d hi G.ew))
        rw [el2]
        show ((look (gps w0 ks W gs) w9).bind fun f => look f.kinds t) = _
        rw [gps_get d g G.eg G.ew]
        show look (gFace (gNames (gs.take i)) g').kinds t = _
        have e3 : look (gPut (gNames (gs.take i)) g').kinds t = some (v.put (gNames gs)) := by
          rw [← G.e, z2]
          show look (putK (gNames gs) f.kinds) t = _
          unfold putK
          rw [look_map2, e]; rfl
        rw [G.lk (look_key e3)]
        exact e3
theorem mdN_eq (d : D0 W w0 ks ls f0 f1 res rows) (g : GivenOk W ls rows op gs) (sm : ∀ f ∈ gFaces gs, f.sm) : ∀ i, i ≤ rows.length → mdN (((rows.map fun r => (r.x, r.want)).zip (gFaces gs)).take i) = gNames (gs.take i)
  | 0, _ => by rw [List.take_zero, List.take_zero]; rfl
  | i + 1, hi => by
    have er : rows[i]? = some rows[i] := List.getElem?_eq_getElem (by omega)
    obtain ⟨g', w9, G⟩ := GivenOk.gr d g er
    have ez : ((rows.map fun r => (r.x, r.want)).zip (gFaces gs))[i]? = some ((rows[i].x, rows[i].want), gFace (gNames (gs.take i)) g') := by
      rw [List.getElem?_zip_eq_some]
      exact ⟨by rw [List.getElem?_map, er]; rfl, gFaces_get G.eg⟩
    have nmi := GivenOk.Nm d g i (by rw [g.l]; omega)
    have fi := (G.fits er nmi (sm _ (List.mem_of_getElem? (gFaces_get G.eg)))).1
    rw [mdN_more ez, mdN_eq d g sm i (by omega), take_more G.eg, gNames_snoc]
    unfold mdS
    show gNames (gs.take i) ++ (hidK rows[i].want.kinds).map (fun t => ((rows[i].x, t), (look (fitG (gFace (gNames (gs.take i)) g') (rows[i].want.put (gNames (gs.take i)))) ("", t)).getD (.num 0))) = _
    rw [fi, ← G.hs, ← G.x]
    congr 1
    refine List.map_congr_left fun t ht => ?_
    rw [look_wG, if_pos ⟨rfl, ht⟩]
    rfl
end
end Q
-- text N7
set_option Elab.async false
set_option linter.all false
/-! The mathematics, part 17: the made part is seen as the part written out. -/
namespace Q
open PySem
def SlR (res : Fc) (its : List (Str × Kd)) (w7 : Str) (sl : Sl) : Prop := sl = none ∨ ∃ ws, sl = some (w7, ws) ∧ (ws.map (·.1)).Nodup ∧ ∀ p ∈ ws, p.1 ∈ hidK res.kinds ∧ look (its.take (res.kinds.filter isH).length) p.1 = some p.2
theorem far_putN {N : Gv} (h : Nm N) {k : Kd} (f : k.far) : (k.put N).far := by
  rw [Kd.put_eq]
  refine Kd.All_sub k (f.mono _ fun q t z => ?_)
  cases e : look N (q, t) with
  | none => rw [pφ_none e]; exact z
  | some v => rw [pφ_some e]; exact (h.look e).2.2.2
theorem slgen {w0 : Str} {ls : List Kd} {res : Fc} {faces L : Parts} {w7 : Str} {ws l : List (Str × Kd)} (hr : FaceOk ls res) (hl : LsOk w0 ls) (hf : look faces w7 = some res) (hn : norK [] L ws = l) (hN : ∀ p ∈ ws, NOk p.2 [] L)
    (fo : ∀ p ∈ l, p.2.far ∧ p.2.ok = true) (nd : (l.map (·.1)).Nodup) (hs : ∀ p ∈ l, p.1 ∈ hidK res.kinds) (s : (res.put (knowG "" l)).sm) :
    wantN faces L (some (w7, ws)) = some (res.put (knowG "" l)) ∧ WantOk faces L (some (w7, ws)) ∧ (res.put (knowG "" l)).B := by
  have e : refN res (norK [] L ws) = res.put (knowG "" l) := by rw [hn, refN_eq fun p hp => (fo p hp).1]
  have b : (res.put (knowG "" l)).B := (hr.B hl).put (know_mem (P := fun k => k.ok = true) fun p hp => (fo p hp).2) s
  refine ⟨?_, ⟨?_, hN, res, hf, ?_⟩, b⟩
  · show (look faces w7).map _ = _
    rw [hf]
    exact congrArg some e
  · have l1 : ws.length = l.length := by rw [← hn]; unfold norK; rw [List.length_map]
    have := sub_len (l.map (·.1)) (hidK res.kinds) nd fun x hx => by
      obtain ⟨y, hy, rfl⟩ := List.mem_map.mp hx
      exact hs y hy
    rw [List.length_map] at this
    have l2 := hidK_len res.kinds
    have l3 := hr.lk
    omega
  · rw [hn]
    exact refOk (hr.B hl) fo nd hs s
section
variable {W : List Str} {w0 : Str} {ks : List (Str × Kd)} {ls : List Kd} {f0 f1 res : Fc} {rows : List FRow} {at_ : Int} {gs : List GRow} {N : Gv} {its : List (Str × Kd)} {I : List It} {own' : List (Str × Kd)} {fu' : List (Str × Sg)}
theorem D1.ws (h : D1 w0 ls res N its) {t : Str} {k : Kd} (m : t ∈ hidK res.kinds) (e : look (its.take (res.kinds.filter isH).length) t = some k) :
    k.words ≤ 5 ∧ (k.All fun q t => (q, t) ∈ N.map (·.1)) ∧ (k.put N).words ≤ 40 ∧ (k.put N).far ∧ look (ownL N its) t = some (k.put N) := by
  obtain ⟨j, k', e1, lt, c1, c2, c3, fr, _, e2⟩ := h.hid m
  have nd : (its.map (·.1)).Nodup := by rw [h.it.keys]; exact ord_nd h.hr.nk
  have := look_take nd e1 lt
  rw [e] at this
  injection this with this
  subst this
  exact ⟨c1, c2, c3, fr, e2⟩
/-- own kinds by a dict, and these written out -/
theorem D1.A2 (h : D1 w0 ls res N its) {N2 : Gv} (w0n : ∀ t, look N2 (w0, t) = none) {k : Kd} (a : k.All (Rs ls res)) : (k.put (knowG "" (ownL N its))).put N2 = k.put (knowG "" (putK N2 (ownL N its))) := by
  rw [Kd.put_put, Kd.put_eq k]
  refine Kd.sub_congr k (a.mono _ fun q t z => ?_)
  rcases z with ⟨rfl, z⟩ | z
  · obtain ⟨_, k', _, _, _, _, _, _, _, e⟩ := h.hid z
    have e1 : look (knowG "" (ownL N its)) ("", t) = some (k'.put N) := by rw [look_knowG, if_pos rfl, e]
    have e2 : look (knowG "" (putK N2 (ownL N its))) ("", t) = some ((k'.put N).put N2) := by
      rw [look_knowG, if_pos rfl]
      unfold putK
      rw [look_map2, e]; rfl
    rw [pφ_some e1, pφ_some e2]
  · have nq := h.ne z
    rw [pφ_none (ow_know _ q t nq), pφ_none (ow_know _ q t nq), Kd.put_nm, (h.hl.nm z).1, w0n]
    rfl
theorem sg_congr {g h i : Gv} {s : Sg} {P : Kd → Prop} (a : ∀ k ∈ s.1, P k) (b : P s.2) (H : ∀ k, P k → (k.put g).put h = k.put i) : Sg.put h (Sg.put g s) = Sg.put i s := by
  show ((s.1.map (Kd.put g)).map (Kd.put h), (s.2.put g).put h) = (s.1.map (Kd.put i), s.2.put i)
  rw [H _ b, List.map_map]
  congr 1
  exact List.map_congr_left fun k hk => H k (a k hk)
structure FinR (faces : Parts) (W : List Str) (w0 : Str) (ks : List (Str × Kd)) (rows : List FRow) (w5 : Str) (sl : Sl) (I : List It) (gs : List GRow) (F2 : Fc) : Prop where
  mkr : MkOk faces (p0s w0 ks) w5 (rows.map mrow) sl I
  mkn : (mkN faces (p0s w0 ks) (rows.map mrow)).2 = rows.map fun r => (r.x, r.want)
  full : FullOk (gps w0 ks W gs) (I.map (mvI (mvL W rows)))
  fe : fullN (gps w0 ks W gs) (I.map (mvI (mvL W rows))) = F2
  want : WantOk faces (gps w0 ks W gs) (mvS (mvL W rows) sl)
  fB : F2.B
  md : ∀ word, okS word = true → MdOk (rows.map fun r => (r.x, r.want)) (mkR faces (p0s w0 ks) (rows.map mrow) sl I) word (gFaces gs)
  seen : ∀ word, okS word = true → SeenOk F2 (wantN faces (gps w0 ks W gs) (mvS (mvL W rows) sl)) word
  eq : ∀ word, okS word = true → (mkR faces (p0s w0 ks) (rows.map mrow) sl I).put (mdN ((rows.map fun r => (r.x, r.want)).zip (gFaces gs)) ++ hideG word (mkR faces (p0s w0 ks) (rows.map mrow) sl I)) = seenN F2 (wantN faces (gps w0 ks W gs) (mvS (mvL W rows) sl)) word
  mB : ∀ word, okS word = true → (seenN F2 (wantN faces (gps w0 ks W gs) (mvS (mvL W rows) sl)) word).B
  due : sl = none → ∀ word, seenN F2 (wantN faces (gps w0 ks W gs) (mvS (mvL W rows) sl)) word = F2
  sl : ∀ w ws, sl = some (w, ws) → ws.length ≤ 100 ∧ ∀ p ∈ ws, p.2.dep < 100
theorem fin (d : D0 W w0 ks ls f0 f1 res rows) (h : D1 w0 ls res N its) (kn : Kn (kps w0 ks rows) N)
    (op : OpR rows (its.map kItem ++ res.funs.map fItem) (ownL N its) (putF (knowG "" (ownL N its)) res.funs) at_ I own' fu') (g : GivenOk W ls rows at_ gs)
    {faces : Parts} {w5 w7 : Str} (hfr : ∀ (i : Nat) (r : FRow), rows[i]? = some r → look faces r.wd = some r.fc) (hf7 : look faces w7 = some res) {sl : Sl} (hsl : SlR res its w7 sl)
    (smD : (Fc.put (gNames gs) ⟨own', fu'⟩).sm) (smG : ∀ f ∈ gFaces gs, f.sm) : FinR faces W w0 ks rows w5 sl I gs (Fc.put (gNames gs) ⟨own', fu'⟩) := by
  have nm := GivenOk.Nm' d g
  have w0n := fun t => GivenOk.w0n d g t
  have mv := mvOk d g
  have okN : ∀ p ∈ gNames gs, p.2.ok = true := fun p hp => (nm.v p hp).1
  have smF : Fc.sm ⟨own', fu'⟩ := ((Fc.ks_put.mp smD.ks).mono fun k hk => Nat.le_trans (Kd.words_put k _) hk).sm
  have R1 := full1 d h kn op smF
  have FO : FullOk (kps w0 ks rows) I := fullOk_of R1.o (by rw [R1.e]; have := R1.l.1; show own'.length ≤ 1000; omega) (by rw [R1.e]; have := R1.l.2; show fu'.length ≤ 1000; omega)
  have FB2 : (Fc.put (gNames gs) ⟨own', fu'⟩).B := R1.b.put okN smD
  -- the items written out
  have ho : ∀ x, It.opn x ∈ I → ∀ f, look (kps w0 ks rows) x = some f → look (gps w0 ks W gs) ((look (mvL W rows) x).getD x) = some (f.put (gNames gs)) := fun x m f ef => by
    have no : It.opn x ∉ its.map kItem ++ res.funs.map fItem := fun z => by
      rcases List.mem_append.mp z with z | z <;> obtain ⟨p, _, z⟩ := List.mem_map.mp z
      · cases z
      · cases z
    rcases op with ⟨i, r, er, _, _, ea, rfl, _, _⟩ | ⟨u, _, _, _, rfl, _, _⟩
    · rcases List.mem_cons.mp m with z | z
      · injection z with z
        subst z
        obtain ⟨g', w9, G⟩ := GivenOk.gr d g er
        have lk : look (kps w0 ks rows) r.x = some (hidF r.x r.want) := look_nd d.nd (List.mem_append.mpr (.inr (List.mem_map.mpr ⟨r, List.mem_of_getElem? er, rfl⟩)))
        rw [lk] at ef
        injection ef with ef
        rw [look_nd (mvL_nd d) (List.mem_of_getElem? (mvL_get d er G.ew))]
        show look (gps w0 ks W gs) w9 = _
        rw [gps_get d g G.eg G.ew, G.none ea.symm, ← G.e, ef]
      · exact absurd z no
    · rcases List.mem_append.mp m with z | z
      · exact absurd z no
      · have := List.mem_singleton.mp z
        cases this
  have R2 := mv.full I ⟨[], []⟩ R1.o ho (by
    have : I.foldl (itN (kps w0 ks rows)) ⟨[], []⟩ = ⟨own', fu'⟩ := R1.e
    rw [this]; exact smD)
  have e2 : fullN (gps w0 ks W gs) (I.map (mvI (mvL W rows))) = Fc.put (gNames gs) ⟨own', fu'⟩ := by
    have a : I.foldl (itN (kps w0 ks rows)) ⟨[], []⟩ = ⟨own', fu'⟩ := R1.e
    have := R2.2
    rw [a] at this
    exact this
  have FO2 : FullOk (gps w0 ks W gs) (I.map (mvI (mvL W rows))) := fullOk_of R2.1 (by rw [e2]; exact FB2.lk) (by rw [e2]; exact FB2.lf)
  -- the maker
  have MKN : mkN faces (p0s w0 ks) (rows.map mrow) = (kps w0 ks rows, rows.map fun r => (r.x, r.want)) := by
    have := d.mkn hfr rows.length (Nat.le_refl _)
    rw [List.take_length] at this
    have e : (rows.map mrow).take rows.length = rows.map mrow := List.take_of_length_le (by rw [List.length_map]; exact Nat.le_refl _)
    rw [e] at this
    exact this
  have MKS : ∀ i x s, (rows.map mrow)[i]? = some (x, s) → WantOk faces (mkN faces (p0s w0 ks) ((rows.map mrow).take i)).1 s ∧ ∃ f, wantN faces (mkN faces (p0s w0 ks) ((rows.map mrow).take i)).1 s = some f ∧ f.B ∧ (hidF x f).B ∧ x ∉ ((mkN faces (p0s w0 ks) ((rows.map mrow).take i)).1.map (·.1)) ∧ (mkN faces (p0s w0 ks) ((rows.map mrow).take i)).1.length ≤ 1000 ∧ (mkN faces (p0s w0 ks) ((rows.map mrow).take i)).2.length ≤ 1000 := fun i x s e => by
    obtain ⟨r, er, em⟩ := map_get e
    injection em with em1 em2
    subst em1; subst em2
    have hi := (List.getElem?_eq_some_iff.mp er).1
    have l4 := d.l4
    rw [d.mkn hfr i (by omega)]
    obtain ⟨a, b⟩ := d.want er (hfr i r er)
    obtain ⟨c1, c2⟩ := d.rB er
    refine ⟨b, r.want, a, c1, c2, fun m => ?_, ?_, ?_⟩
    · have nd := (d.take (i + 1)).nd
      have e3 : kps w0 ks (rows.take (i + 1)) = kps w0 ks (rows.take i) ++ [(r.x, hidF r.x r.want)] := by
        unfold kps
        rw [take_more er, List.map_append, List.append_assoc]; rfl
      rw [e3, List.map_append] at nd
      exact (List.nodup_append.mp nd).2.2 _ m _ (List.mem_singleton.mpr rfl) rfl
    · unfold kps p0s
      rw [List.length_append, List.length_map, List.length_take, List.length_singleton]
      omega
    · show ((rows.take i).map _).length ≤ 1000
      rw [List.length_map, List.length_take]
      omega
  have MDN : mdN ((rows.map fun r => (r.x, r.want)).zip (gFaces gs)) = gNames gs := by
    have := mdN_eq d g smG rows.length (Nat.le_refl _)
    rw [List.take_of_length_le (by rw [List.length_zip, List.length_map]; omega)] at this
    rw [this, ← g.l, List.take_length]
  have lgN : (gNames gs).length ≤ 500 := by
    have : ∀ n, n ≤ gs.length → (gNames (gs.take n)).length ≤ 50 * n := fun n => by
      induction n with
      | zero => intro _; rw [List.take_zero]; exact Nat.le_refl _
      | succ n ih =>
        intro hn
        have ih := ih (by omega)
        have e : gs[n]? = some gs[n] := List.getElem?_eq_getElem (by omega)
        obtain ⟨r, er⟩ := g.row e
        obtain ⟨g', w9, G⟩ := GivenOk.gr d g er
        obtain ⟨_, w, _, _, _⟩ := d.row er
        have l1 := hidK_len r.want.kinds
        have l2 := w.lk
        rw [take_more G.eg, gNames_snoc, List.length_append]
        unfold wG
        rw [List.length_map, G.hs]
        omega
    have := this gs.length (Nat.le_refl _)
    rw [List.take_length] at this
    have := g.l
    have := d.l4
    omega
  have MD : ∀ (R : Fc) (word : Str), R.B → (R.put (gNames gs ++ hideG word R)).B → MdOk (rows.map fun r => (r.x, r.want)) R word (gFaces gs) := fun R word b1 b2 => by
    refine ⟨by rw [List.length_map, gFaces_len, g.l], fun i x f had e1 e3 => ?_, by rw [MDN]; exact ⟨fun p hp => (nm.q p hp).1, by omega⟩, by rw [MDN]; exact ⟨b1, b2⟩⟩
    obtain ⟨r, er, em⟩ := map_get e1
    injection em with em1 em2
    subst em1; subst em2
    have hi := (List.getElem?_eq_some_iff.mp er).1
    obtain ⟨g', w9, G⟩ := GivenOk.gr d g er
    rw [gFaces_get G.eg] at e3
    injection e3 with e3
    subst e3
    have nmi := GivenOk.Nm d g i (by rw [g.l]; omega)
    have smi := smG _ (List.mem_of_getElem? (gFaces_get G.eg))
    obtain ⟨a, b, c⟩ := G.fits er nmi smi
    rw [mdN_eq d g smG i (by omega)]
    refine ⟨(d.rB er).1, c, G.B er g nmi smi, b, fun t m => ?_, fun p hp ep => ?_, ?_⟩
    · rw [a, look_wG, if_pos ⟨rfl, by rw [G.hs]; exact m⟩]; rfl
    · obtain ⟨y, hy, hp⟩ := List.mem_flatMap.mp hp
      obtain ⟨t, _, rfl⟩ := List.mem_map.mp hp
      obtain ⟨j, hj⟩ := List.mem_iff_getElem?.mp hy
      have ji : j < i := by
        have := (List.getElem?_eq_some_iff.mp hj).1
        rw [List.length_take] at this
        omega
      rw [List.getElem?_take_of_lt ji] at hj
      have n1 : (gs.map (·.x)).Nodup := by rw [g.xs]; exact (List.nodup_cons.mp d.xs).2
      have q1 : (gs.map (·.x))[j]? = some y.x := by rw [List.getElem?_map, hj]; rfl
      have q2 : (gs.map (·.x))[i]? = some r.x := by rw [g.xs, List.getElem?_map, er]; rfl
      have ep : y.x = r.x := ep
      rw [ep] at q1
      obtain ⟨z1, z2⟩ := List.getElem?_eq_some_iff.mp q1
      obtain ⟨z3, z4⟩ := List.getElem?_eq_some_iff.mp q2
      have := (List.getElem_inj n1).mp (z2.trans z4.symm)
      omega
    · have pre : (gNames (gs.take i)).length ≤ (gNames gs).length := by
        have : gNames gs = gNames (gs.take i) ++ gNames (gs.drop i) := by unfold gNames; rw [← List.flatMap_append, List.take_append_drop]
        rw [this, List.length_append]; omega
      omega
  rcases hsl with rfl | ⟨ws, rfl, wnd, hws⟩
  · -- bare
    have eR : mkR faces (p0s w0 ks) (rows.map mrow) none I = ⟨own', fu'⟩ := by
      show fullN (mkN faces (p0s w0 ks) (rows.map mrow)).1 I = _
      rw [MKN]; exact R1.e
    have nohid : hidK own' = [] := by
      cases e : hidK own' with
      | nil => rfl
      | cons t l =>
        have m := hidK_mem.mp (show t ∈ hidK own' by rw [e]; exact List.mem_cons_self ..)
        exact absurd rfl (R1.far.1 _ m)
    have eh : ∀ word, gNames gs ++ hideG word ⟨own', fu'⟩ = gNames gs := fun word => by
      unfold hideG
      show gNames gs ++ (hidK own').map _ = _
      rw [nohid]
      exact List.append_nil _
    refine ⟨⟨by rw [List.length_map]; have := d.l4; omega, MKS, by rw [MKN]; exact FO, True.intro, fun R e => (by cases e)⟩, by rw [MKN], FO2, e2, True.intro, FB2, fun word ow => ?_, fun word _ => True.intro, fun word _ => ?_, fun word _ => FB2, fun _ word => rfl, fun w ws e => (by cases e)⟩
    · rw [eR]
      exact MD _ word R1.b (by rw [eh]; exact FB2)
    · rw [eR, MDN, eh]
      rfl
  · -- with a seal
    have wsk := fun p (hp : p ∈ ws) => h.ws (hws p hp).1 (hws p hp).2
    have A1 : ∀ p ∈ res.kinds, look own' p.1 = some (p.2.put (knowG "" (ownL N its))) := fun p hp => by
      rw [R1.k p.1 (List.mem_map.mpr ⟨p, hp, rfl⟩)]
      exact h.rsK hp
    have B1 : ∀ p ∈ res.funs, look fu' p.1 = some (Sg.put (knowG "" (ownL N its)) p.2) := fun p hp => by
      rw [R1.f p.1 (List.mem_map.mpr ⟨p, hp, rfl⟩)]
      refine look_nd (by rw [putF_keys]; exact h.hr.nf) (List.mem_map.mpr ⟨p, hp, rfl⟩)
    have A2 : ∀ p ∈ res.kinds, look (putK (gNames gs) own') p.1 = some (p.2.put (knowG "" (putK (gNames gs) (ownL N its)))) := fun p hp => by
      unfold putK
      rw [look_map2, A1 p hp]
      exact congrArg some (h.A2 w0n (h.hr.a.1 p hp))
    have B2 : ∀ p ∈ res.funs, look (putF (gNames gs) fu') p.1 = some (Sg.put (knowG "" (putK (gNames gs) (ownL N its))) p.2) := fun p hp => by
      have : look (putF (gNames gs) fu') p.1 = (look fu' p.1).map (Sg.put (gNames gs)) := by unfold putF; exact look_map2 (Sg.put (gNames gs)) p.1 fu'
      rw [this, B1 p hp]
      exact congrArg some (sg_congr (P := fun k => k.All (Rs ls res)) (h.hr.a.2 p hp).1 (h.hr.a.2 p hp).2 fun k a => h.A2 w0n a)
    have hls : ∀ (q t : Str), Kd.nm q t ∈ ls → q ≠ "" := fun q t m => h.ne m
    -- the first: l1
    have nd1 : ((putK N ws).map (·.1)).Nodup := by rw [putK_keys]; exact wnd
    have V1 : ∀ (q t : Str) (v : Kd), look (knowG "" (putK N ws)) (q, t) = some v → q = "" ∧ look (knowG "" (ownL N its)) ("", t) = some v ∧ v.far := fun q t v e => by
      rw [look_knowG] at e
      split at e
      · rename_i eq
        obtain ⟨p, hp, ep⟩ := List.mem_map.mp (look_mem e)
        injection ep with ep1 ep2
        obtain ⟨_, _, _, fr, lk⟩ := wsk p hp
        refine ⟨eq.symm, ?_, by rw [← ep2]; exact fr⟩
        rw [look_knowG, if_pos rfl, ← ep1, ← ep2]
        exact lk
      · cases e
    have fit1 := fit (F := ⟨own', fu'⟩) h.hr hls A1 B1 (ow_know _) V1
    have sm1 : (res.put (knowG "" (putK N ws))).sm := by
      refine (Fc.ks_put.mpr ⟨fun x hx => ?_, fun x hx => ?_⟩ : (res.put (knowG "" (putK N ws))).Ks fun k => k.words ≤ 40).sm
      · have a := Kd.words_put (x.2.put (knowG "" (putK N ws))) (fitG ⟨own', fu'⟩ (res.put (knowG "" (putK N ws))))
        rw [fit1.2.1 x hx] at a
        have b := smF.k _ (look_mem (A1 x hx))
        exact Nat.le_trans a b
      · have b := smF.f _ (look_mem (B1 x hx))
        refine ⟨fun k hk => ?_, ?_⟩
        · have a := Kd.words_put (k.put (knowG "" (putK N ws))) (fitG ⟨own', fu'⟩ (res.put (knowG "" (putK N ws))))
          rw [(fit1.2.2 x hx).1 k hk] at a
          exact Nat.le_trans a (b.1 _ (List.mem_map.mpr ⟨k, hk, rfl⟩))
        · have a := Kd.words_put (x.2.2.put (knowG "" (putK N ws))) (fitG ⟨own', fu'⟩ (res.put (knowG "" (putK N ws))))
          rw [(fit1.2.2 x hx).2] at a
          exact Nat.le_trans a b.2
    have fo1 : ∀ p ∈ putK N ws, p.2.far ∧ p.2.ok = true := fun p hp => by
      obtain ⟨y, hy, rfl⟩ := List.mem_map.mp hp
      obtain ⟨_, c, _, fr, _⟩ := wsk y hy
      exact ⟨fr, (over_put kn.nm c).1⟩
    have hs1 : ∀ p ∈ putK N ws, p.1 ∈ hidK res.kinds := fun p hp => by
      obtain ⟨y, hy, rfl⟩ := List.mem_map.mp hp
      exact (hws y hy).1
    have NO1 : ∀ p ∈ ws, NOk p.2 [] (kps w0 ks rows) := fun p hp => by
      obtain ⟨c1, c2, c3, fr, lk⟩ := wsk p hp
      refine ⟨⟨by omega, Kd.put_over c2 kn.nm⟩, c2.mono _ fun q t m => kn.some [] m, ?_⟩
      rw [kn.sub]
      show ((p.2.put N).put []).B
      rw [Kd.put_nil]
      exact ⟨c3, (over_put kn.nm c2).1⟩
    obtain ⟨want1, wok1, rb1⟩ := slgen h.hr h.hl hf7 (norK_kn kn ws) NO1 fo1 nd1 hs1 sm1
    -- the second: written out
    have l2e : norK [] (gps w0 ks W gs) (ws.map fun p => (p.1, mvK (mvL W rows) p.2)) = putK (gNames gs) (putK N ws) := by
      unfold norK putK
      rw [List.map_map, List.map_map]
      refine List.map_congr_left fun p hp => ?_
      have a := (mv.sub [] p.2 (NO1 p hp).all).1
      rw [kn.sub] at a
      show (p.1, (mvK (mvL W rows) p.2).sub (nφ [] (gps w0 ks W gs))) = (p.1, (p.2.put N).put (gNames gs))
      have a2 : (mvK (mvL W rows) p.2).sub (nφ [] (gps w0 ks W gs)) = ((p.2.put N).put []).put (gNames gs) := a
      rw [a2, Kd.put_nil]
    have sz2 : ∀ p ∈ ws, ((p.2.put N).put (gNames gs)).words ≤ 40 := fun p hp => by
      obtain ⟨_, _, _, _, lk⟩ := wsk p hp
      have m := hidK_mem.mp (hws p hp).1
      have e := R1.k p.1 (List.mem_map.mpr ⟨_, m, rfl⟩)
      rw [lk] at e
      exact (Fc.ks_put.mp smD.ks).1 _ (look_mem e)
    have NO2 : ∀ p ∈ ws.map (fun p => (p.1, mvK (mvL W rows) p.2)), NOk p.2 [] (gps w0 ks W gs) := fun p hp => by
      obtain ⟨y, hy, rfl⟩ := List.mem_map.mp hp
      refine mv.nok (own := []) (NO1 y hy) ?_
      rw [kn.sub]
      show (((y.2.put N).put []).put (gNames gs)).words ≤ 40
      rw [Kd.put_nil]
      exact sz2 y hy
    have nd2 : ((putK (gNames gs) (putK N ws)).map (·.1)).Nodup := by rw [putK_keys]; exact nd1
    have V2 : ∀ (q t : Str) (v : Kd), look (knowG "" (putK (gNames gs) (putK N ws))) (q, t) = some v → q = "" ∧ look (knowG "" (putK (gNames gs) (ownL N its))) ("", t) = some v ∧ v.far := fun q t v e => by
      rw [look_knowG] at e
      split at e
      · rename_i eq
        have e' : look ((putK N ws).map fun p => (p.1, p.2.put (gNames gs))) t = some v := e
        rw [look_map2] at e'
        cases e3 : look (putK N ws) t with
        | none => rw [e3] at e'; cases e'
        | some v1 =>
          rw [e3] at e'
          have e' : v1.put (gNames gs) = v := Option.some.inj e'
          obtain ⟨_, b, c⟩ := V1 "" t v1 (by rw [look_knowG, if_pos rfl, e3])
          rw [look_knowG, if_pos rfl] at b
          refine ⟨eq.symm, ?_, by rw [← e']; exact far_putN nm c⟩
          rw [look_knowG, if_pos rfl]
          unfold putK
          rw [look_map2, b, ← e']; rfl
      · cases e
    have fit2 := fit (F := Fc.put (gNames gs) ⟨own', fu'⟩) h.hr hls A2 B2 (ow_know _) V2
    have e12 : (res.put (knowG "" (putK N ws))).put (gNames gs) = res.put (knowG "" (putK (gNames gs) (putK N ws))) := by
      refine Fc.put2 (h.hr.a.ks.mono fun k a => ?_)
      rw [Kd.put_put, Kd.put_eq k]
      refine Kd.sub_congr k (a.mono _ fun q t z => ?_)
      rcases z with ⟨rfl, z⟩ | z
      · unfold pφ
        rw [look_knowG, look_knowG, if_pos rfl, if_pos rfl]
        have : look (putK (gNames gs) (putK N ws)) t = (look (putK N ws) t).map (Kd.put (gNames gs)) := by
          show look ((putK N ws).map fun p => (p.1, p.2.put (gNames gs))) t = _
          exact look_map2 (Kd.put (gNames gs)) t _
        rw [this]
        cases look (putK N ws) t with
        | none => show (Kd.nm "" t).put _ = Kd.nm "" t; rw [Kd.put_nm, nm.own]; rfl
        | some v => rfl
      · have nq := h.ne z
        rw [pφ_none (ow_know _ q t nq), pφ_none (ow_know _ q t nq), Kd.put_nm, (h.hl.nm z).1, w0n]
        rfl
    have sm2 : (res.put (knowG "" (putK (gNames gs) (putK N ws)))).sm := by
      refine (Fc.ks_put.mpr ⟨fun x hx => ?_, fun x hx => ?_⟩ : (res.put (knowG "" (putK (gNames gs) (putK N ws)))).Ks fun k => k.words ≤ 40).sm
      · have a := Kd.words_put (x.2.put (knowG "" (putK (gNames gs) (putK N ws)))) (fitG (Fc.put (gNames gs) ⟨own', fu'⟩) (res.put (knowG "" (putK (gNames gs) (putK N ws)))))
        rw [fit2.2.1 x hx] at a
        have b := smD.k _ (look_mem (A2 x hx))
        exact Nat.le_trans a b
      · have b := smD.f _ (look_mem (B2 x hx))
        refine ⟨fun k hk => ?_, ?_⟩
        · have a := Kd.words_put (k.put (knowG "" (putK (gNames gs) (putK N ws)))) (fitG (Fc.put (gNames gs) ⟨own', fu'⟩) (res.put (knowG "" (putK (gNames gs) (putK N ws)))))
          rw [(fit2.2.2 x hx).1 k hk] at a
          exact Nat.le_trans a (b.1 _ (List.mem_map.mpr ⟨k, hk, rfl⟩))
        · have a := Kd.words_put (x.2.2.put (knowG "" (putK (gNames gs) (putK N ws)))) (fitG (Fc.put (gNames gs) ⟨own', fu'⟩) (res.put (knowG "" (putK (gNames gs) (putK N ws)))))
          rw [(fit2.2.2 x hx).2] at a
          exact Nat.le_trans a b.2
    have fo2 : ∀ p ∈ putK (gNames gs) (putK N ws), p.2.far ∧ p.2.ok = true := fun p hp => by
      obtain ⟨y, hy, rfl⟩ := List.mem_map.mp hp
      obtain ⟨a, b⟩ := fo1 y hy
      exact ⟨far_putN nm a, put_ok b okN⟩
    have hs2 : ∀ p ∈ putK (gNames gs) (putK N ws), p.1 ∈ hidK res.kinds := fun p hp => by
      obtain ⟨y, hy, rfl⟩ := List.mem_map.mp hp
      exact hs1 y hy
    obtain ⟨want2, wok2, rb2⟩ := slgen h.hr h.hl hf7 l2e NO2 fo2 nd2 hs2 sm2
    have eR : mkR faces (p0s w0 ks) (rows.map mrow) (some (w7, ws)) I = res.put (knowG "" (putK N ws)) := by
      unfold mkR
      rw [MKN]
      show (wantN faces (kps w0 ks rows) (some (w7, ws))).getD _ = _
      rw [want1]; rfl
    have ew2 : wantN faces (gps w0 ks W gs) (mvS (mvL W rows) (some (w7, ws))) = some (res.put (knowG "" (putK (gNames gs) (putK N ws)))) := want2
    have made : ∀ word, (res.put (knowG "" (putK N ws))).put (gNames gs ++ hideG word (res.put (knowG "" (putK N ws)))) = hidF word (res.put (knowG "" (putK (gNames gs) (putK N ws)))) := fun word => by
      rw [← e12]
      have eh : hideG word ((res.put (knowG "" (putK N ws))).put (gNames gs)) = hideG word (res.put (knowG "" (putK N ws))) := by
        unfold hideG
        rw [hid_putN nm]
      unfold hidF
      rw [eh]
      refine (Fc.put2 (Fc.ks_all (fun k => ?_) _)).symm
      rw [Kd.put_put, Kd.put_eq k]
      refine Kd.sub_congr k ((Kd.all_true k).mono _ fun q t _ => ?_)
      unfold pφ
      rw [look_app]
      cases e : look (gNames gs) (q, t) with
      | none => rfl
      | some v => exact far_put (nm.look e).2.2.2 (by rw [hideG_w]; exact ow_wG _ _)
    have hB : ∀ word, okS word = true → (hidF word (res.put (knowG "" (putK (gNames gs) (putK N ws))))).B := fun word ow => by
      refine rb2.put (fun p hp => ?_) (hid_sm sm2)
      exact ((hideG_k ow fun p hp => (rb2.k p hp).1).v p hp).1
    refine ⟨⟨by rw [List.length_map]; have := d.l4; omega, MKS, by rw [MKN]; exact FO, by rw [MKN]; exact wok1, fun R e => ?_⟩, by rw [MKN], FO2, e2, wok2, FB2, fun word ow => ?_, fun word ow => ?_, fun word _ => ?_, fun word ow => ?_, fun e => (by cases e), fun w ws' e => ?_⟩
    · rw [MKN] at e ⊢
      have e : wantN faces (kps w0 ks rows) (some (w7, ws)) = some R := e
      rw [want1] at e
      injection e with e
      subst e
      show _ ∧ (fullN (kps w0 ks rows) I).B ∧ Fits (fullN (kps w0 ks rows) I) _
      rw [R1.e]
      exact ⟨rb1, R1.b, fit1.1⟩
    · rw [eR]
      exact MD _ word rb1 (by rw [made]; exact hB word ow)
    · rw [ew2]
      exact ⟨rb2, fit2.1, hB word ow⟩
    · rw [eR, MDN, made, ew2]
      rfl
    · rw [ew2]
      exact hB word ow
    · injection e with e
      injection e with _ e
      subst e
      refine ⟨?_, fun p hp => ?_⟩
      · have := sub_len (ws.map (·.1)) (hidK res.kinds) wnd fun x hx => by
          obtain ⟨y, hy, rfl⟩ := List.mem_map.mp hx
          exact (hws y hy).1
        rw [List.length_map] at this
        have l2 := hidK_len res.kinds
        have l3 := h.hr.lk
        omega
      · have := (wsk p hp).1
        have := p.2.dep_le
        omega
end
end Q
-- text N8
set_option Elab.async false
set_option linter.all false
/-! The mathematics, part 18: small facts for the walk of the law. -/
namespace Q
open PySem
def lsOf (w0 : Str) (ks : List (Str × Kd)) : List Kd := (ks.filter fun p => decide (p.2 = Kd.nm w0 p.1)).map fun p => Kd.nm w0 p.1
theorem lsOf_more {w0 : Str} {ks : List (Str × Kd)} {i : Nat} {t : Str} {k : Kd} (h : ks[i]? = some (t, k)) : lsOf w0 (ks.take (i + 1)) = if k = .nm w0 t then lsOf w0 (ks.take i) ++ [.nm w0 t] else lsOf w0 (ks.take i) := by
  rw [take_more h]
  unfold lsOf
  rw [List.filter_append, List.map_append]
  by_cases e : k = .nm w0 t
  · rw [if_pos e]
    have : ([(t, k)] : List (Str × Kd)).filter (fun p => decide (p.2 = .nm w0 p.1)) = [(t, k)] := by simp [e]
    rw [this]; rfl
  · rw [if_neg e]
    have : ([(t, k)] : List (Str × Kd)).filter (fun p => decide (p.2 = .nm w0 p.1)) = [] := by simp [e]
    rw [this]; simp
theorem lsOf_mem {w0 : Str} {ks : List (Str × Kd)} {k : Kd} (h : k ∈ lsOf w0 ks) : ∃ t, k = .nm w0 t ∧ (t, Kd.nm w0 t) ∈ ks := by
  obtain ⟨p, hp, rfl⟩ := List.mem_map.mp h
  obtain ⟨h1, h2⟩ := List.mem_filter.mp hp
  have h2 : p.2 = .nm w0 p.1 := of_decide_eq_true h2
  exact ⟨p.1, rfl, by rw [← h2]; exact h1⟩
theorem lsOf_len (w0 : Str) (ks : List (Str × Kd)) : (lsOf w0 ks).length ≤ ks.length := by unfold lsOf; rw [List.length_map]; exact List.length_filter_le ..
theorem lsOf_ll {w0 : Str} {ks : List (Str × Kd)} : ∀ q t, Kd.nm q t ∈ lsOf w0 ks → q = w0 ∧ (t, Kd.nm w0 t) ∈ ks := fun q t m => by
  obtain ⟨u, e, m⟩ := lsOf_mem m
  injection e with e1 e2
  subst e1; subst e2
  exact ⟨rfl, m⟩
theorem lsOf_ok {w0 : Str} {ks : List (Str × Kd)} (h : KnownOk w0 ks) (ow : okW w0) : LsOk w0 (lsOf w0 ks) := by
  refine ⟨ow.ne, ow.s, fun k m => ?_, by have := lsOf_len w0 ks; have := h.l; omega⟩
  obtain ⟨t, e, m⟩ := lsOf_mem m
  exact ⟨t, e, (h.k _ m).1.s⟩
section
variable {W : List Str} {w0 : Str} {ks : List (Str × Kd)} {ls : List Kd} {f0 f1 res : Fc} {rows : List FRow} {op : Int} {gs : List GRow} {its : List (Str × Kd)}
theorem D0.d1 (d : D0 W w0 ks ls f0 f1 res rows) (it : ItOk (nmsAt (knowG w0 ks) rows) (ordK res.kinds) its) : D1 w0 ls res (nmsAt (knowG w0 ks) rows) its := ⟨d.hr, d.hl, d.N, fun q t m => by
  obtain ⟨e, m⟩ := d.ll q t m
  unfold nmsAt
  rw [look_app, look_knowG, e, if_pos rfl, look_nd d.hk.nd m]
  rfl, it⟩
theorem D0.Nlen (d : D0 W w0 ks ls f0 f1 res rows) : (nmsAt (knowG w0 ks) rows).length ≤ 50 := by
  have := nmsAt_len (N := knowG w0 ks) rows fun r hr => by
    obtain ⟨j, hj⟩ := List.mem_iff_getElem?.mp hr
    exact (d.hF.r j r hj).1.len (d.row hj).1
  have h1 : (knowG w0 ks).length ≤ 4 := by unfold knowG; rw [List.length_map]; exact d.hk.l
  have := d.l4
  omega
theorem D0.rl (d : D0 W w0 ks ls f0 f1 res rows) {i : Nat} {r : FRow} (e : rows[i]? = some r) : r.want.kinds.length ≤ 7 ∧ r.want.funs.length ≤ 3 := by
  obtain ⟨fo, _⟩ := d.row e
  obtain ⟨ro, _, _⟩ := d.hF.r i r e
  refine ⟨ro.len fo, ?_⟩
  rw [ro.want, Fc.put_def]
  show (putF _ _).length ≤ 3
  unfold putF; rw [List.length_map]; exact fo.lf
theorem D0.rfs (d : D0 W w0 ks ls f0 f1 res rows) {i : Nat} {r : FRow} (e : rows[i]? = some r) : ∀ p ∈ r.want.funs, okS p.1 = true := fun p hp => by
  obtain ⟨fo, _⟩ := d.row e
  obtain ⟨ro, _, _⟩ := d.hF.r i r e
  rw [ro.want] at hp
  obtain ⟨y, hy, rfl⟩ := List.mem_map.mp hp
  exact (fo.wf y hy).1.s
theorem GivenOk.gk (d : D0 W w0 ks ls f0 f1 res rows) (g : GivenOk W ls rows op gs) : Gk 4 (gNames gs) := ⟨fun p hp => by
  have o := ((GivenOk.Nm' d g).v p hp).1
  refine ⟨o, ?_⟩
  obtain ⟨y, hy, hp⟩ := List.mem_flatMap.mp hp
  obtain ⟨t, ht, rfl⟩ := List.mem_map.mp hp
  obtain ⟨j, hj⟩ := List.mem_iff_getElem?.mp hy
  obtain ⟨r, er⟩ := g.row hj
  obtain ⟨g', w9, e1, _, _, _, ok⟩ := g.r j r er
  have e := hj.symm.trans e1
  injection e with e
  subst e
  have := (ok.φ t ht).1
  have := (y.φ t).dep_le
  show (y.φ t).dep ≤ 4
  omega⟩
theorem gFace_V (d : D0 W w0 ks ls f0 f1 res rows) (g : GivenOk W ls rows op gs) {f : Fc} (hf : f ∈ gFaces gs) : f.V := by
  obtain ⟨i, hi⟩ := List.mem_iff_getElem?.mp hf
  have hl := (List.getElem?_eq_some_iff.mp hi).1
  rw [gFaces_len] at hl
  have eg : gs[i]? = some gs[i] := List.getElem?_eq_getElem hl
  obtain ⟨r, er⟩ := g.row eg
  obtain ⟨g', w9, G⟩ := GivenOk.gr d g er
  rw [gFaces_get G.eg] at hi
  injection hi with hi
  subst hi
  obtain ⟨_, w, _, _, _⟩ := d.row er
  have gk := GivenOk.gk (d.take i) (g.take i)
  have gk2 := GivenOk.gk d g
  have n1 : (gs.map (·.x)).Nodup := by rw [g.xs]; exact (List.nodup_cons.mp d.xs).2
  have gkφ : Gk 4 (wG "" g'.φ g'.hs) := ⟨fun p hp => by
    obtain ⟨t, ht, rfl⟩ := List.mem_map.mp hp
    have := gN_some (u := t) gs n1 i g' G.eg
    rw [if_pos ht] at this
    exact gk2.look this⟩
  have pW : (gPut (gNames (gs.take i)) g').W 55 := by
    unfold gPut
    rw [G.want]
    exact (w.put gk).put gkφ
  have pV := pW.V (by decide)
  obtain ⟨l1, l2⟩ := d.rl er
  obtain ⟨k1, k2⟩ := gPut_keys (gNames (gs.take i)) g'
  rw [G.want] at k1 k2
  have m1 : (gPut (gNames (gs.take i)) g').kinds.length ≤ 7 := by have := congrArg List.length k1; rw [List.length_map, List.length_map] at this; omega
  have m2 : (gPut (gNames (gs.take i)) g').funs.length ≤ 3 := by have := congrArg List.length k2; rw [List.length_map, List.length_map] at this; omega
  have hex := G.ex
  have one : (Kd.num 8).G := ⟨rfl, by decide⟩
  generalize gNames (gs.take i) = Ni at *
  unfold gFace
  cases e : g'.ex with
  | none => exact pV
  | some p =>
    obtain ⟨u, v⟩ := p
    obtain ⟨_, ou, ov, nu, nv⟩ := hex u v e
    refine ⟨?_, nd_snoc pV.nf nv, ?_, ?_, fun p hp => ?_, fun p hp => ?_⟩
    · show (u :: (gPut Ni g').kinds.map (·.1)).Nodup
      exact List.nodup_cons.mpr ⟨nu, pV.nk⟩
    · show (gPut Ni g').kinds.length + 1 ≤ 50
      omega
    · show ((gPut Ni g').funs ++ [_]).length ≤ 50
      rw [List.length_append, List.length_singleton]; omega
    · rcases List.mem_cons.mp hp with z | z
      · rw [z]; exact ⟨ou.s, one⟩
      · exact pV.k p z
    · rcases List.mem_append.mp hp with z | z
      · exact pV.f p z
      · rw [List.mem_singleton.mp z]; exact ⟨Nat.zero_le _, fun a ha => (by cases ha), one⟩
theorem gps_at {k : Nat} {w9 : Str} {f : Fc} (e1 : (w9s W gs.length)[k]? = some w9) (e2 : (gFaces gs)[k]? = some f) : p0s w0 ks ++ ((w9s W gs.length).zip (gFaces gs)).take (k + 1) = (p0s w0 ks ++ ((w9s W gs.length).zip (gFaces gs)).take k) ++ [(w9, f)] := by
  have : ((w9s W gs.length).zip (gFaces gs))[k]? = some (w9, f) := by
    rw [List.getElem?_zip_eq_some]
    exact ⟨e1, e2⟩
  rw [take_more this, List.append_assoc]
theorem gps_fresh (d : D0 W w0 ks ls f0 f1 res rows) (g : GivenOk W ls rows op gs) {k : Nat} {w9 : Str} {f : Fc} (e1 : (w9s W gs.length)[k]? = some w9) (e2 : (gFaces gs)[k]? = some f) : w9 ∉ (p0s w0 ks ++ ((w9s W gs.length).zip (gFaces gs)).take k).map (·.1) := fun m => by
  have nd := gps_nd d g
  have e : gps w0 ks W gs = (p0s w0 ks ++ ((w9s W gs.length).zip (gFaces gs)).take (k + 1)) ++ ((w9s W gs.length).zip (gFaces gs)).drop (k + 1) := by
    unfold gps
    rw [List.append_assoc, List.take_append_drop]
  rw [e, gps_at e1 e2, List.map_append, List.map_append] at nd
  exact (List.nodup_append.mp (List.nodup_append.mp nd).1).2.2 _ m _ (List.mem_singleton.mpr rfl) rfl
end
end Q
-- text CG
set_option Elab.async false
set_option linter.all false
set_option maxRecDepth 100000
set_option maxHeartbeats 4000000
namespace Q
open PySem PySem.Spec PyProof.Rows L2
local macro_rules | `(tactic| walk_at "q") => `(tactic| (first
  | with_reducible refine as_seq ?_ | with_reducible refine as_ret ?_ | with_reducible refine as_if ?_ | with_reducible refine as_deal ?_ | with_reducible refine as_asg ?_ | with_reducible refine as_drop ?_ | with_reducible refine as_dput ?_
  | with_reducible refine at_test ?_ | with_reducible refine at_B ?_ | with_reducible refine at_not ?_ | with_reducible refine at_and ?_ | with_reducible refine at_or ?_
  | with_reducible refine ae_op ?_ | with_reducible refine ae_c ?_ | with_reducible refine ae_andV ?_ | with_reducible refine ae_notV ?_ | with_reducible refine ae_join ?_ | with_reducible refine ae_index ?_ | with_reducible refine ae_from1 ?_ | refine ae_un (i := 0) ?_ | refine ae_var rfl ?_ | refine ae_rd rfl ?_ | refine ae_mt rfl ?_ | with_reducible refine ae_call ?_ | with_reducible refine ae_tup ?_ | with_reducible refine ae_fld ?_ | with_reducible refine ae_cb ?_
  | with_reducible refine aa_nil ?_ | with_reducible refine aa_cons ?_
  | with_reducible refine ae_dget ?_ | with_reducible refine ae_dget2 ?_ | with_reducible refine ae_dget1 ?_ | with_reducible refine ae_din ?_ | with_reducible refine ae_dnotin ?_ | with_reducible refine ae_newK ?_ | with_reducible refine ae_newT ?_ | with_reducible refine ae_lst ?_
  | with_reducible refine ae_meth ?_ | with_reducible refine ct_yes ?_ | with_reducible refine ct_if ?_
  | refine ar_ixT rfl rfl ?_ | refine ar_ixL rfl rfl ?_ | refine ar_II ?_ | refine ar_eq rfl ?_
  | refine itT (by decide +kernel) ?_ | refine itF (by decide +kernel) ?_ | refine itF Bool.false_ne_true ?_ | refine itT rfl ?_
  | refine ⟨.inr ⟨_, _, rfl⟩, ?_⟩ | refine ⟨.inl ⟨_, _, rfl⟩, ?_⟩ | refine ⟨_, _, .T rfl, rfl, ?_⟩ | refine ⟨_, rfl, ?_⟩ | refine ⟨[_, _], rfl, Nat.le_of_ble_eq_true rfl, ?_⟩ | refine ⟨[_, _, _], rfl, Nat.le_of_ble_eq_true rfl, ?_⟩ | refine ⟨[], rfl, Nat.le_of_ble_eq_true rfl, ?_⟩ | refine ⟨[_], rfl, Nat.le_of_ble_eq_true rfl, ?_⟩
  | with_reducible refine as_forL ?_ | with_reducible refine as_forT ?_ | with_reducible refine as_forR ?_ | refine ae_app (ae_pl rfl rfl ⟨_, rfl, ⟨_, rfl⟩, ?_⟩) | refine ae_ins (ae_pl rfl rfl ⟨_, rfl, ⟨_, rfl⟩, ?_⟩) | refine ag_rd rfl ?_ | refine ag_name ?_ | refine ag_own ?_ | refine ag_tup rfl (ags_cons (ags_cons (ags_nil ?_))) | with_reducible refine as_next ?_))
def S_given : Spec := fun pm kk => ∃ (W : List Str) (w0 : Str) (ls : List Kd) (rows : List FRow) (op : Int), pm = [.fr dealsD, .fr (.lst (rows.map fwD)), .rd (.lst (W.map tD)), .fr (.raw (.int op)), .rd (.lst (ls.map Kd.d))] ∧ WsOk W ∧ LsOk w0 ls ∧ rows.length ≤ 4 ∧
  (∀ (i : Nat) (r : FRow), rows[i]? = some r → r.want.W 47 ∧ r.want.sm ∧ W[1 + i]? = some r.x ∧ r.want.kinds.length ≤ 7 ∧ r.want.funs.length ≤ 3) ∧
  ∀ gs : List GRow, GivenOk W ls rows op gs → kk (.v (.tup [.lst ((gFaces gs).map Fc.l), gD (gNames gs)])) []
theorem fsD_snoc (l : List (Str × Sg)) (t : Str) (k : Sg) : fsD (l ++ [(t, k)]) = fsD l ++ [prd t (Sg.d k)] := by unfold fsD; rw [List.map_append]; rfl
section
variable {P : Program} {w : World} {K : PySem.W.Frag} {mg : Str → Option Value} {base : Heap}
theorem ok_l_given {f : Addr} {fd : FuncData} (T : Txt K mg) (F : Fun K "_law_given" "_law_given" s_l_given f fd) (c_l_draw : Callee P w K mg base 1 "_law_draw" p_l_draw [] false S_draw)
    (c_l_kind : Callee P w K mg base 110 "_law_kind" p_l_kind [] false (S_kind 10)) (c_l_hidden : Callee P w K mg base 1 "_law_hidden" p_l_hidden [] false S_lhid)
    (c_l_put_all : Callee P w K mg base 101 "_law_put_all" p_l_put_all [] false S_pall) (c_l_name : Callee P w K mg base 2 "_law_name" p_l_name [] false S_name) :
    FnOk P w K mg base CX0 111 f fd p_l_given (spOf false S_given) := by
  refine fun_ok F sc_l_given (by decide) (fun pm k h => by obtain ⟨_, _, _, _, _, rfl, _⟩ := h; rfl) (fun cdv A outer s H X hr => ⟨_, (pss_cons (ps_set (i := 5) sc_l_given.nd rfl (Or.inl rfl) pe_dnewT)
    (pss_cons (ps_set (i := 6) sc_l_given.nd rfl (Or.inl rfl) (pe_lst pa_nil))
    (pss_cons (ps_for PassesOwn.never rfl (pi_range1 (by rfl) T.z_range (pa_cons (pe_callB call_len_seq (by rfl) T.z_len PySem.boot_len (pa_cons (pv 1) pa_nil)) pa_nil)) (pg_name (i := 7) sc_l_given.nd rfl (Or.inl rfl))
    (pss_cons (ps_set (i := 8) sc_l_given.nd rfl (Or.inl rfl) (pe_ix ix_list (pv 0) (pv 7) (fun _ _ => rfl)))
    (pss_cons (ps_asg (pe_ix ix_list (pv 1) (pv 7) (fun _ _ => rfl)) (pg_tup (by rfl) (pgs_cons (pg_name (i := 9) sc_l_given.nd rfl (Or.inl rfl)) (pgs_cons (pg_name (i := 10) sc_l_given.nd rfl (Or.inl rfl)) pgs_nil))))
    (pss_cons (ps_set (i := 10) sc_l_given.nd rfl (Or.inl rfl) (pe_cal c_l_put_all (hr.mono (by omega)) (by rfl) (pa_cons (pv 10) (pa_cons (pv 5) pa_nil))))
    (pss_cons (ps_set (i := 11) sc_l_given.nd rfl (Or.inl rfl) pe_dnewT)
    (pss_cons (ps_for PassesOwn.never rfl (pi_list (pe_cal c_l_hidden (hr.mono (by omega)) (by rfl) (pa_cons (pe_ix ix_tup (pv 10) pe_int (fun _ _ => rfl)) pa_nil))) (pg_name (i := 12) sc_l_given.nd rfl (Or.inl rfl))
    (pss_cons (ps_dput (hu_of hr) (pv 11) (pe_tup (pa_cons pe_str (pa_cons (pv 12) pa_nil))) (pe_cal c_l_kind (hr.mono (by omega)) (by rfl) (pa_cons (pv 8) (pa_cons (pe_op op_cat (pe_op op_rep (pe_lst (pa_cons (pe_tup (pa_cons pe_str (pa_cons (pe_ix ix_list (pv 2) (pe_op op_add pe_int (pv 7)) (fun _ _ => rfl)) (pa_cons (pv 12) pa_nil)))) pa_nil)) pe_int) (pv 4)) (pa_cons pe_int pa_nil)))) rfl)
    (pss_one (ps_dput (hu_of hr) (pv 5) (pe_tup (pa_cons (pv 9) (pa_cons (pv 12) pa_nil))) (pe_dget (hu_of hr) (pv 11) (pe_tup (pa_cons pe_str (pa_cons (pv 12) pa_nil))) (fun _ _ => rfl)) rfl))))
    (pss_cons (ps_asg (pe_cal c_l_put_all (hr.mono (by omega)) (by rfl) (pa_cons (pv 10) (pa_cons (pv 11) pa_nil))) (pg_tup (by rfl) (pgs_cons (pg_name (i := 13) sc_l_given.nd rfl (Or.inl rfl)) (pgs_cons (pg_name (i := 14) sc_l_given.nd rfl (Or.inl rfl)) pgs_nil))))
    (pss_cons (ps_if (PW.pt (pw_and (pt_cmpR op_ne (pv 7) (pv 3) (nomark _)) (pw_and1 (pt_cmpR op_eq (pe_cal c_l_draw (hr.mono (by omega)) (by rfl) (pa_cons (pv 8) (pa_cons pe_int pa_nil))) pe_int (nomark _)))))
    (pss_cons (ps_set (i := 13) sc_l_given.nd rfl (Or.inl rfl) (pe_op op_cat (pe_lst (pa_cons (pe_tup (pa_cons (pe_cal c_l_name (hr.mono (by omega)) (by rfl) (pa_cons (pv 8) (pa_cons (pe_lc (own := [("_law_row", 15)]) (g := gName 15) (tt := tYes) (by rfl) sc_l_given.nd (pi_list (pv 13)) (blkOk_by (N := n_l_given) (sc := defScope s_l_given) (by decide +kernel))
        (fun _ _ _ _ _ => (pg_name (i := 15) sc_l_given.nd rfl (Or.inl rfl))) (fun _ _ _ _ _ => pts_nil)
        (fun _ _ _ _ _ => (pe_ix (ix_tupk (K := K) rfl) (pv 15) pe_int (fun _ _ => rfl)))) pa_nil))) (pa_cons (pe_tup (pa_cons pe_str (pa_cons pe_int pa_nil))) pa_nil))) pa_nil)) (pv 13)))
    (pss_one (ps_set (i := 14) sc_l_given.nd rfl (Or.inl rfl) (pe_op op_cat (pv 14) (pe_lst (pa_cons (pe_tup (pa_cons (pe_cal c_l_name (hr.mono (by omega)) (by rfl) (pa_cons (pv 8) (pa_cons (pe_lc (own := [("_law_row", 15)]) (g := gName 15) (tt := tYes) (by rfl) sc_l_given.nd (pi_list (pv 14)) (blkOk_by (N := n_l_given) (sc := defScope s_l_given) (by decide +kernel))
        (fun _ _ _ _ _ => (pg_name (i := 15) sc_l_given.nd rfl (Or.inl rfl))) (fun _ _ _ _ _ => pts_nil)
        (fun _ _ _ _ _ => (pe_ix (ix_tupk (K := K) rfl) (pv 15) pe_int (fun _ _ => rfl)))) pa_nil))) (pa_cons (pe_tup (pa_cons (pe_tup pa_nil) (pa_cons (pe_tup (pa_cons pe_str (pa_cons pe_int pa_nil))) pa_nil))) pa_nil))) pa_nil))))))
    pss_nil)
    (pss_one (ps_expr (pe_bm PySem.F.plainAttrs_list PySem.F.slot_list_append PySem.F.type_list_append mt_append (pv 6) (pa_cons (pe_tup (pa_cons (pv 13) (pa_cons (pv 14) pa_nil))) pa_nil))))))))))))
    (pss_one (ps_ret (pe_tup (pa_cons (pv 6) (pa_cons (pv 5) pa_nil)))))))), ?_⟩)
  rintro L hL pm av kk ⟨W, w0, ls, rows, op, rfl, hW, hl, lr, hr0, hk⟩
  refine as_seq ?_
  refine as_asg (ae_newT ?_)
  repeat ((fail_if_success (with_reducible refine as_seq ?_)); walk_at "q")
  refine as_seq ?_
  repeat ((fail_if_success (with_reducible refine as_seq ?_)); walk_at "q")
  refine as_seq ?_
  repeat ((fail_if_success (with_reducible refine as_seq ?_)); walk_at "q")
  refine ac_lenL rfl ?_
  repeat ((fail_if_success (with_reducible refine as_seq ?_)); walk_at "q")
  refine ⟨show (rows.map fwD).length ≤ 100000 by rw [List.length_map]; omega, fun i G => ∃ gs : List GRow, gs.length = i ∧ GivenOk W ls (rows.take i) op gs ∧ Gk 4 (gNames gs) ∧ (∀ p ∈ gNames gs, ∃ j, j < i ∧ W[1 + j]? = some p.1.1) ∧ (gNames gs).length ≤ 50 * i ∧ G = [.fr dealsD, .fr (.lst (rows.map fwD)), .rd (.lst (W.map tD)), .fr (.raw (.int op)), .rd (.lst (ls.map Kd.d)), .own (gD (gNames gs)), .own (.lst ((gFaces gs).map Fc.l)), .no, .no, .no, .no, .no, .no, .no, .no, .no], ⟨_, (by repeat (first | exact Wk.nil | refine Wk.keep ?_ | refine Wk.drop ?_)), [], rfl, ⟨rfl, fun i r e => by simp at e⟩, ⟨fun p hp => (by cases hp)⟩, fun p hp => (by cases hp), Nat.le_refl _, rfl⟩, ?_, ?_⟩
  · rintro i G hi ⟨gs, lg, hG, hgk, hgf, hgl, rfl⟩
    have hi : i < (rows.map fwD).length := hi
    rw [List.length_map] at hi
    have er : rows[i]? = some rows[i] := List.getElem?_eq_getElem hi
    obtain ⟨w47, sm, exx, lw1, lw2⟩ := hr0 i _ er
    have k4 : i < 4 := by omega
    have ed : atI [D.deal, .deal, .deal, .deal] (i : Int) = some .deal := atI_nat (by match i, k4 with | 0, _ => rfl | 1, _ => rfl | 2, _ => rfl | 3, _ => rfl)
    have e0 : atI (rows.map fwD) (i : Int) = some (fwD rows[i]) := atI_nat (by rw [List.getElem?_map, er]; rfl)
    obtain ⟨w9, e9, o9⟩ := hW.get (i := 9 + i) (by omega)
    have ew : atI (W.map tD) ((9 : Int) + (i : Int)) = some (tD w9) := by
      have e : (9 : Int) + (i : Int) = ((9 + i : Nat) : Int) := by omega
      rw [e]
      exact atI_nat (by rw [List.getElem?_map, e9]; rfl)
    generalize hR : rows[i] = rw_ at er w47 sm exx e0 lw1 lw2
    obtain ⟨x, wd, fc, ws, want⟩ := rw_
    have ox := hW.k _ (List.mem_of_getElem? exx)
    generalize hN2 : gNames gs = N2 at hgk hgf hgl ⊢
    repeat ((fail_if_success (with_reducible refine as_seq ?_)); walk_at "q")
    refine as_seq ?_
    repeat ((fail_if_success (with_reducible refine as_seq ?_)); walk_at "q")
    refine ar_ixL rfl ed ?_
    repeat ((fail_if_success (with_reducible refine as_seq ?_)); walk_at "q")
    refine as_seq ?_
    repeat ((fail_if_success (with_reducible refine as_seq ?_)); walk_at "q")
    refine ar_ixL rfl e0 ?_
    repeat ((fail_if_success (with_reducible refine as_seq ?_)); walk_at "q")
    refine as_seq ?_
    repeat ((fail_if_success (with_reducible refine as_seq ?_)); walk_at "q")
    refine ae_pl rfl rfl ?_
    repeat ((fail_if_success (with_reducible refine as_seq ?_)); walk_at "q")
    refine cq0 (.fr (.rdp rfl rfl .nil)) nl ⟨want, N2, rfl, w47.V (by decide), ?_⟩
    have w51 := w47.put hgk
    have v51 := w51.V (by decide)
    repeat ((fail_if_success (with_reducible refine as_seq ?_)); walk_at "q")
    refine as_seq ?_
    repeat ((fail_if_success (with_reducible refine as_seq ?_)); walk_at "q")
    refine as_seq ?_
    repeat ((fail_if_success (with_reducible refine as_seq ?_)); walk_at "q")
    refine cq0 (.fr .nil) nl ⟨(want.put N2).kinds, rfl, v51.lk, v51.k, ?_⟩
    repeat ((fail_if_success (with_reducible refine as_seq ?_)); walk_at "q")
    have hnd : (hidK (want.put N2).kinds).Nodup := hidK_nd v51.nk
    have hln := hidK_len (want.put N2).kinds
    have hlk : (want.put N2).kinds.length ≤ 50 := v51.lk
    generalize hhs : hidK (want.put N2).kinds = hs at hnd hln ⊢
    refine ⟨fun j G => ∃ φ : Str → Kd, (∀ t ∈ hs.take j, (φ t).words ≤ 5 ∧ (φ t).All fun q u => (q = w9 ∧ u = t) ∨ Kd.nm q u ∈ ls) ∧ G = [.fr dealsD, .fr (.lst (rows.map fwD)), .rd (.lst (W.map tD)), .fr (.raw (.int op)), .rd (.lst (ls.map Kd.d)), .own (gD (N2 ++ wG x φ (hs.take j))), .own (.lst ((gFaces gs).map Fc.l)), .fr (.raw (.int i)), .fr .deal, .fr (tD x), .fr (want.put N2).l, .own (gD (wG "" φ (hs.take j))), .no, .no, .no, .no],
      ⟨[.fr dealsD, .fr (.lst (rows.map fwD)), .rd (.lst (W.map tD)), .fr (.raw (.int op)), .rd (.lst (ls.map Kd.d)), .own (gD N2), .own (.lst ((gFaces gs).map Fc.l)), .fr (.raw (.int i)), .fr .deal, .fr (tD x), .fr (want.put N2).l, .own (gD []), .no, .no, .no, .no], (by repeat (first | exact Wk.nil | refine Wk.keep ?_ | refine Wk.drop ?_)), fun _ => .num 0, by simp, by show _ = [_, _, _, _, _, SV.own (gD (N2 ++ [])), _, _, _, _, _, _, _, _, _, _]; rw [List.append_nil]; rfl⟩, ?_, ?_⟩
    · rintro j d G hj ⟨φ, hφ, rfl⟩
      obtain ⟨t, ht, rfl⟩ := map_get hj
      have tn := nd_take hnd ht
      repeat ((fail_if_success (with_reducible refine as_seq ?_)); walk_at "q")
      refine as_seq ?_
      repeat ((fail_if_success (with_reducible refine as_seq ?_)); walk_at "q")
      refine ar_ixL rfl ew ?_
      repeat ((fail_if_success (with_reducible refine as_seq ?_)); walk_at "q")
      refine ar_rep (n := 3) rfl (by decide) (Nat.le_of_ble_eq_true rfl) ?_
      repeat ((fail_if_success (with_reducible refine as_seq ?_)); walk_at "q")
      refine ar_cat (es := ls.map Kd.d) rfl rfl (by rw [List.length_map]; have := hl.l; show 3 + _ ≤ _; omega) ?_
      repeat ((fail_if_success (with_reducible refine as_seq ?_)); walk_at "q")
      have e3 : (List.replicate 3 [D.tup [D.raw (.str "name"), tD w9, tD t]]).flatten ++ ls.map Kd.d = ([Kd.nm w9 t, .nm w9 t, .nm w9 t] ++ ls).map Kd.d := by rw [List.map_append]; rfl
      rw [e3]
      refine cq0 (.fr (.rdv rfl (.fr .nil))) nl ⟨[Kd.nm w9 t, .nm w9 t, .nm w9 t] ++ ls, 5, rfl, by decide, by decide, by rw [List.length_append]; have := hl.l; show 3 + _ ≤ _; omega, fun k hk => ?_, fun kd a1 a2 => ?_⟩
      · rcases List.mem_append.mp hk with z | z
        · simp at z; exact ⟨_, _, z⟩
        · obtain ⟨u, e, _⟩ := hl.k k z; exact ⟨_, _, e⟩
      repeat ((fail_if_success (with_reducible refine as_seq ?_)); walk_at "q")
      refine ae_pl rfl rfl ?_
      repeat ((fail_if_success (with_reducible refine as_seq ?_)); walk_at "q")
      refine ⟨_, _, _, _, _, rfl, rfl, rfl, rfl, rfl, .T (wG_nin hnd ht) (wG_len (by omega)), ?_⟩
      have eφ : updφ φ t kd t = kd := if_pos rfl
      have eW : ∀ q : Str, wG q (updφ φ t kd) (hs.take (j + 1)) = wG q φ (hs.take j) ++ [((q, t), kd)] := fun q => by rw [wG_more ht, wG_upd tn, eφ]
      rw [← gD_put, ← eW]
      have elk : look (wG "" (updφ φ t kd) (hs.take (j + 1))) ("", t) = some kd := by
        rw [look_wG, if_pos ⟨rfl, by rw [take_more ht]; exact List.mem_append.mpr (.inr (List.mem_singleton.mpr rfl))⟩, eφ]
      have nin : ((x : Str), t) ∉ (N2 ++ wG x φ (hs.take j)).map (·.1) := by
        refine wG_nin' (fun p hp e => ?_) hnd ht
        obtain ⟨j', hj', e'⟩ := hgf p hp
        exact hW.ne e' exx (by omega) e
      repeat ((fail_if_success (with_reducible refine as_seq ?_)); walk_at "q")
      refine ae_pl rfl rfl ?_
      repeat ((fail_if_success (with_reducible refine as_seq ?_)); walk_at "q")
      refine ⟨_, .T' rfl (lk_some (f := Kd.d) elk), ?_⟩
      refine ae_pl rfl rfl ?_
      repeat ((fail_if_success (with_reducible refine as_seq ?_)); walk_at "q")
      refine ⟨_, _, _, _, _, rfl, rfl, rfl, rfl, rfl, .T nin (wG_len' (by omega) (by omega)), ?_⟩
      refine ⟨_, ?_, updφ φ t kd, fun u hu => ?_, rfl⟩
      · rw [eW x, ← List.append_assoc, gD_put]
        repeat (first | exact Wk.nil | refine Wk.keep ?_ | refine Wk.drop ?_)
      · rw [take_more ht] at hu
        rcases List.mem_append.mp hu with z | z
        · have ne : u ≠ t := fun e => tn (by rw [← e]; exact z)
          have e : updφ φ t kd u = φ u := if_neg ne
          rw [e]
          exact hφ u z
        · have e : u = t := List.mem_singleton.mp z
          rw [e, eφ]
          refine ⟨a1, a2.mono _ fun q v m => ?_⟩
          rcases List.mem_append.mp m with z | z
          · simp at z
            exact .inl z
          · exact .inr z
    rintro G ⟨φ, hφ, rfl⟩
    rw [show hs.take (hs.map tD).length = hs by rw [List.length_map, List.take_length]] at hφ ⊢
    generalize hP : (want.put N2).put (wG "" φ hs) = pf
    refine as_seq ?_
    repeat ((fail_if_success (with_reducible refine as_seq ?_)); walk_at "q")
    refine ae_pl rfl rfl ?_
    repeat ((fail_if_success (with_reducible refine as_seq ?_)); walk_at "q")
    refine cq0 (.fr (.rdp rfl rfl .nil)) nl ⟨want.put N2, wG "" φ hs, rfl, v51, ?_⟩
    rw [hP]
    repeat ((fail_if_success (with_reducible refine as_seq ?_)); walk_at "q")
    have lpk : pf.kinds.length ≤ 7 := by rw [← hP, Fc.put_def, Fc.put_def]; show (putK _ (putK _ _)).length ≤ 7; unfold putK; rw [List.length_map, List.length_map]; exact lw1
    have lpf : pf.funs.length ≤ 3 := by rw [← hP, Fc.put_def, Fc.put_def]; show (putF _ (putF _ _)).length ≤ 3; unfold putF; rw [List.length_map, List.length_map]; exact lw2
    refine as_mid (fun G => ∃ ex : Option (Str × Str), (∀ u v, ex = some (u, v) → decide ((i : Int) = op) = false ∧ okW u ∧ okW v ∧ u ∉ pf.kinds.map (·.1) ∧ v ∉ pf.funs.map (·.1)) ∧ ∃ (o : Bool) (g8 g9 g10 g11 g12 g15 : SV), G = [.fr dealsD, .fr (.lst (rows.map fwD)), .rd (.lst (W.map tD)), .fr (.raw (.int op)), .rd (.lst (ls.map Kd.d)), .own (gD (N2 ++ wG x φ hs)), .own (.lst ((gFaces gs).map Fc.l)), .fr (.raw (.int i)), g8, g9, g10, g11, g12, (if o then SV.own else SV.fr) (.lst (wsD (gFace N2 ⟨x, want, hs, φ, ex⟩).kinds)), (if o then SV.own else SV.fr) (.lst (fsD (gFace N2 ⟨x, want, hs, φ, ex⟩).funs)), g15]) ?_ ?_
    · repeat ((fail_if_success (with_reducible refine as_seq ?_)); walk_at "q")
      refine ar_ne rfl ?_
      repeat ((fail_if_success (with_reducible refine as_seq ?_)); walk_at "q")
      refine itD (fun h1 => ?_) fun h1 => ?_
      · repeat ((fail_if_success (with_reducible refine as_seq ?_)); walk_at "q")
        refine cq0 (.fr (.fr .nil)) nl ⟨2, rfl, by decide, by decide, fun r2 r0 r1 => ?_⟩
        repeat ((fail_if_success (with_reducible refine as_seq ?_)); walk_at "q")
        refine itD (fun h2 => ?_) fun h2 => ?_
        · refine as_seq ?_
          refine as_asg (ae_op (ae_lst (aa_cons (ae_tup (aa_cons (ae_call (aa_cons (ae_var rfl (aa_last ?_)))))))))
          refine ae_lcL ?_
          repeat ((fail_if_success (with_reducible refine as_seq ?_)); walk_at "q")
          refine ⟨show (pf.kinds.map fun p => prd p.1 p.2.d).length ≤ 100000 by rw [List.length_map]; omega, fun j acc G => acc = ((pf.kinds.take j).map (·.1)).map tD ∧ G = [.fr dealsD, .fr (.lst (rows.map fwD)), .rd (.lst (W.map tD)), .fr (.raw (.int op)), .rd (.lst (ls.map Kd.d)), .own (gD (N2 ++ wG x φ hs)), .own (.lst ((gFaces gs).map Fc.l)), .fr (.raw (.int i)), .fr .deal, .fr (tD x), .fr (want.put N2).l, .own (gD (wG "" φ hs)), .no, .fr (.lst (wsD pf.kinds)), .fr (.lst (fsD pf.funs)), .no], ⟨rfl, rfl⟩, fun n acc G' h => ⟨by rw [h.2]; rfl, by rw [h.2]; rfl⟩, ?_, ?_⟩
          · rintro j y acc G' hx ⟨rfl, rfl⟩
            obtain ⟨p, hp, rfl⟩ := map_get hx
            refine aw_name (by decide) ?_
            repeat walk_at "q"
            refine ⟨?_, rfl⟩
            rw [take_more hp, List.map_append, List.map_append]
            rfl
          rintro acc G' _ ⟨rfl, rfl⟩
          rw [show pf.kinds.take (pf.kinds.map fun p => prd p.1 p.2.d).length = pf.kinds by rw [List.length_map, List.take_length]]
          refine cqm [] [] (.fr .mto) nl ⟨pf.kinds.map (·.1), rfl, by rw [List.length_map]; omega, fun u u1 u2 => ?_⟩
          repeat ((fail_if_success (with_reducible refine as_seq ?_)); walk_at "q")
          refine ar_cat rfl rfl (by rw [wsD_len]; show 1 + _ ≤ _; omega) ?_
          refine ag_own ?_
          refine as_asg (ae_op ?_)
          refine ae_var rfl ?_
          refine ae_lst (aa_cons (ae_tup (aa_cons (ae_call (aa_cons ?_)))))
          refine ae_var rfl (aa_last ?_)
          refine ae_lcL ?_
          repeat ((fail_if_success (with_reducible refine as_seq ?_)); walk_at "q")
          refine ⟨show (pf.funs.map fun p => prd p.1 (Sg.d p.2)).length ≤ 100000 by rw [List.length_map]; omega, fun j acc G => acc = ((pf.funs.take j).map (·.1)).map tD ∧ G = [.fr dealsD, .fr (.lst (rows.map fwD)), .rd (.lst (W.map tD)), .fr (.raw (.int op)), .rd (.lst (ls.map Kd.d)), .own (gD (N2 ++ wG x φ hs)), .own (.lst ((gFaces gs).map Fc.l)), .fr (.raw (.int i)), .fr .deal, .fr (tD x), .fr (want.put N2).l, .own (gD (wG "" φ hs)), .no, .own (.lst ([prd u (Kd.num 8).d] ++ pf.kinds.map fun p => prd p.1 p.2.d)), .fr (.lst (fsD pf.funs)), .no], ⟨rfl, rfl⟩, fun n acc G' h => ⟨by rw [h.2]; rfl, by rw [h.2]; rfl⟩, ?_, ?_⟩
          · rintro j y acc G' hx ⟨rfl, rfl⟩
            obtain ⟨p, hp, rfl⟩ := map_get hx
            refine aw_name (by decide) ?_
            repeat walk_at "q"
            refine ⟨?_, rfl⟩
            rw [take_more hp, List.map_append, List.map_append]
            rfl
          rintro acc G' _ ⟨rfl, rfl⟩
          rw [show pf.funs.take (fsD pf.funs).length = pf.funs by unfold fsD; rw [List.length_map, List.take_length]]
          refine cqm [] [] (.fr .mto) nl ⟨pf.funs.map (·.1), rfl, by rw [List.length_map]; omega, fun v v1 v2 => ?_⟩
          repeat ((fail_if_success (with_reducible refine as_seq ?_)); walk_at "q")
          refine ar_cat rfl rfl (by unfold fsD; rw [List.length_map]; show _ + 1 ≤ _; omega) ?_
          refine ag_own ?_
          refine ⟨some (u, v), fun u' v' e => ?_, true, .fr .deal, .fr (tD x), .fr (want.put N2).l, .own (gD (wG "" φ hs)), .no, .no, ?_⟩
          · injection e with e
            injection e with e1 e2
            subst e1; subst e2
            refine ⟨decide_eq_false fun e => ?_, u1, v1, u2, v2⟩
            rw [e] at h1
            simp at h1
          · have ek : (gFace N2 ⟨x, want, hs, φ, some (u, v)⟩).kinds = (u, .num 8) :: pf.kinds := by rw [← hP]; rfl
            have ef : (gFace N2 ⟨x, want, hs, φ, some (u, v)⟩).funs = pf.funs ++ [(v, ([], .num 8))] := by rw [← hP]; rfl
            rw [ek, ef, fsD_snoc]
            rfl
        · repeat walk_at "q"
          refine ⟨none, fun u' v' e => (by cases e), false, .fr .deal, .fr (tD x), .fr (want.put N2).l, .own (gD (wG "" φ hs)), .no, .no, ?_⟩
          have e0 : gFace N2 ⟨x, want, hs, φ, none⟩ = pf := hP
          rw [e0]
          rfl
      · repeat walk_at "q"
        refine ⟨none, fun u' v' e => (by cases e), false, .fr .deal, .fr (tD x), .fr (want.put N2).l, .own (gD (wG "" φ hs)), .no, .no, ?_⟩
        have e0 : gFace N2 ⟨x, want, hs, φ, none⟩ = pf := hP
        rw [e0]
        rfl
    rintro G ⟨ex, hex, o, g8, g9, g10, g11, g12, g15, rfl⟩
    have lti : (rows.take i).length = i := by rw [← hG.l, lg]
    have inv : GivenOk W ls (rows.take (i + 1)) op (gs ++ [⟨x, want, hs, φ, ex⟩]) := by
      rw [take_more er]
      refine hG.snoc (w9 := w9) (by rw [lti]; exact e9) rfl rfl ⟨?_, ?_, fun u v e => ?_⟩
      · rw [hN2]; exact hhs.symm
      · exact hφ
      · rw [lti, hN2]
        obtain ⟨a1, a2, a3, a4, a5⟩ := hex u v e
        have e0 : gPut N2 ⟨x, want, hs, φ, ex⟩ = pf := hP
        rw [e0]
        exact ⟨a1, a2, a3, a4, a5⟩
    have eN : gNames (gs ++ [⟨x, want, hs, φ, ex⟩]) = N2 ++ wG x φ hs := by rw [gNames_snoc, hN2]
    have hokt : ∀ t ∈ hs, okS t = true := fun t ht => by
      rw [← hhs] at ht
      exact (w51.k _ (hidK_mem.mp ht)).1
    have inv2 : Gk 4 (N2 ++ wG x φ hs) := ⟨fun p hp => by
      rcases List.mem_append.mp hp with z | z
      · exact hgk.v p z
      · obtain ⟨t, ht, rfl⟩ := List.mem_map.mp z
        obtain ⟨a, b⟩ := hφ t ht
        refine ⟨Kd.ok_of _ (b.mono _ fun q u z => ?_), by have := (φ t).dep_le; show (φ t).dep ≤ 4; omega⟩
        rcases z with ⟨rfl, rfl⟩ | z
        · exact ⟨o9.s, hokt _ ht⟩
        · obtain ⟨e, o⟩ := hl.nm z; rw [e]; exact ⟨hl.ok, o⟩⟩
    have inv3 : ∀ p ∈ N2 ++ wG x φ hs, ∃ j, j < i + 1 ∧ W[1 + j]? = some p.1.1 := fun p hp => by
      rcases List.mem_append.mp hp with z | z
      · obtain ⟨j, a, b⟩ := hgf p z; exact ⟨j, by omega, b⟩
      · obtain ⟨t, ht, rfl⟩ := List.mem_map.mp z
        exact ⟨i, by omega, exx⟩
    have inv4 : (N2 ++ wG x φ hs).length ≤ 50 * (i + 1) := by
      rw [List.length_append]
      unfold wG
      rw [List.length_map]
      omega
    have lfc : ((gFaces gs).map Fc.l).length ≤ 100 := by rw [List.length_map, gFaces_len, lg]; omega
    have eF : (gFaces (gs ++ [⟨x, want, hs, φ, ex⟩])).map Fc.l = (gFaces gs).map Fc.l ++ [(gFace N2 ⟨x, want, hs, φ, ex⟩).l] := by rw [gFaces_snoc, hN2, List.map_append]; rfl
    cases o
    · repeat ((fail_if_success (with_reducible refine as_seq ?_)); walk_at "q")
      refine ⟨_, _, _, rfl, rfl, rfl, rfl, by omega, ?_⟩
      refine ⟨[.fr dealsD, .fr (.lst (rows.map fwD)), .rd (.lst (W.map tD)), .fr (.raw (.int op)), .rd (.lst (ls.map Kd.d)), .own (gD (gNames (gs ++ [⟨x, want, hs, φ, ex⟩]))), .own (.lst ((gFaces (gs ++ [⟨x, want, hs, φ, ex⟩])).map Fc.l)), .no, .no, .no, .no, .no, .no, .no, .no, .no], ?_, gs ++ [⟨x, want, hs, φ, ex⟩], by rw [List.length_append, lg]; rfl, inv, by rw [eN]; exact inv2, by rw [eN]; exact inv3, by rw [eN]; exact inv4, rfl⟩
      rw [eN, eF]
      repeat (first | exact Wk.nil | refine Wk.keep ?_ | refine Wk.drop ?_)
    · repeat ((fail_if_success (with_reducible refine as_seq ?_)); walk_at "q")
      refine ae_frz rfl ?_
      repeat ((fail_if_success (with_reducible refine as_seq ?_)); walk_at "q")
      refine ae_frz rfl ?_
      repeat ((fail_if_success (with_reducible refine as_seq ?_)); walk_at "q")
      refine ⟨_, _, _, rfl, rfl, rfl, rfl, by omega, ?_⟩
      refine ⟨[.fr dealsD, .fr (.lst (rows.map fwD)), .rd (.lst (W.map tD)), .fr (.raw (.int op)), .rd (.lst (ls.map Kd.d)), .own (gD (gNames (gs ++ [⟨x, want, hs, φ, ex⟩]))), .own (.lst ((gFaces (gs ++ [⟨x, want, hs, φ, ex⟩])).map Fc.l)), .no, .no, .no, .no, .no, .no, .no, .no, .no], ?_, gs ++ [⟨x, want, hs, φ, ex⟩], by rw [List.length_append, lg]; rfl, inv, by rw [eN]; exact inv2, by rw [eN]; exact inv3, by rw [eN]; exact inv4, rfl⟩
      rw [eN, eF]
      repeat (first | exact Wk.nil | refine Wk.keep ?_ | refine Wk.drop ?_)
  rintro G ⟨gs, lg, hG, _, _, _, rfl⟩
  rw [show rows.take (rows.map fwD).length = rows by rw [List.length_map, List.take_length]] at hG
  repeat ((fail_if_success (with_reducible refine as_seq ?_)); walk_at "q")
  refine ae_frz rfl ?_
  repeat ((fail_if_success (with_reducible refine as_seq ?_)); walk_at "q")
  refine ae_frz rfl ?_
  repeat ((fail_if_success (with_reducible refine as_seq ?_)); walk_at "q")
  exact ⟨[], rfl, rfl, hk gs hG⟩
end
end Q
-- text CHa
set_option Elab.async false
set_option linter.all false
set_option maxRecDepth 100000
set_option maxHeartbeats 4000000
namespace Q
open PySem PySem.Spec PyProof.Rows L2
local macro_rules | `(tactic| walk_at "q") => `(tactic| (first
  | with_reducible refine as_seq ?_ | with_reducible refine as_ret ?_ | with_reducible refine as_if ?_ | with_reducible refine as_deal ?_ | with_reducible refine as_asg ?_ | with_reducible refine as_drop ?_ | with_reducible refine as_dput ?_
  | with_reducible refine at_test ?_ | with_reducible refine at_B ?_ | with_reducible refine at_not ?_ | with_reducible refine at_and ?_ | with_reducible refine at_or ?_
  | with_reducible refine ae_op ?_ | with_reducible refine ae_c ?_ | with_reducible refine ae_andV ?_ | with_reducible refine ae_notV ?_ | with_reducible refine ae_join ?_ | with_reducible refine ae_index ?_ | with_reducible refine ae_from1 ?_ | refine ae_un (i := 0) ?_ | refine ae_var rfl ?_ | refine ae_rd rfl ?_ | refine ae_mt rfl ?_ | with_reducible refine ae_call ?_ | with_reducible refine ae_tup ?_ | with_reducible refine ae_fld ?_ | with_reducible refine ae_cb ?_
  | with_reducible refine aa_nil ?_ | with_reducible refine aa_cons ?_
  | with_reducible refine ae_dget ?_ | with_reducible refine ae_dget2 ?_ | with_reducible refine ae_dget1 ?_ | with_reducible refine ae_din ?_ | with_reducible refine ae_dnotin ?_ | with_reducible refine ae_newK ?_ | with_reducible refine ae_newT ?_ | with_reducible refine ae_lst ?_
  | with_reducible refine ae_meth ?_ | with_reducible refine ct_yes ?_ | with_reducible refine ct_if ?_
  | refine ar_ixT rfl rfl ?_ | refine ar_ixL rfl rfl ?_ | refine ar_II ?_ | refine ar_eq rfl ?_
  | refine itT (by decide +kernel) ?_ | refine itF (by decide +kernel) ?_ | refine itF Bool.false_ne_true ?_ | refine itT rfl ?_
  | refine ⟨.inr ⟨_, _, rfl⟩, ?_⟩ | refine ⟨.inl ⟨_, _, rfl⟩, ?_⟩ | refine ⟨_, _, .T rfl, rfl, ?_⟩ | refine ⟨_, rfl, ?_⟩ | refine ⟨[_, _], rfl, Nat.le_of_ble_eq_true rfl, ?_⟩ | refine ⟨[_, _, _], rfl, Nat.le_of_ble_eq_true rfl, ?_⟩ | refine ⟨[], rfl, Nat.le_of_ble_eq_true rfl, ?_⟩ | refine ⟨[_], rfl, Nat.le_of_ble_eq_true rfl, ?_⟩
  | with_reducible refine as_forL ?_ | with_reducible refine as_forT ?_ | with_reducible refine as_forR ?_ | refine ae_app (ae_pl rfl rfl ⟨_, rfl, ⟨_, rfl⟩, ?_⟩) | refine ae_ins (ae_pl rfl rfl ⟨_, rfl, ⟨_, rfl⟩, ?_⟩) | refine ag_rd rfl ?_ | refine ag_name ?_ | refine ag_own ?_ | refine ag_tup rfl (ags_cons (ags_cons (ags_nil ?_))) | with_reducible refine as_next ?_))
abbrev s_law : Stmt := topS 60
abbrev n_law : List Str := ["_law_script", "_law_taken", "_law_words", "_law_pool", "_law_known_here", "_law_names", "_law_hidden_here", "_law_some", "_law_result", "_law_formals_here", "_law_wants", "_law_got", "_law_seal_here", "_law_at", "_law_items_here", "_law_own", "_law_funs", "_law_given_here", "_law_kinds", "_law_due", "_law_faces", "_law_parts", "_law_maker", "_law_k", "_law_full", "_law_want", "_law_part", "_law_made", "_law_direct_here", "_law_t", "_law_kind_here", "_law_one"]
abbrev p_law : List Str := ["_law_script"]
theorem sc_law : FnScope n_law p_law (defScope s_law) := ⟨rfl, rfl, rfl, by decide +kernel, rfl, by decide +kernel, by decide +kernel⟩
def optD (C : Addr) : Option Fc → D
  | none => .raw .non
  | some f => f.o C
def S_law (K : PySem.W.Frag) : Spec := fun pm kk => ∃ (ns : List Int), pm = [.fr (.scr K ns)] ∧ ns.length ≤ 63 ∧ (∀ n ∈ ns, n.natAbs < 2 ^ 1048576) ∧ kk (.v (.raw (.bl true))) []
def optZ : Unit := ()
section
variable {P : Program} {w : World} {K : PySem.W.Frag} {mg : Str → Option Value} {base : Heap}
theorem law_rest {f : Addr} (T : Txt K mg) 
    (c_l_name : Callee P w K mg base 2 "_law_name" p_l_name [] false S_name) (c_l_deal : Callee P w K mg base 1 "_law_deal" p_l_deal [] true (S_deal K)) (c_l_known : Callee P w K mg base 111 "_law_known" p_l_known [] false S_known)
    (c_l_know : Callee P w K mg base 1 "_law_know" p_l_know [] false S_know) (c_l_face : Callee P w K mg base 111 "_law_face" p_l_face [] false S_face) (c_l_formals : Callee P w K mg base 111 "_law_formals" p_l_formals [] true S_formals)
    (c_l_items : Callee P w K mg base 111 "_law_items" p_l_items [] true S_items) (c_l_seal : Callee P w K mg base 2 "_law_seal" p_l_seal [] false S_lsl) (c_l_opened : Callee P w K mg base 103 "_law_opened" p_l_opened [] false S_opened)
    (c_l_given : Callee P w K mg base 111 "_law_given" p_l_given [] false S_given) (c_l_put_all : Callee P w K mg base 101 "_law_put_all" p_l_put_all [] false S_pall) (c_l_greatest : Callee P w K mg base 101 "_law_greatest" p_l_greatest [] false S_great)
    (c_l_face_made : Callee P w K mg base 3 "_law_face_made" p_l_face_made [] false (S_fmade T.C_Face)) (m_Face : MakeC P w K mg base 1 "Face" T.C_Face p_Face_init (spFace T.C_Face))
    (c_maker_of : Callee P w K mg base 106 "maker_of" p_maker_of [] true (S_maker_of T.C_Face T.C_Maker)) (c_l_direct : Callee P w K mg base 106 "_law_direct" p_l_direct [] true (S_direct T.C_Face))
    (c_made_face : Callee P w K mg base 104 "made_face" p_made_face [] true (S_made T.C_Face T.C_Maker)) (c_seen_face : Callee P w K mg base 105 "seen_face" p_seen_face [] true (S_seen T.C_Face)) (c_l_same : Callee P w K mg base 91 "_law_same" p_l_same [] true (S_same T.C_Face))
    (cdv : Value) (A : Around) (outer : List Env) (s : Shared) (H : Hp) (X : XK) (hr : Room 111 (A.deeper (envOfC "law" (defScope s_law) s.heap.objs.size f cdv))) :
    ∃ t, PSs (cxOf CX0 P w K mg base n_law "law" (defScope s_law) f cdv A outer s H X).nox ((defBody s_law).drop 16) t ∧
      ∀ (L : Option Addr), (true = true → L = none) → ∀ (ns : List Int) (av : Nat → Addr) (kk : R → List D → Prop), kk (.v (.raw (.bl true))) [] →
        ∀ (W : List Str) (w0 : Str) (ks : List (Str × Kd)) (ls : List Kd) (f0 f1 res : Fc) (rows : List FRow), D0 W w0 ks ls f0 f1 res rows → ∀ (its : List (Str × Kd)), ItOk (nmsAt (knowG w0 ks) rows) (ordK res.kinds) its →
        ∀ (w7 : Str), W[7]? = some w7 → ∀ (sl : Sl), SlR res its w7 sl → ∀ (at_ : Int) (I : List It) (own' : List (Str × Kd)) (fu' : List (Str × Sg)),
        OpR rows (its.map kItem ++ res.funs.map fItem) (ownL (nmsAt (knowG w0 ks) rows) its) (putF (knowG "" (ownL (nmsAt (knowG w0 ks) rows) its)) res.funs) at_ I own' fu' → ∀ (gs : List GRow), GivenOk W ls rows at_ gs →
        ∀ (due : Fc), Fc.put (gNames gs) ⟨own', fu'⟩ = due → (∀ f ∈ gFaces gs, f.sm) → due.sm →
        AS L t [.fr (.scr K ns), .no, .own (.lst (W.map tD)), .no, .fr (.lst (wsD ks)), .no, .no, .own (.lst [f0.l, f1.l]), .fr res.l, .fr (.tup (rows.map frD)), .fr (.lst (rows.map fwD)), .no, .fr (slD sl), .no, .fr (.lst (I.map It.d)), .no, .no, .fr (.lst ((gFaces gs).map Fc.l)), .no, .fr due.l, .no, .no, .no, .no, .no, .no, .no, .no, .no, .no, .no, .no] (Zf [.fr (.scr K ns)] av kk) := by
  refine ⟨_, (pss_cons (ps_set (i := 20) sc_law.nd rfl (Or.inl rfl) (pe_disp (pps_cons (pe_ix ix_list (pv 2) pe_int (fun _ _ => rfl)) (pe_cal c_l_face_made (hr.mono (by omega)) (by rfl) (pa_cons (pe_ix ix_list (pv 7) pe_int (fun _ _ => rfl)) pa_nil)) (pps_cons (pe_ix ix_list (pv 2) pe_int (fun _ _ => rfl)) (pe_cal c_l_face_made (hr.mono (by omega)) (by rfl) (pa_cons (pv 8) pa_nil)) (pps_cons (pe_ix ix_list (pv 2) pe_int (fun _ _ => rfl)) (pe_cal c_l_face_made (hr.mono (by omega)) (by rfl) (pa_cons (pe_ix ix_list (pv 7) pe_int (fun _ _ => rfl)) pa_nil)) pps_nil))) (by rfl) (by rfl) (fun z => by cases z) (by decide)))
    (pss_cons (ps_set (i := 21) sc_law.nd rfl (Or.inl rfl) (pe_disp (pps_cons (pe_ix ix_list (pv 2) pe_int (fun _ _ => rfl)) (pe_mk m_Face (hr.mono (by omega)) (by rfl) (pa_cons (pe_callTy (call_dictP rfl) (by rfl) T.z_dict (by decide +kernel) (pa_cons (pv 4) pa_nil)) (pa_cons pe_dnewK pa_nil))) pps_nil) (by rfl) (by rfl) (fun z => by cases z) (by decide)))
    (pss_cons (ps_set (i := 22) sc_law.nd rfl (Or.inl rfl) (pe_cal c_maker_of (hr.mono (by omega)) (by rfl) (pa_cons (pe_tup (pa_cons pe_str (pa_cons (pe_ix ix_list (pv 2) pe_int (fun _ _ => rfl)) (pa_cons (pv 9) (pa_cons (pv 12) (pa_cons (pe_callTy call_tuple_of (by rfl) T.z_tuple (by decide +kernel) (pa_cons (pv 14) pa_nil)) pa_nil)))))) (pa_cons (pv 20) (pa_cons (pv 21) pa_nil)))))
    (pss_cons (ps_for PassesOwn.never rfl (pi_range1 (by rfl) T.z_range (pa_cons (pe_callB call_len_seq (by rfl) T.z_len PySem.boot_len (pa_cons (pv 10) pa_nil)) pa_nil)) (pg_name (i := 23) sc_law.nd rfl (Or.inl rfl))
    (pss_one (ps_dput (hu_of hr) (pv 21) (pe_ix ix_list (pv 2) (pe_op op_add pe_int (pv 23)) (fun _ _ => rfl)) (pe_cal c_l_face_made (hr.mono (by omega)) (by rfl) (pa_cons (pe_ix ix_list (pv 17) (pv 23) (fun _ _ => rfl)) pa_nil)) rfl)))
    (pss_cons (ps_asg (pe_cal c_l_direct (hr.mono (by omega)) (by rfl) (pa_cons (pe_tup (pa_cons (pv 12) (pa_cons (pv 14) pa_nil))) (pa_cons (pv 2) (pa_cons (pv 10) (pa_cons (pv 20) (pa_cons (pv 21) pa_nil)))))) (pg_tup (by rfl) (pgs_cons (pg_name (i := 24) sc_law.nd rfl (Or.inl rfl)) (pgs_cons (pg_name (i := 25) sc_law.nd rfl (Or.inl rfl)) pgs_nil))))
    (pss_cons (ps_for PassesOwn.never rfl (pi_list (pe_lst (pa_cons (pe_ix ix_list (pv 2) pe_int (fun _ _ => rfl)) (pa_cons (pe_ix ix_list (pv 2) pe_int (fun _ _ => rfl)) pa_nil)))) (pg_name (i := 26) sc_law.nd rfl (Or.inl rfl))
    (pss_cons (ps_set (i := 27) sc_law.nd rfl (Or.inl rfl) (pe_cal c_made_face (hr.mono (by omega)) (by rfl) (pa_cons (pv 22) (pa_cons (pv 26) (pa_cons (pe_lc (own := [("_law_one", 31)]) (g := gName 31) (tt := tYes) (by rfl) sc_law.nd (pi_list (pv 17)) (blkOk_by (N := n_law) (sc := defScope s_law) (by decide +kernel))
        (fun _ _ _ _ _ => (pg_name (i := 31) sc_law.nd rfl (Or.inl rfl))) (fun _ _ _ _ _ => pts_nil)
        (fun _ _ _ _ _ => (pe_cal c_l_face_made (hr.mono (by omega)) (by rfl) (pa_cons (pv 31) pa_nil)))) pa_nil)))))
    (pss_cons (ps_set (i := 28) sc_law.nd rfl (Or.inl rfl) (pe_cal c_seen_face (hr.mono (by omega)) (by rfl) (pa_cons (pv 24) (pa_cons (pv 25) (pa_cons (pv 26) pa_nil)))))
    (pss_cons (ps_if (pt_not (pt_val (pe_cal c_l_same (hr.mono (by omega)) (by rfl) (pa_cons (pv 27) (pa_cons (LiI.pe_listItems rfl (pe_fld (pv 28) rfl) (by rfl) T.z_list (by decide +kernel)) (pa_cons (LiI.pe_listItems rfl (pe_fld (pv 28) rfl) (by rfl) T.z_list (by decide +kernel)) pa_nil))))))
    (pss_one (ps_ret pe_bl))
    pss_nil)
    (pss_one (ps_if (PW.pt (pw_and (pt_cmpR op_isN (pv 12) pe_non (nomark _)) (pw_and1 (pt_not (pt_val (pe_cal c_l_same (hr.mono (by omega)) (by rfl) (pa_cons (pv 27) (pa_cons (pe_ix ix_tup (pv 19) pe_int (fun _ _ => rfl)) (pa_cons (pe_ix ix_tup (pv 19) pe_int (fun _ _ => rfl)) pa_nil)))))))))
    (pss_one (ps_ret pe_bl))
    pss_nil))))))
    (pss_one (ps_ret pe_bl)))))))), ?_⟩
  rintro L hL ns av kk hk W w0 ks ls f0 f1 res rows d its hI w7 e7 sl hsl at_ I own' fu' hop0 gs hg due hD smG smD
  have hL0 : L = none := hL rfl
  have h1 := d.d1 hI
  have hW := d.hW
  have hks := d.hk
  have hf0 := d.h0
  have hf1 := d.h1
  have hres := d.hr
  have e0 := d.e0
  have l4 := d.l4
  obtain ⟨w1, e1, o1⟩ := hW.get (i := 1) (by decide)
  obtain ⟨w5, e5, o5⟩ := hW.get (i := 5) (by decide)
  obtain ⟨w6, e6, o6⟩ := hW.get (i := 6) (by decide)
  obtain ⟨w8, e8, o8⟩ := hW.get (i := 8) (by decide)
  have gW : ∀ {i : Nat} {x : Str}, W[i]? = some x → atI (W.map tD) (i : Int) = some (tD x) := fun {i x} e => atI_nat (by rw [List.getElem?_map, e]; rfl)
  have a0 : atI (W.map tD) 0 = some (tD w0) := gW e0
  have a1 : atI (W.map tD) 1 = some (tD w1) := gW e1
  have a5 : atI (W.map tD) 5 = some (tD w5) := gW e5
  have a6 : atI (W.map tD) 6 = some (tD w6) := gW e6
  have a7 : atI (W.map tD) 7 = some (tD w7) := gW e7
  have a8 : atI (W.map tD) 8 = some (tD w8) := gW e8
  obtain ⟨dW, lI, dI⟩ := fullW d h1 hop0
  have lgs := hg.l
  rw [← hD] at smD
  have n67 : w6 ≠ w7 := hW.ne e6 e7 (by decide)
  have n68 : w6 ≠ w8 := hW.ne e6 e8 (by decide)
  have n78 : w7 ≠ w8 := hW.ne e7 e8 (by decide)
  have hfr : ∀ (i : Nat) (r : FRow), rows[i]? = some r → look [(w6, f0), (w7, res), (w8, f1)] r.wd = some r.fc := fun i r er => by
    rcases (d.hF.r i r er).2.2 with ⟨z1, z2⟩ | ⟨z1, z2⟩
    · rw [e6] at z1
      injection z1 with z1
      rw [← z1, z2]
      show (if w6 = w6 then some f0 else _) = _
      rw [if_pos rfl]
    · rw [e8] at z1
      injection z1 with z1
      rw [← z1, z2]
      show (if w6 = w8 then some f0 else if w7 = w8 then some res else if w8 = w8 then some f1 else none) = _
      rw [if_neg n68, if_neg n78, if_pos rfl]
  have hf7 : look [(w6, f0), (w7, res), (w8, f1)] w7 = some res := by
    show (if w6 = w7 then some f0 else if w7 = w7 then some res else _) = _
    rw [if_neg n67, if_pos rfl]
  have FN := fin (w5 := w5) d h1 d.kn hop0 hg hfr hf7 hsl smD smG
  rw [hD] at FN
  have emr : rows.map frD = (rows.map mrow).map rowD := by rw [List.map_map]; rfl
  rw [emr]
  have p1 : ∀ f : List (Str × Kd), wsD f = prD (f.map (·.1)) (f.map fun p => p.2.d) := fun f => by unfold wsD prD; rw [List.zip_map']; rw [List.map_map]; rfl
  have p2 : ∀ f : List (Str × Sg), fsD f = prD (f.map (·.1)) (f.map fun p => Sg.d p.2) := fun f => by unfold fsD prD; rw [List.zip_map']; rw [List.map_map]; rfl
  refine as_seq ?_
  refine as_asg (ae_disp (ap_cons ?_))
  repeat ((fail_if_success (with_reducible refine as_seq ?_)); walk_at "q")
  refine ae_pl rfl rfl ?_
  repeat ((fail_if_success (with_reducible refine as_seq ?_)); walk_at "q")
  refine ar_ixL rfl a6 ?_
  refine ⟨w6, rfl, ?_⟩
  repeat ((fail_if_success (with_reducible refine as_seq ?_)); walk_at "q")
  refine ae_pl rfl rfl ?_
  repeat ((fail_if_success (with_reducible refine as_seq ?_)); walk_at "q")
  refine cq0 (.fr .nil) nl ⟨f0, rfl, hf0.nk, hf0.nf, ?_⟩
  refine ⟨_, rfl, ap_cons ?_⟩
  repeat ((fail_if_success (with_reducible refine as_seq ?_)); walk_at "q")
  refine ae_pl rfl rfl ?_
  repeat ((fail_if_success (with_reducible refine as_seq ?_)); walk_at "q")
  refine ar_ixL rfl a7 ?_
  refine ⟨w7, rfl, ?_⟩
  repeat ((fail_if_success (with_reducible refine as_seq ?_)); walk_at "q")
  refine cq0 (.fr .nil) nl ⟨res, rfl, hres.nk, hres.nf, ?_⟩
  refine ⟨_, rfl, ap_cons ?_⟩
  repeat ((fail_if_success (with_reducible refine as_seq ?_)); walk_at "q")
  refine ae_pl rfl rfl ?_
  repeat ((fail_if_success (with_reducible refine as_seq ?_)); walk_at "q")
  refine ar_ixL rfl a8 ?_
  refine ⟨w8, rfl, ?_⟩
  repeat ((fail_if_success (with_reducible refine as_seq ?_)); walk_at "q")
  refine ae_pl rfl rfl ?_
  repeat ((fail_if_success (with_reducible refine as_seq ?_)); walk_at "q")
  refine cq0 (.fr .nil) nl ⟨f1, rfl, hf1.nk, hf1.nf, ?_⟩
  refine ⟨_, rfl, ap_nil ⟨rfl, ?_, Nat.le_of_ble_eq_true rfl, ?_⟩⟩
  · simp [n67, n68, n78]
  refine ag_own ?_
  refine as_wk (G' := [.fr (.scr K ns), .no, .own (.lst (W.map tD)), .no, .fr (.lst (wsD ks)), .no, .no, .no, .no, .fr (.tup ((rows.map mrow).map rowD)), .fr (.lst (rows.map fwD)), .no, .fr (slD sl), .no, .fr (.lst (I.map It.d)), .no, .no, .fr (.lst ((gFaces gs).map Fc.l)), .no, .fr due.l, .own (partsD T.C_Face [(w6, f0), (w7, res), (w8, f1)]), .no, .no, .no, .no, .no, .no, .no, .no, .no, .no, .no]) (by repeat (first | exact Wk.nil | refine Wk.keep ?_ | refine Wk.drop ?_)) ?_
  refine as_seq ?_
  refine as_asg (ae_disp (ap_cons ?_))
  repeat ((fail_if_success (with_reducible refine as_seq ?_)); walk_at "q")
  refine ae_pl rfl rfl ?_
  repeat ((fail_if_success (with_reducible refine as_seq ?_)); walk_at "q")
  refine ar_ixL rfl a0 ?_
  refine ⟨w0, rfl, ?_⟩
  refine ae_face ?_
  repeat ((fail_if_success (with_reducible refine as_seq ?_)); walk_at "q")
  refine ac_dpairs (by rw [List.length_map, List.length_map]) hks.nd (congrArg (fun l => some (D.lst l)) (p1 ks)) ?_
  repeat ((fail_if_success (with_reducible refine as_seq ?_)); walk_at "q")
  refine ⟨_, _, _, _, _, _, rfl, rfl, rfl, ?_⟩
  refine ⟨_, rfl, ap_nil ⟨rfl, by simp, Nat.le_of_ble_eq_true rfl, ?_⟩⟩
  refine ag_own ?_
  refine as_wk (G' := [.fr (.scr K ns), .no, .own (.lst (W.map tD)), .no, .no, .no, .no, .no, .no, .fr (.tup ((rows.map mrow).map rowD)), .fr (.lst (rows.map fwD)), .no, .fr (slD sl), .no, .fr (.lst (I.map It.d)), .no, .no, .fr (.lst ((gFaces gs).map Fc.l)), .no, .fr due.l, .own (partsD T.C_Face [(w6, f0), (w7, res), (w8, f1)]), .own (partsD T.C_Face (p0s w0 ks)), .no, .no, .no, .no, .no, .no, .no, .no, .no, .no]) (by repeat (first | exact Wk.nil | refine Wk.keep ?_ | refine Wk.drop ?_)) ?_
  refine as_seq ?_
  repeat ((fail_if_success (with_reducible refine as_seq ?_)); walk_at "q")
  refine ae_pl rfl rfl ?_
  repeat ((fail_if_success (with_reducible refine as_seq ?_)); walk_at "q")
  refine ar_ixL rfl a5 ?_
  repeat ((fail_if_success (with_reducible refine as_seq ?_)); walk_at "q")
  refine ac_tupL rfl ?_
  repeat ((fail_if_success (with_reducible refine as_seq ?_)); walk_at "q")
  refine ⟨[_, _, _, _, _], rfl, Nat.le_of_ble_eq_true rfl, ?_⟩
  repeat ((fail_if_success (with_reducible refine as_seq ?_)); walk_at "q")
  refine ae_pl rfl rfl ?_
  repeat ((fail_if_success (with_reducible refine as_seq ?_)); walk_at "q")
  refine ae_pl rfl rfl ?_
  repeat ((fail_if_success (with_reducible refine as_seq ?_)); walk_at "q")
  refine cq0 (.fr (.rdp rfl rfl (.rdp rfl rfl .nil))) hL ⟨[(w6, f0), (w7, res), (w8, f1)], p0s w0 ks, "maker", w5, rows.map mrow, sl, I, rfl, FN.mkr, ?_⟩
  rw [FN.mkn]
  have Fmd := FN.md
  have Feq := FN.eq
  generalize hR : mkR [(w6, f0), (w7, res), (w8, f1)] (p0s w0 ks) (rows.map mrow) sl I = R at Fmd Feq ⊢
  repeat ((fail_if_success (with_reducible refine as_seq ?_)); walk_at "q")
  refine as_wk (G' := [.fr (.scr K ns), .no, .own (.lst (W.map tD)), .no, .no, .no, .no, .no, .no, .no, .fr (.lst (rows.map fwD)), .no, .fr (slD sl), .no, .fr (.lst (I.map It.d)), .no, .no, .fr (.lst ((gFaces gs).map Fc.l)), .no, .fr due.l, .own (partsD T.C_Face [(w6, f0), (w7, res), (w8, f1)]), .own (partsD T.C_Face (p0s w0 ks)), .fr (mkD T.C_Face T.C_Maker (rows.map fun r => (r.x, r.want)) R), .no, .no, .no, .no, .no, .no, .no, .no, .no]) (by repeat (first | exact Wk.nil | refine Wk.keep ?_ | refine Wk.drop ?_)) ?_
  have lw9 : (w9s W gs.length).length = gs.length := w9_len hW.l (by omega)
  refine as_seq ?_
  repeat ((fail_if_success (with_reducible refine as_seq ?_)); walk_at "q")
  refine ac_lenL rfl ?_
  repeat ((fail_if_success (with_reducible refine as_seq ?_)); walk_at "q")
  refine ⟨show (rows.map fwD).length ≤ 100000 by rw [List.length_map]; omega, fun i G => G = [.fr (.scr K ns), .no, .own (.lst (W.map tD)), .no, .no, .no, .no, .no, .no, .no, .fr (.lst (rows.map fwD)), .no, .fr (slD sl), .no, .fr (.lst (I.map It.d)), .no, .no, .fr (.lst ((gFaces gs).map Fc.l)), .no, .fr due.l, .own (partsD T.C_Face [(w6, f0), (w7, res), (w8, f1)]), .own (partsD T.C_Face (p0s w0 ks ++ ((w9s W gs.length).zip (gFaces gs)).take i)), .fr (mkD T.C_Face T.C_Maker (rows.map fun r => (r.x, r.want)) R), .no, .no, .no, .no, .no, .no, .no, .no, .no], ⟨[.fr (.scr K ns), .no, .own (.lst (W.map tD)), .no, .no, .no, .no, .no, .no, .no, .fr (.lst (rows.map fwD)), .no, .fr (slD sl), .no, .fr (.lst (I.map It.d)), .no, .no, .fr (.lst ((gFaces gs).map Fc.l)), .no, .fr due.l, .own (partsD T.C_Face [(w6, f0), (w7, res), (w8, f1)]), .own (partsD T.C_Face (p0s w0 ks)), .fr (mkD T.C_Face T.C_Maker (rows.map fun r => (r.x, r.want)) R), .no, .no, .no, .no, .no, .no, .no, .no, .no], (by repeat (first | exact Wk.nil | refine Wk.keep ?_ | refine Wk.drop ?_)), by dsimp only; rw [List.take_zero, List.append_nil]⟩, ?_, ?_⟩
  · rintro i G hi rfl
    have hi : i < (rows.map fwD).length := hi
    rw [List.length_map] at hi
    have ef : (gFaces gs)[i]? = some ((gFaces gs)[i]'(by rw [gFaces_len]; omega)) := List.getElem?_eq_getElem _
    generalize (gFaces gs)[i]'(by rw [gFaces_len]; omega) = f at ef
    have e9 : (w9s W gs.length)[i]? = some ((w9s W gs.length)[i]'(by omega)) := List.getElem?_eq_getElem _
    generalize (w9s W gs.length)[i]'(by omega) = w9 at e9
    have e9' := e9
    rw [w9_get (by omega)] at e9'
    have a9 : atI (W.map tD) ((9 : Int) + (i : Int)) = some (tD w9) := by
      have e : (9 : Int) + (i : Int) = ((9 + i : Nat) : Int) := by omega
      rw [e]
      exact gW e9'
    have fV := gFace_V d hg (List.mem_of_getElem? ef)
    have ag : atI ((gFaces gs).map Fc.l) (i : Int) = some f.l := atI_nat (by rw [List.getElem?_map, ef]; rfl)
    have fresh := gps_fresh (ks := ks) d hg e9 ef
    repeat ((fail_if_success (with_reducible refine as_seq ?_)); walk_at "q")
    refine ar_ixL rfl ag ?_
    repeat ((fail_if_success (with_reducible refine as_seq ?_)); walk_at "q")
    refine cq0 (.fr .nil) nl ⟨f, rfl, fV.nk, fV.nf, ?_⟩
    refine ae_pl rfl rfl ?_
    repeat ((fail_if_success (with_reducible refine as_seq ?_)); walk_at "q")
    refine ae_pl rfl rfl ?_
    repeat ((fail_if_success (with_reducible refine as_seq ?_)); walk_at "q")
    refine ar_ixL rfl a9 ?_
    refine ⟨_, _, _, _, _, rfl, rfl, rfl, rfl, rfl, .K fresh ?_, ?_⟩
    · rw [List.length_map, List.length_append, List.length_take, List.length_zip]
      show 1 + _ ≤ _
      omega
    · refine ⟨[.fr (.scr K ns), .no, .own (.lst (W.map tD)), .no, .no, .no, .no, .no, .no, .no, .fr (.lst (rows.map fwD)), .no, .fr (slD sl), .no, .fr (.lst (I.map It.d)), .no, .no, .fr (.lst ((gFaces gs).map Fc.l)), .no, .fr due.l, .own (partsD T.C_Face [(w6, f0), (w7, res), (w8, f1)]), .own (partsD T.C_Face ((p0s w0 ks ++ ((w9s W gs.length).zip (gFaces gs)).take i) ++ [(w9, f)])), .fr (mkD T.C_Face T.C_Maker (rows.map fun r => (r.x, r.want)) R), .no, .no, .no, .no, .no, .no, .no, .no, .no], ?_, by dsimp only; rw [gps_at e9 ef]⟩
      rw [partsD_more]
      repeat (first | exact Wk.nil | refine Wk.keep ?_ | refine Wk.drop ?_)
  rintro G rfl
  have etk : p0s w0 ks ++ ((w9s W gs.length).zip (gFaces gs)).take (rows.map fwD).length = gps w0 ks W gs := by
    unfold gps
    rw [List.take_of_length_le (by rw [List.length_zip, List.length_map]; omega)]
  rw [etk]
  refine as_seq ?_
  repeat ((fail_if_success (with_reducible refine as_seq ?_)); walk_at "q")
  refine ae_pl rfl rfl ?_
  repeat ((fail_if_success (with_reducible refine as_seq ?_)); walk_at "q")
  refine ae_pl rfl rfl ?_
  repeat ((fail_if_success (with_reducible refine as_seq ?_)); walk_at "q")
  refine ae_pl rfl rfl ?_
  repeat ((fail_if_success (with_reducible refine as_seq ?_)); walk_at "q")
  refine cq0 (.fr (.rdp rfl rfl (.fr (.rdp rfl rfl (.rdp rfl rfl .nil))))) hL ⟨sl, I, W, rows, [(w6, f0), (w7, res), (w8, f1)], gps w0 ks W gs, mvL W rows, rfl, l4, by omega, mvL_len d, fun i r er => ?_, mvL_nd d, dI, FN.sl, FN.full, FN.want, ?_⟩
  · obtain ⟨g', w9, G⟩ := GivenOk.gr d hg er
    exact ⟨w9, G.ew, mvL_get d er G.ew⟩
  rw [FN.fe]
  have Fs := FN.seen
  have FmB := FN.mB
  have Fdue := FN.due
  have FfB := FN.fB
  generalize hW2 : wantN [(w6, f0), (w7, res), (w8, f1)] (gps w0 ks W gs) (mvS (mvL W rows) sl) = want2 at Fs Feq FmB Fdue ⊢
  repeat ((fail_if_success (with_reducible refine as_seq ?_)); walk_at "q")
  refine as_wk (G' := [.fr (.scr K ns), .no, .own (.lst (W.map tD)), .no, .no, .no, .no, .no, .no, .no, .no, .no, .fr (slD sl), .no, .no, .no, .no, .fr (.lst ((gFaces gs).map Fc.l)), .no, .fr due.l, .no, .no, .fr (mkD T.C_Face T.C_Maker (rows.map fun r => (r.x, r.want)) R), .no, .fr (due.o T.C_Face), .fr (optD T.C_Face want2), .no, .no, .no, .no, .no, .no]) (by repeat (first | exact Wk.nil | refine Wk.keep ?_ | refine Wk.drop ?_)) ?_
  refine as_seq ?_
  repeat ((fail_if_success (with_reducible refine as_seq ?_)); walk_at "q")
  refine ae_pl rfl rfl ?_
  repeat ((fail_if_success (with_reducible refine as_seq ?_)); walk_at "q")
  refine ar_ixL rfl a5 ?_
  repeat ((fail_if_success (with_reducible refine as_seq ?_)); walk_at "q")
  refine ae_pl rfl rfl ?_
  repeat ((fail_if_success (with_reducible refine as_seq ?_)); walk_at "q")
  refine ar_ixL rfl a1 ?_
  repeat ((fail_if_success (with_reducible refine as_seq ?_)); walk_at "q")
  refine ⟨fun i G => G = [.fr (.scr K ns), .no, .own (.lst (W.map tD)), .no, .no, .no, .no, .no, .no, .no, .no, .no, .fr (slD sl), .no, .no, .no, .no, .fr (.lst ((gFaces gs).map Fc.l)), .no, .fr due.l, .no, .no, .fr (mkD T.C_Face T.C_Maker (rows.map fun r => (r.x, r.want)) R), .no, .fr (due.o T.C_Face), .fr (optD T.C_Face want2), .no, .no, .no, .no, .no, .no], ⟨_, (by repeat (first | exact Wk.nil | refine Wk.keep ?_ | refine Wk.drop ?_)), rfl⟩, ?_, ?_⟩
  · rintro i dd G hdd rfl
    obtain ⟨word, ow, rfl⟩ : ∃ word, okS word = true ∧ dd = tD word := by
      match i, hdd with
      | 0, hdd => exact ⟨w5, o5.s, (Option.some.inj hdd).symm⟩
      | 1, hdd => exact ⟨w1, o1.s, (Option.some.inj hdd).symm⟩
    repeat ((fail_if_success (with_reducible refine as_seq ?_)); walk_at "q")
    refine as_seq ?_
    repeat ((fail_if_success (with_reducible refine as_seq ?_)); walk_at "q")
    refine ae_lcL ?_
    repeat ((fail_if_success (with_reducible refine as_seq ?_)); walk_at "q")
    refine ⟨by rw [List.length_map, gFaces_len]; omega, fun j acc G => acc = ((gFaces gs).take j).map (fun f => f.o T.C_Face) ∧ G = [.fr (.scr K ns), .no, .own (.lst (W.map tD)), .no, .no, .no, .no, .no, .no, .no, .no, .no, .fr (slD sl), .no, .no, .no, .no, .fr (.lst ((gFaces gs).map Fc.l)), .no, .fr due.l, .no, .no, .fr (mkD T.C_Face T.C_Maker (rows.map fun r => (r.x, r.want)) R), .no, .fr (due.o T.C_Face), .fr (optD T.C_Face want2), .fr (tD word), .no, .no, .no, .no, .no], ⟨rfl, rfl⟩, fun n acc G' h => ⟨by rw [h.2]; rfl, by rw [h.2]; rfl⟩, ?_, ?_⟩
    · rintro j x acc G' hx ⟨rfl, rfl⟩
      obtain ⟨f, hf, rfl⟩ := map_get hx
      have fV := gFace_V d hg (List.mem_of_getElem? hf)
      refine aw_name (by decide) ?_
      repeat ((fail_if_success (with_reducible refine as_seq ?_)); walk_at "q")
      refine cq0 (.fr .nil) nl ⟨f, rfl, fV.nk, fV.nf, ?_⟩
      refine ⟨_, rfl, ?_, rfl⟩
      rw [take_more hf, List.map_append]
      rfl
    rintro acc G' _ ⟨rfl, rfl⟩
    rw [show (gFaces gs).take ((gFaces gs).map Fc.l).length = gFaces gs by rw [List.length_map, List.take_length]]
    repeat ((fail_if_success (with_reducible refine as_seq ?_)); walk_at "q")
    refine cq0 (.fr (.fr (.fr .nil))) hL ⟨rows.map fun r => (r.x, r.want), R, word, gFaces gs, rfl, Fmd word ow, ?_⟩
    rw [Feq word ow]
    have FS := Fs word ow
    have FB := FmB word ow
    have FD := fun e => Fdue e word
    generalize hS : seenN due want2 word = sn at FB FD ⊢
    repeat ((fail_if_success (with_reducible refine as_seq ?_)); walk_at "q")
    refine as_wk (G' := [.fr (.scr K ns), .no, .own (.lst (W.map tD)), .no, .no, .no, .no, .no, .no, .no, .no, .no, .fr (slD sl), .no, .no, .no, .no, .fr (.lst ((gFaces gs).map Fc.l)), .no, .fr due.l, .no, .no, .fr (mkD T.C_Face T.C_Maker (rows.map fun r => (r.x, r.want)) R), .no, .fr (due.o T.C_Face), .fr (optD T.C_Face want2), .fr (tD word), .fr (sn.o T.C_Face), .no, .no, .no, .no]) (by repeat (first | exact Wk.nil | refine Wk.keep ?_ | refine Wk.drop ?_)) ?_
    refine as_seq ?_
    repeat ((fail_if_success (with_reducible refine as_seq ?_)); walk_at "q")
    refine cq0 (.fr (.fr (.fr .nil))) hL ⟨due, want2, word, rfl, FfB, FS, ?_⟩
    rw [hS]
    repeat ((fail_if_success (with_reducible refine as_seq ?_)); walk_at "q")
    refine as_wk (G' := [.fr (.scr K ns), .no, .own (.lst (W.map tD)), .no, .no, .no, .no, .no, .no, .no, .no, .no, .fr (slD sl), .no, .no, .no, .no, .fr (.lst ((gFaces gs).map Fc.l)), .no, .fr due.l, .no, .no, .fr (mkD T.C_Face T.C_Maker (rows.map fun r => (r.x, r.want)) R), .no, .fr (due.o T.C_Face), .fr (optD T.C_Face want2), .fr (tD word), .fr (sn.o T.C_Face), .fr (sn.o T.C_Face), .no, .no, .no]) (by repeat (first | exact Wk.nil | refine Wk.keep ?_ | refine Wk.drop ?_)) ?_
    refine as_mid (fun G => G = [.fr (.scr K ns), .no, .own (.lst (W.map tD)), .no, .no, .no, .no, .no, .no, .no, .no, .no, .fr (slD sl), .no, .no, .no, .no, .fr (.lst ((gFaces gs).map Fc.l)), .no, .fr due.l, .no, .no, .fr (mkD T.C_Face T.C_Maker (rows.map fun r => (r.x, r.want)) R), .no, .fr (due.o T.C_Face), .fr (optD T.C_Face want2), .fr (tD word), .fr (sn.o T.C_Face), .fr (sn.o T.C_Face), .no, .no, .no]) ?_ ?_
    · repeat (first | walk_at "q" | refine ⟨_, _, _, _, rfl, T.cl_Face, T.n_kinds, fld_kinds (C := T.C_Face) _, ?_⟩ | refine ⟨_, _, _, _, rfl, T.cl_Face, T.n_funs, fld_funs (C := T.C_Face) _, ?_⟩)
      refine ae_lstI hL0 ?_
      repeat (first | walk_at "q" | refine ⟨_, _, _, _, rfl, T.cl_Face, T.n_kinds, fld_kinds (C := T.C_Face) _, ?_⟩ | refine ⟨_, _, _, _, rfl, T.cl_Face, T.n_funs, fld_funs (C := T.C_Face) _, ?_⟩)
      refine ⟨_, _, rfl, ?_⟩
      rw [← p1]
      repeat (first | walk_at "q" | refine ⟨_, _, _, _, rfl, T.cl_Face, T.n_kinds, fld_kinds (C := T.C_Face) _, ?_⟩ | refine ⟨_, _, _, _, rfl, T.cl_Face, T.n_funs, fld_funs (C := T.C_Face) _, ?_⟩)
      refine ae_lstI hL0 ?_
      repeat (first | walk_at "q" | refine ⟨_, _, _, _, rfl, T.cl_Face, T.n_kinds, fld_kinds (C := T.C_Face) _, ?_⟩ | refine ⟨_, _, _, _, rfl, T.cl_Face, T.n_funs, fld_funs (C := T.C_Face) _, ?_⟩)
      refine ⟨_, _, rfl, ?_⟩
      rw [← p2]
      repeat (first | walk_at "q" | refine ⟨_, _, _, _, rfl, T.cl_Face, T.n_kinds, fld_kinds (C := T.C_Face) _, ?_⟩ | refine ⟨_, _, _, _, rfl, T.cl_Face, T.n_funs, fld_funs (C := T.C_Face) _, ?_⟩)
      refine cq0 (.fr (.fr (.fr .nil))) hL ⟨sn, rfl, FB, ?_⟩
      repeat (first | walk_at "q" | refine ⟨_, _, _, _, rfl, T.cl_Face, T.n_kinds, fld_kinds (C := T.C_Face) _, ?_⟩ | refine ⟨_, _, _, _, rfl, T.cl_Face, T.n_funs, fld_funs (C := T.C_Face) _, ?_⟩)
      rfl
    rintro G rfl
    cases sl with
    | none =>
      have FD := FD rfl
      subst FD
      repeat ((fail_if_success (with_reducible refine as_seq ?_)); walk_at "q")
      refine ar_isN ?_
      repeat ((fail_if_success (with_reducible refine as_seq ?_)); walk_at "q")
      refine cq0 (.fr (.fr (.fr .nil))) hL ⟨sn, rfl, FB, ?_⟩
      repeat ((fail_if_success (with_reducible refine as_seq ?_)); walk_at "q")
      refine ⟨_, (by repeat (first | exact Wk.nil | refine Wk.keep ?_ | refine Wk.drop ?_)), rfl⟩
    | some p =>
      repeat ((fail_if_success (with_reducible refine as_seq ?_)); walk_at "q")
      refine ar_isN_obj (d := slD (some p)) rfl rfl ?_
      repeat ((fail_if_success (with_reducible refine as_seq ?_)); walk_at "q")
      refine ⟨_, (by repeat (first | exact Wk.nil | refine Wk.keep ?_ | refine Wk.drop ?_)), rfl⟩
  rintro G rfl
  repeat ((fail_if_success (with_reducible refine as_seq ?_)); walk_at "q")
  exact ⟨[], rfl, rfl, hk⟩
end
end Q
-- text CHb
set_option Elab.async false
set_option linter.all false
set_option maxRecDepth 100000
set_option maxHeartbeats 4000000
namespace Q
open PySem PySem.Spec PyProof.Rows L2
local macro_rules | `(tactic| walk_at "q") => `(tactic| (first
  | with_reducible refine as_seq ?_ | with_reducible refine as_ret ?_ | with_reducible refine as_if ?_ | with_reducible refine as_deal ?_ | with_reducible refine as_asg ?_ | with_reducible refine as_drop ?_ | with_reducible refine as_dput ?_
  | with_reducible refine at_test ?_ | with_reducible refine at_B ?_ | with_reducible refine at_not ?_ | with_reducible refine at_and ?_ | with_reducible refine at_or ?_
  | with_reducible refine ae_op ?_ | with_reducible refine ae_c ?_ | with_reducible refine ae_andV ?_ | with_reducible refine ae_notV ?_ | with_reducible refine ae_join ?_ | with_reducible refine ae_index ?_ | with_reducible refine ae_from1 ?_ | refine ae_un (i := 0) ?_ | refine ae_var rfl ?_ | refine ae_rd rfl ?_ | refine ae_mt rfl ?_ | with_reducible refine ae_call ?_ | with_reducible refine ae_tup ?_ | with_reducible refine ae_fld ?_ | with_reducible refine ae_cb ?_
  | with_reducible refine aa_nil ?_ | with_reducible refine aa_cons ?_
  | with_reducible refine ae_dget ?_ | with_reducible refine ae_dget2 ?_ | with_reducible refine ae_dget1 ?_ | with_reducible refine ae_din ?_ | with_reducible refine ae_dnotin ?_ | with_reducible refine ae_newK ?_ | with_reducible refine ae_newT ?_ | with_reducible refine ae_lst ?_
  | with_reducible refine ae_meth ?_ | with_reducible refine ct_yes ?_ | with_reducible refine ct_if ?_
  | refine ar_ixT rfl rfl ?_ | refine ar_ixL rfl rfl ?_ | refine ar_II ?_ | refine ar_eq rfl ?_
  | refine itT (by decide +kernel) ?_ | refine itF (by decide +kernel) ?_ | refine itF Bool.false_ne_true ?_ | refine itT rfl ?_
  | refine ⟨.inr ⟨_, _, rfl⟩, ?_⟩ | refine ⟨.inl ⟨_, _, rfl⟩, ?_⟩ | refine ⟨_, _, .T rfl, rfl, ?_⟩ | refine ⟨_, rfl, ?_⟩ | refine ⟨[_, _], rfl, Nat.le_of_ble_eq_true rfl, ?_⟩ | refine ⟨[_, _, _], rfl, Nat.le_of_ble_eq_true rfl, ?_⟩ | refine ⟨[], rfl, Nat.le_of_ble_eq_true rfl, ?_⟩ | refine ⟨[_], rfl, Nat.le_of_ble_eq_true rfl, ?_⟩
  | with_reducible refine as_forL ?_ | with_reducible refine as_forT ?_ | with_reducible refine as_forR ?_ | refine ae_app (ae_pl rfl rfl ⟨_, rfl, ⟨_, rfl⟩, ?_⟩) | refine ae_ins (ae_pl rfl rfl ⟨_, rfl, ⟨_, rfl⟩, ?_⟩) | refine ag_rd rfl ?_ | refine ag_name ?_ | refine ag_own ?_ | refine ag_tup rfl (ags_cons (ags_cons (ags_nil ?_))) | with_reducible refine as_next ?_))
section
variable {P : Program} {w : World} {K : PySem.W.Frag} {mg : Str → Option Value} {base : Heap}
theorem ok_law {f : Addr} {fd : FuncData} (T : Txt K mg) (F : Fun K "law" "law" s_law f fd)
    (c_l_name : Callee P w K mg base 2 "_law_name" p_l_name [] false S_name) (c_l_deal : Callee P w K mg base 1 "_law_deal" p_l_deal [] true (S_deal K)) (c_l_known : Callee P w K mg base 111 "_law_known" p_l_known [] false S_known)
    (c_l_know : Callee P w K mg base 1 "_law_know" p_l_know [] false S_know) (c_l_face : Callee P w K mg base 111 "_law_face" p_l_face [] false S_face) (c_l_formals : Callee P w K mg base 111 "_law_formals" p_l_formals [] true S_formals)
    (c_l_items : Callee P w K mg base 111 "_law_items" p_l_items [] true S_items) (c_l_seal : Callee P w K mg base 2 "_law_seal" p_l_seal [] false S_lsl) (c_l_opened : Callee P w K mg base 103 "_law_opened" p_l_opened [] false S_opened)
    (c_l_given : Callee P w K mg base 111 "_law_given" p_l_given [] false S_given) (c_l_put_all : Callee P w K mg base 101 "_law_put_all" p_l_put_all [] false S_pall) (c_l_greatest : Callee P w K mg base 101 "_law_greatest" p_l_greatest [] false S_great)
    (c_l_face_made : Callee P w K mg base 3 "_law_face_made" p_l_face_made [] false (S_fmade T.C_Face)) (m_Face : MakeC P w K mg base 1 "Face" T.C_Face p_Face_init (spFace T.C_Face))
    (c_maker_of : Callee P w K mg base 106 "maker_of" p_maker_of [] true (S_maker_of T.C_Face T.C_Maker)) (c_l_direct : Callee P w K mg base 106 "_law_direct" p_l_direct [] true (S_direct T.C_Face))
    (c_made_face : Callee P w K mg base 104 "made_face" p_made_face [] true (S_made T.C_Face T.C_Maker)) (c_seen_face : Callee P w K mg base 105 "seen_face" p_seen_face [] true (S_seen T.C_Face)) (c_l_same : Callee P w K mg base 91 "_law_same" p_l_same [] true (S_same T.C_Face)) :
    FnOk P w K mg base CX0 112 f fd p_law (spOf true (S_law K)) := by
  refine fun_ok F sc_law (by decide) (fun pm k h => by obtain ⟨_, rfl, _⟩ := h; rfl) (fun cdv A outer s H X hr => ?_)
  obtain ⟨trest, hrest, arest⟩ := law_rest (P := P) (w := w) (base := base) (f := f) T c_l_name c_l_deal c_l_known c_l_know c_l_face c_l_formals c_l_items c_l_seal c_l_opened c_l_given c_l_put_all c_l_greatest c_l_face_made m_Face c_maker_of c_l_direct c_made_face c_seen_face c_l_same cdv A outer s H X hr
  refine ⟨_, (pss_cons (ps_set (i := 1) sc_law.nd rfl (Or.inr rfl) (pe_lst pa_nil))
    (pss_cons (ps_set (i := 2) sc_law.nd rfl (Or.inr rfl) (pe_lc (own := [("_law_k", 23)]) (g := gName 23) (tt := tYes) (by rfl) sc_law.nd (pi_range1 (by rfl) T.z_range (pa_cons pe_int pa_nil)) (blkOk_by (N := n_law) (sc := defScope s_law) (by decide +kernel))
        (fun _ _ _ _ _ => (pg_name (i := 23) sc_law.nd rfl (Or.inl rfl))) (fun _ _ _ _ _ => pts_nil)
        (fun _ _ _ _ _ => (pe_cal c_l_name (hr.mono (by omega)) (by rfl) (pa_cons (pe_cal c_l_deal (hr.mono (by omega)) (by rfl) (pa_cons (pv 0) (pa_cons (pe_op op_mod (pv 23) pe_int) pa_nil))) (pa_cons (pv 1) pa_nil))))))
    (pss_cons (ps_set (i := 3) sc_law.nd rfl (Or.inl rfl) (pe_lst pa_nil))
    (pss_cons (ps_set (i := 4) sc_law.nd rfl (Or.inl rfl) (pe_cal c_l_known (hr.mono (by omega)) (by rfl) (pa_cons (pe_cal c_l_deal (hr.mono (by omega)) (by rfl) (pa_cons (pv 0) (pa_cons pe_int pa_nil))) (pa_cons (pe_ix ix_list (pv 2) pe_int (fun _ _ => rfl)) (pa_cons (pv 3) pa_nil)))))
    (pss_cons (ps_set (i := 5) sc_law.nd rfl (Or.inl rfl) pe_dnewT)
    (pss_cons (ps_expr (pe_cal c_l_know (hr.mono (by omega)) (by rfl) (pa_cons (pv 5) (pa_cons (pe_ix ix_list (pv 2) pe_int (fun _ _ => rfl)) (pa_cons (pe_tup (pa_cons (pv 4) (pa_cons (pe_lst pa_nil) pa_nil))) pa_nil)))))
    (pss_cons (ps_setLc (i := 6) (own := [("_law_t", 29), ("_law_kind_here", 30)]) (g := gTup K 2 (gCons (gName 29) (gCons (gName 30) gNil))) (by rfl) sc_law.nd rfl rfl (sw_true rfl rfl rfl (by decide +kernel)) (pi_list (pv 4)) (blkOk_by (N := n_law) (sc := defScope s_law) (by decide +kernel))
        (fun _ _ _ _ _ => (pg_tup (by rfl) (pgs_cons (pg_name (i := 29) sc_law.nd rfl (Or.inl rfl)) (pgs_cons (pg_name (i := 30) sc_law.nd rfl (Or.inl rfl)) pgs_nil)))) (fun _ _ _ _ _ => pts_one (pt_cmpR (op_eqDk (K := K) rfl hr.units) (pv 30) (pe_tup (pa_cons pe_str (pa_cons (pe_ix (ix_listk (K := K) rfl) (pv 2) pe_int (fun _ _ => rfl)) (pa_cons (pv 29) pa_nil)))) (nomark _)))
        (fun _ _ _ _ _ => (pe_tup (pa_cons pe_str (pa_cons (pe_ix (ix_listk (K := K) rfl) (pv 2) pe_int (fun _ _ => rfl)) (pa_cons (pv 29) pa_nil))))))
    (pss_cons (ps_set (i := 7) sc_law.nd rfl (Or.inl rfl) (pe_lst (pa_cons (pe_cal c_l_face (hr.mono (by omega)) (by rfl) (pa_cons (pe_cal c_l_deal (hr.mono (by omega)) (by rfl) (pa_cons (pv 0) (pa_cons pe_int pa_nil))) (pa_cons (pv 3) (pa_cons (pv 6) pa_nil)))) (pa_cons (pe_cal c_l_face (hr.mono (by omega)) (by rfl) (pa_cons (pe_cal c_l_deal (hr.mono (by omega)) (by rfl) (pa_cons (pv 0) (pa_cons pe_int pa_nil))) (pa_cons (pv 3) (pa_cons (pv 6) pa_nil)))) pa_nil))))
    (pss_cons (ps_set (i := 8) sc_law.nd rfl (Or.inl rfl) (pe_cal c_l_face (hr.mono (by omega)) (by rfl) (pa_cons (pe_cal c_l_deal (hr.mono (by omega)) (by rfl) (pa_cons (pv 0) (pa_cons pe_int pa_nil))) (pa_cons (pv 3) (pa_cons (pv 6) pa_nil)))))
    (pss_cons (ps_asg (pe_cal c_l_formals (hr.mono (by omega)) (by rfl) (pa_cons (pe_lc (own := [("_law_k", 23)]) (g := gName 23) (tt := tYes) (by rfl) sc_law.nd (pi_range1 (by rfl) T.z_range (pa_cons pe_int pa_nil)) (blkOk_by (N := n_law) (sc := defScope s_law) (by decide +kernel))
        (fun _ _ _ _ _ => (pg_name (i := 23) sc_law.nd rfl (Or.inl rfl))) (fun _ _ _ _ _ => pts_nil)
        (fun _ _ _ _ _ => (pe_cal c_l_deal (hr.mono (by omega)) (by rfl) (pa_cons (pv 0) (pa_cons (pe_op op_add pe_int (pv 23)) pa_nil))))) (pa_cons (pv 2) (pa_cons (pv 7) (pa_cons (pv 5) pa_nil))))) (pg_tup (by rfl) (pgs_cons (pg_name (i := 9) sc_law.nd rfl (Or.inl rfl)) (pgs_cons (pg_name (i := 10) sc_law.nd rfl (Or.inl rfl)) pgs_nil))))
    (pss_cons (ps_set (i := 11) sc_law.nd rfl (Or.inl rfl) (pe_cal c_l_items (hr.mono (by omega)) (by rfl) (pa_cons (pe_cal c_l_deal (hr.mono (by omega)) (by rfl) (pa_cons (pv 0) (pa_cons pe_int pa_nil))) (pa_cons (pv 8) (pa_cons (pv 5) pa_nil)))))
    (pss_cons (ps_set (i := 12) sc_law.nd rfl (Or.inl rfl) (pe_cal c_l_seal (hr.mono (by omega)) (by rfl) (pa_cons (pe_cal c_l_deal (hr.mono (by omega)) (by rfl) (pa_cons (pv 0) (pa_cons pe_int pa_nil))) (pa_cons (pe_ix ix_list (pv 2) pe_int (fun _ _ => rfl)) (pa_cons (pv 8) (pa_cons (pe_ix ix_tup (pv 11) pe_int (fun _ _ => rfl)) pa_nil))))))
    (pss_cons (ps_asg (pe_cal c_l_opened (hr.mono (by omega)) (by rfl) (pa_cons (pe_cal c_l_deal (hr.mono (by omega)) (by rfl) (pa_cons (pv 0) (pa_cons pe_int pa_nil))) (pa_cons (pv 2) (pa_cons (pv 10) (pa_cons (pv 11) pa_nil))))) (pg_tup (by rfl) (pgs_cons (pg_name (i := 13) sc_law.nd rfl (Or.inl rfl)) (pgs_cons (pg_name (i := 14) sc_law.nd rfl (Or.inl rfl)) (pgs_cons (pg_name (i := 15) sc_law.nd rfl (Or.inl rfl)) (pgs_cons (pg_name (i := 16) sc_law.nd rfl (Or.inl rfl)) pgs_nil))))))
    (pss_cons (ps_asg (pe_cal c_l_given (hr.mono (by omega)) (by rfl) (pa_cons (pe_lc (own := [("_law_k", 23)]) (g := gName 23) (tt := tYes) (by rfl) sc_law.nd (pi_range1 (by rfl) T.z_range (pa_cons pe_int pa_nil)) (blkOk_by (N := n_law) (sc := defScope s_law) (by decide +kernel))
        (fun _ _ _ _ _ => (pg_name (i := 23) sc_law.nd rfl (Or.inl rfl))) (fun _ _ _ _ _ => pts_nil)
        (fun _ _ _ _ _ => (pe_cal c_l_deal (hr.mono (by omega)) (by rfl) (pa_cons (pv 0) (pa_cons (pe_op op_add pe_int (pv 23)) pa_nil))))) (pa_cons (pv 10) (pa_cons (pv 2) (pa_cons (pv 13) (pa_cons (pv 6) pa_nil)))))) (pg_tup (by rfl) (pgs_cons (pg_name (i := 17) sc_law.nd rfl (Or.inl rfl)) (pgs_cons (pg_name (i := 18) sc_law.nd rfl (Or.inl rfl)) pgs_nil))))
    (pss_cons (ps_set (i := 19) sc_law.nd rfl (Or.inl rfl) (pe_cal c_l_put_all (hr.mono (by omega)) (by rfl) (pa_cons (pe_tup (pa_cons (pv 15) (pa_cons (pv 16) pa_nil))) (pa_cons (pv 18) pa_nil))))
    (pss_cons (ps_if (pt_cmpR op_gt (pe_callB (cr_max rfl) (by rfl) T.z_max (by decide +kernel) (pa_cons (pe_lc (own := [("_law_one", 31)]) (g := gName 31) (tt := tYes) (by rfl) sc_law.nd (pi_list (pe_op op_cat (pv 17) (pe_lst (pa_cons (pv 19) pa_nil)))) (blkOk_by (N := n_law) (sc := defScope s_law) (by decide +kernel))
        (fun _ _ _ _ _ => (pg_name (i := 31) sc_law.nd rfl (Or.inl rfl))) (fun _ _ _ _ _ => pts_nil)
        (fun _ _ _ _ _ => (pe_cal c_l_greatest (hr.mono (by omega)) (by rfl) (pa_cons (pv 31) pa_nil)))) pa_nil)) pe_int (nomark _))
    (pss_one (ps_ret pe_bl))
    pss_nil)
    hrest)))))))))))))))), ?_⟩
  rintro L hL pm av kk ⟨ns, rfl, ln, hn, hk⟩
  have hL0 : L = none := hL rfl
  refine as_seq ?_
  repeat ((fail_if_success (with_reducible refine as_seq ?_)); walk_at "q")
  refine as_seq ?_
  repeat ((fail_if_success (with_reducible refine as_seq ?_)); walk_at "q")
  refine ae_lcR ?_
  repeat ((fail_if_success (with_reducible refine as_seq ?_)); walk_at "q")
  refine ⟨by decide, fun i acc G => ∃ tk : List Str, tk.length = i ∧ acc = tk.map tD ∧ tk.Nodup ∧ (∀ w ∈ tk, okW w) ∧ G = [.fr (.scr K ns), .own (.lst (tk.map tD)), .no, .no, .no, .no, .no, .no, .no, .no, .no, .no, .no, .no, .no, .no, .no, .no, .no, .no, .no, .no, .no, .no, .no, .no, .no, .no, .no, .no, .no, .no], ⟨[], rfl, rfl, List.nodup_nil, by simp, rfl⟩, fun n acc G' h => by obtain ⟨_, _, _, _, _, rfl⟩ := h; rfl, ?_, ?_⟩
  · rintro i acc G' hi ⟨tk, lt, rfl, nd, ow, rfl⟩
    have hi : i < 13 := hi
    refine aw_name (by decide) ?_
    repeat ((fail_if_success (with_reducible refine as_seq ?_)); walk_at "q")
    refine ar_IIC (by decide) ?_
    have e13 : (i : Int) % 13 = ((i % 13 : Nat) : Int) := by omega
    rw [e13]
    repeat ((fail_if_success (with_reducible refine as_seq ?_)); walk_at "q")
    refine cq0 (.fr (.fr .nil)) hL ⟨ns, i % 13, rfl, by omega, ln, hn, ?_⟩
    repeat ((fail_if_success (with_reducible refine as_seq ?_)); walk_at "q")
    refine ae_pl rfl rfl ?_
    repeat ((fail_if_success (with_reducible refine as_seq ?_)); walk_at "q")
    refine cqm [1] [] (.fr (.mtp rfl rfl rfl .nil)) nl ⟨tk, rfl, by omega, fun w w1 w2 => ?_⟩
    refine ⟨_, rfl, tk ++ [w], by rw [List.length_append, lt]; rfl, by rw [List.map_append]; rfl, ?_, ?_, rfl⟩
    · exact List.nodup_append.mpr ⟨nd, by simp, fun a ha b hb e => w2 (by rw [List.mem_singleton.mp hb] at e; rw [← e]; exact ha)⟩
    · intro x hx
      rcases List.mem_append.mp hx with z | z
      · exact ow x z
      · rw [List.mem_singleton.mp z]; exact w1
  rintro acc G' _ ⟨W, lW, rfl, ndW, oW, rfl⟩
  have hW : WsOk W := ⟨lW, ndW, oW⟩
  obtain ⟨w0, e0, o0⟩ := hW.get (i := 0) (by decide)
  obtain ⟨w1, e1, o1⟩ := hW.get (i := 1) (by decide)
  obtain ⟨w5, e5, o5⟩ := hW.get (i := 5) (by decide)
  obtain ⟨w6, e6, o6⟩ := hW.get (i := 6) (by decide)
  obtain ⟨w7, e7, o7⟩ := hW.get (i := 7) (by decide)
  obtain ⟨w8, e8, o8⟩ := hW.get (i := 8) (by decide)
  have gW : ∀ {i : Nat} {x : Str}, W[i]? = some x → atI (W.map tD) (i : Int) = some (tD x) := fun {i x} e => atI_nat (by rw [List.getElem?_map, e]; rfl)
  have a0 : atI (W.map tD) 0 = some (tD w0) := gW e0
  have a1 : atI (W.map tD) 1 = some (tD w1) := gW e1
  have a5 : atI (W.map tD) 5 = some (tD w5) := gW e5
  have a6 : atI (W.map tD) 6 = some (tD w6) := gW e6
  have a7 : atI (W.map tD) 7 = some (tD w7) := gW e7
  have a8 : atI (W.map tD) 8 = some (tD w8) := gW e8
  repeat ((fail_if_success (with_reducible refine as_seq ?_)); walk_at "q")
  refine as_seq ?_
  repeat ((fail_if_success (with_reducible refine as_seq ?_)); walk_at "q")
  refine as_seq ?_
  repeat ((fail_if_success (with_reducible refine as_seq ?_)); walk_at "q")
  refine cq0 (.fr (.fr .nil)) hL ⟨ns, 0, rfl, by omega, ln, hn, ?_⟩
  repeat ((fail_if_success (with_reducible refine as_seq ?_)); walk_at "q")
  refine ae_pl rfl rfl ?_
  repeat ((fail_if_success (with_reducible refine as_seq ?_)); walk_at "q")
  refine ar_ixL rfl a0 ?_
  repeat ((fail_if_success (with_reducible refine as_seq ?_)); walk_at "q")
  refine ae_pl rfl rfl ?_
  repeat ((fail_if_success (with_reducible refine as_seq ?_)); walk_at "q")
  refine cqm [3] [] (.fr (.fr (.mtp rfl rfl rfl .nil))) nl ⟨w0, [], rfl, by simp, by decide, fun ks pool1 hks hp1 lp1 => ?_⟩
  repeat ((fail_if_success (with_reducible refine as_seq ?_)); walk_at "q")
  refine as_seq ?_
  refine as_asg (ae_newT ?_)
  repeat ((fail_if_success (with_reducible refine as_seq ?_)); walk_at "q")
  refine as_seq ?_
  repeat ((fail_if_success (with_reducible refine as_seq ?_)); walk_at "q")
  refine ae_pl rfl rfl ?_
  repeat ((fail_if_success (with_reducible refine as_seq ?_)); walk_at "q")
  refine ae_pl rfl rfl ?_
  repeat ((fail_if_success (with_reducible refine as_seq ?_)); walk_at "q")
  refine ar_ixL rfl a0 ?_
  repeat ((fail_if_success (with_reducible refine as_seq ?_)); walk_at "q")
  refine cqm [5] [] (.mtp rfl rfl rfl (.fr (.fr .nil))) nl ⟨[], w0, ks, .lst [], rfl, by simp, hks.nd, by decide, by have := hks.l; omega, ?_⟩
  refine as_wk (G' := [.fr (.scr K ns), .no, .own (.lst (W.map tD)), .own (.lst (pool1.map tD)), .fr (.lst (wsD ks)), .own (gD (knowG w0 ks)), .no, .no, .no, .no, .no, .no, .no, .no, .no, .no, .no, .no, .no, .no, .no, .no, .no, .no, .no, .no, .no, .no, .no, .no, .no, .no]) (by repeat (first | exact Wk.nil | refine Wk.keep ?_ | refine Wk.drop ?_)) ?_
  refine as_seq ?_
  repeat ((fail_if_success (with_reducible refine as_seq ?_)); walk_at "q")
  refine ae_lcL ?_
  repeat ((fail_if_success (with_reducible refine as_seq ?_)); walk_at "q")
  refine ⟨by rw [wsD_len]; have := hks.l; omega, fun i acc G => acc = (lsOf w0 (ks.take i)).map Kd.d ∧ G = [.fr (.scr K ns), .no, .own (.lst (W.map tD)), .own (.lst (pool1.map tD)), .fr (.lst (wsD ks)), .own (gD (knowG w0 ks)), .no, .no, .no, .no, .no, .no, .no, .no, .no, .no, .no, .no, .no, .no, .no, .no, .no, .no, .no, .no, .no, .no, .no, .no, .no, .no], ⟨rfl, rfl⟩, fun n acc G' h => ⟨by rw [h.2]; rfl, by rw [h.2]; rfl⟩, ?_, ?_⟩
  · rintro i x acc G' hx ⟨rfl, rfl⟩
    obtain ⟨⟨t, k⟩, hp, rfl⟩ := map_get hx
    obtain ⟨q1, q2⟩ := hks.k _ (List.mem_of_getElem? hp)
    have kG : k.G := by
      rcases q2 with q2 | ⟨q2, q3⟩
      · have q2 : k = .nm w0 t := q2
        rw [q2]
        exact ⟨by show (okS w0 && okS t) = true; rw [o0.s, q1.s]; rfl, show 0 < 60 by omega⟩
      · exact ⟨Kd.ok_of _ (q3.mono _ fun _ _ z => z.elim), by have := k.dep_le; have q2 : k.words ≤ 3 := q2; omega⟩
    refine aw_tup rfl (aws_cons (by decide) (aws_cons (by decide) (aws_nil ?_)))
    repeat ((fail_if_success (with_reducible refine as_seq ?_)); walk_at "q")
    refine ae_pl rfl rfl ?_
    repeat ((fail_if_success (with_reducible refine as_seq ?_)); walk_at "q")
    refine ar_ixL rfl a0 ?_
    repeat ((fail_if_success (with_reducible refine as_seq ?_)); walk_at "q")
    refine ar_eqD (pyD_K k) (pyD_K (.nm w0 t)) (pyK_shG kG) (pyK_shG (nmG o0.s q1.s)) ?_
    rw [pyK_eqv]
    repeat ((fail_if_success (with_reducible refine as_seq ?_)); walk_at "q")
    refine itD (fun h => ?_) fun h => ?_
    · have h : k = .nm w0 t := of_decide_eq_true h
      repeat ((fail_if_success (with_reducible refine as_seq ?_)); walk_at "q")
      refine ae_pl rfl rfl ?_
      repeat ((fail_if_success (with_reducible refine as_seq ?_)); walk_at "q")
      refine ar_ixL rfl a0 ?_
      repeat ((fail_if_success (with_reducible refine as_seq ?_)); walk_at "q")
      refine ⟨?_, rfl⟩
      rw [lsOf_more hp, if_pos h, List.map_append]
      rfl
    · have h : ¬ k = .nm w0 t := fun e => h (decide_eq_true e)
      refine ⟨?_, rfl⟩
      rw [lsOf_more hp, if_neg h]
  rintro acc G' _ ⟨rfl, rfl⟩
  rw [show ks.take (wsD ks).length = ks by rw [wsD_len, List.take_length]]
  have hl := lsOf_ok hks o0
  have hll := lsOf_ll (w0 := w0) (ks := ks)
  have hl4 := lsOf_len w0 ks
  generalize lsOf w0 ks = ls at hl hll hl4 ⊢
  have hlnm : ∀ k ∈ ls, ∃ q t, k = Kd.nm q t := fun k m => by obtain ⟨t, e, _⟩ := hl.k k m; exact ⟨_, _, e⟩
  have hk4 := hks.l
  repeat ((fail_if_success (with_reducible refine as_seq ?_)); walk_at "q")
  refine as_seq ?_
  repeat ((fail_if_success (with_reducible refine as_seq ?_)); walk_at "q")
  refine cq0 (.fr (.fr .nil)) hL ⟨ns, 1, rfl, by omega, ln, hn, ?_⟩
  repeat ((fail_if_success (with_reducible refine as_seq ?_)); walk_at "q")
  refine ae_pl rfl rfl ?_
  repeat ((fail_if_success (with_reducible refine as_seq ?_)); walk_at "q")
  refine ae_pl rfl rfl ?_
  repeat ((fail_if_success (with_reducible refine as_seq ?_)); walk_at "q")
  refine cqm [3] [6] (.fr (.mtp rfl rfl rfl (.rdp rfl rfl .nil))) nl ⟨pool1, ls, rfl, hp1, by simp at lp1; omega, by omega, hlnm, fun f0 pool2 hf0 hp2 lp2 => ?_⟩
  repeat ((fail_if_success (with_reducible refine as_seq ?_)); walk_at "q")
  refine cq0 (.fr (.fr .nil)) hL ⟨ns, 2, rfl, by omega, ln, hn, ?_⟩
  repeat ((fail_if_success (with_reducible refine as_seq ?_)); walk_at "q")
  refine ae_pl rfl rfl ?_
  repeat ((fail_if_success (with_reducible refine as_seq ?_)); walk_at "q")
  refine ae_pl rfl rfl ?_
  repeat ((fail_if_success (with_reducible refine as_seq ?_)); walk_at "q")
  refine cqm [3] [6] (.fr (.mtp rfl rfl rfl (.rdp rfl rfl .nil))) nl ⟨pool2, ls, rfl, hp2, by simp at lp1; omega, by omega, hlnm, fun f1 pool3 hf1 hp3 lp3 => ?_⟩
  repeat ((fail_if_success (with_reducible refine as_seq ?_)); walk_at "q")
  refine as_wk (G' := [.fr (.scr K ns), .no, .own (.lst (W.map tD)), .own (.lst (pool3.map tD)), .fr (.lst (wsD ks)), .own (gD (knowG w0 ks)), .own (.lst (ls.map Kd.d)), .own (.lst [f0.l, f1.l]), .no, .no, .no, .no, .no, .no, .no, .no, .no, .no, .no, .no, .no, .no, .no, .no, .no, .no, .no, .no, .no, .no, .no, .no]) (by repeat (first | exact Wk.nil | refine Wk.keep ?_ | refine Wk.drop ?_)) ?_
  refine as_seq ?_
  repeat ((fail_if_success (with_reducible refine as_seq ?_)); walk_at "q")
  refine cq0 (.fr (.fr .nil)) hL ⟨ns, 3, rfl, by omega, ln, hn, ?_⟩
  repeat ((fail_if_success (with_reducible refine as_seq ?_)); walk_at "q")
  refine ae_pl rfl rfl ?_
  repeat ((fail_if_success (with_reducible refine as_seq ?_)); walk_at "q")
  refine ae_pl rfl rfl ?_
  repeat ((fail_if_success (with_reducible refine as_seq ?_)); walk_at "q")
  refine cqm [3] [6] (.fr (.mtp rfl rfl rfl (.rdp rfl rfl .nil))) nl ⟨pool3, ls, rfl, hp3, by simp at lp1; omega, by omega, hlnm, fun res pool4 hres hp4 lp4 => ?_⟩
  repeat ((fail_if_success (with_reducible refine as_seq ?_)); walk_at "q")
  refine as_wk (G' := [.fr (.scr K ns), .no, .own (.lst (W.map tD)), .no, .fr (.lst (wsD ks)), .own (gD (knowG w0 ks)), .own (.lst (ls.map Kd.d)), .own (.lst [f0.l, f1.l]), .fr res.l, .no, .no, .no, .no, .no, .no, .no, .no, .no, .no, .no, .no, .no, .no, .no, .no, .no, .no, .no, .no, .no, .no, .no]) (by repeat (first | exact Wk.nil | refine Wk.keep ?_ | refine Wk.drop ?_)) ?_
  refine as_seq ?_
  repeat ((fail_if_success (with_reducible refine as_seq ?_)); walk_at "q")
  refine ae_lcR ?_
  repeat ((fail_if_success (with_reducible refine as_seq ?_)); walk_at "q")
  refine ⟨by decide, fun i acc G => acc = List.replicate i .deal ∧ G = [.fr (.scr K ns), .no, .own (.lst (W.map tD)), .no, .fr (.lst (wsD ks)), .own (gD (knowG w0 ks)), .own (.lst (ls.map Kd.d)), .own (.lst [f0.l, f1.l]), .fr res.l, .no, .no, .no, .no, .no, .no, .no, .no, .no, .no, .no, .no, .no, .no, .no, .no, .no, .no, .no, .no, .no, .no, .no], ⟨rfl, rfl⟩, fun n acc G' h => by obtain ⟨_, rfl⟩ := h; rfl, ?_, ?_⟩
  · rintro i acc G' hi ⟨rfl, rfl⟩
    have hi : i < 4 := hi
    refine aw_name (by decide) ?_
    repeat ((fail_if_success (with_reducible refine as_seq ?_)); walk_at "q")
    have e4 : (4 : Int) + (i : Int) = ((4 + i : Nat) : Int) := by omega
    rw [e4]
    refine cq0 (.fr (.fr .nil)) hL ⟨ns, 4 + i, rfl, by omega, ln, hn, ?_⟩
    exact ⟨_, rfl, by rw [List.replicate_succ'], rfl⟩
  rintro acc G' _ ⟨rfl, rfl⟩
  repeat ((fail_if_success (with_reducible refine as_seq ?_)); walk_at "q")
  refine ae_pl rfl rfl ?_
  repeat ((fail_if_success (with_reducible refine as_seq ?_)); walk_at "q")
  refine ae_pl rfl rfl ?_
  repeat ((fail_if_success (with_reducible refine as_seq ?_)); walk_at "q")
  refine ae_pl rfl rfl ?_
  repeat ((fail_if_success (with_reducible refine as_seq ?_)); walk_at "q")
  have hN0k : ∀ p ∈ knowG w0 ks, p.1.1 = w0 := fun p hp => by obtain ⟨y, _, rfl⟩ := List.mem_map.mp hp; rfl
  have hN0 : Nm (knowG w0 ks) := by
    have : D0 W w0 ks ls f0 f1 res [] := ⟨hW, e0, hks, hll, hl, hf0, hf1, hres, ⟨Nat.zero_le _, fun i r e => by simp at e⟩⟩
    exact this.N0
  refine cqm [5] [2, 7] (.fr (.rdp rfl rfl (.rdp rfl rfl (.mtp rfl rfl rfl .nil)))) hL ⟨W, ls, f0, f1, knowG w0 ks, w0, rfl, hW, e0, hl, hf0, hf1, hN0, by unfold knowG; rw [List.length_map]; omega, hN0k, fun rows hF h1r => ?_⟩
  have d : D0 W w0 ks ls f0 f1 res rows := ⟨hW, e0, hks, hll, hl, hf0, hf1, hres, hF⟩
  have hNm := d.N
  have hNl := d.Nlen
  have l4 := d.l4
  repeat ((fail_if_success (with_reducible refine as_seq ?_)); walk_at "q")
  refine as_wk (G' := [.fr (.scr K ns), .no, .own (.lst (W.map tD)), .no, .fr (.lst (wsD ks)), .own (gD (nmsAt (knowG w0 ks) rows)), .own (.lst (ls.map Kd.d)), .own (.lst [f0.l, f1.l]), .fr res.l, .fr (.tup (rows.map frD)), .fr (.lst (rows.map fwD)), .no, .no, .no, .no, .no, .no, .no, .no, .no, .no, .no, .no, .no, .no, .no, .no, .no, .no, .no, .no, .no]) (by repeat (first | exact Wk.nil | refine Wk.keep ?_ | refine Wk.drop ?_)) ?_
  refine as_seq ?_
  repeat ((fail_if_success (with_reducible refine as_seq ?_)); walk_at "q")
  refine cq0 (.fr (.fr .nil)) hL ⟨ns, 8, rfl, by omega, ln, hn, ?_⟩
  repeat ((fail_if_success (with_reducible refine as_seq ?_)); walk_at "q")
  refine ae_pl rfl rfl ?_
  repeat ((fail_if_success (with_reducible refine as_seq ?_)); walk_at "q")
  refine cq0 (.fr (.fr (.rdp rfl rfl .nil))) hL ⟨res, ls, w0, nmsAt (knowG w0 ks) rows, rfl, hres, hl, hNm, hNl, fun its hI => ?_⟩
  have h1 := d.d1 hI
  repeat ((fail_if_success (with_reducible refine as_seq ?_)); walk_at "q")
  refine as_wk (G' := [.fr (.scr K ns), .no, .own (.lst (W.map tD)), .no, .fr (.lst (wsD ks)), .no, .own (.lst (ls.map Kd.d)), .own (.lst [f0.l, f1.l]), .fr res.l, .fr (.tup (rows.map frD)), .fr (.lst (rows.map fwD)), .fr (gotD (its.map kItem ++ res.funs.map fItem) (ownL (nmsAt (knowG w0 ks) rows) its) (putF (knowG "" (ownL (nmsAt (knowG w0 ks) rows) its)) res.funs) (ownD (its.take (res.kinds.filter isH).length))), .no, .no, .no, .no, .no, .no, .no, .no, .no, .no, .no, .no, .no, .no, .no, .no, .no, .no, .no, .no]) (by repeat (first | exact Wk.nil | refine Wk.keep ?_ | refine Wk.drop ?_)) ?_
  refine as_mid (fun G => ∃ sl : Sl, SlR res its w7 sl ∧ G = [.fr (.scr K ns), .no, .own (.lst (W.map tD)), .no, .fr (.lst (wsD ks)), .no, .own (.lst (ls.map Kd.d)), .own (.lst [f0.l, f1.l]), .fr res.l, .fr (.tup (rows.map frD)), .fr (.lst (rows.map fwD)), .fr (gotD (its.map kItem ++ res.funs.map fItem) (ownL (nmsAt (knowG w0 ks) rows) its) (putF (knowG "" (ownL (nmsAt (knowG w0 ks) rows) its)) res.funs) (ownD (its.take (res.kinds.filter isH).length))), .fr (slD sl), .no, .no, .no, .no, .no, .no, .no, .no, .no, .no, .no, .no, .no, .no, .no, .no, .no, .no, .no]) ?_ ?_
  · repeat ((fail_if_success (with_reducible refine as_seq ?_)); walk_at "q")
    refine cq0 (.fr (.fr .nil)) hL ⟨ns, 9, rfl, by omega, ln, hn, ?_⟩
    repeat ((fail_if_success (with_reducible refine as_seq ?_)); walk_at "q")
    refine ae_pl rfl rfl ?_
    repeat ((fail_if_success (with_reducible refine as_seq ?_)); walk_at "q")
    refine ar_ixL rfl a7 ?_
    repeat ((fail_if_success (with_reducible refine as_seq ?_)); walk_at "q")
    refine cq0 (.fr (.fr (.fr (.fr .nil)))) nl ⟨w7, res, its.take (res.kinds.filter isH).length, rfl, (hres.W hl).V (by decide), fun t m => ?_, ?_, fun ws nd hws => ?_⟩
    · obtain ⟨j, k, e, lt, _⟩ := h1.hid m
      have ndi : (its.map (·.1)).Nodup := by rw [hI.keys]; exact ord_nd hres.nk
      rw [look_take ndi e lt]; rfl
    · repeat ((fail_if_success (with_reducible refine as_seq ?_)); walk_at "q")
      exact ⟨none, .inl rfl, rfl⟩
    · repeat ((fail_if_success (with_reducible refine as_seq ?_)); walk_at "q")
      exact ⟨some (w7, ws), .inr ⟨ws, rfl, nd, hws⟩, rfl⟩
  rintro G ⟨sl, hsl, rfl⟩
  generalize hown : ownL (nmsAt (knowG w0 ks) rows) its = own at *
  generalize hfu : putF (knowG "" own) res.funs = fu at *
  generalize hI0 : its.map kItem ++ res.funs.map fItem = I0 at *
  have lown : own.length ≤ 7 := by rw [← hown, ownL_len, hI.l, ord_len]; exact hres.lk
  have lfu : fu.length ≤ 3 := by rw [← hfu]; unfold putF; rw [List.length_map]; exact hres.lf
  have lI0 : I0.length ≤ 10 := by
    rw [← hI0, List.length_append, List.length_map, List.length_map, hI.l, ord_len]
    have := hres.lk; have := hres.lf; omega
  refine as_mid (fun G => ∃ (at_ : Int) (I : List It) (own' : List (Str × Kd)) (fu' : List (Str × Sg)), OpR rows I0 own fu at_ I own' fu' ∧ G = [.fr (.scr K ns), .no, .own (.lst (W.map tD)), .no, .fr (.lst (wsD ks)), .no, .own (.lst (ls.map Kd.d)), .own (.lst [f0.l, f1.l]), .fr res.l, .fr (.tup (rows.map frD)), .fr (.lst (rows.map fwD)), .fr (gotD I0 own fu (ownD (its.take (res.kinds.filter isH).length))), .fr (slD sl), .fr (.raw (.int at_)), .fr (.lst (I.map It.d)), .fr (.lst (wsD own')), .fr (.lst (fsD fu')), .no, .no, .no, .no, .no, .no, .no, .no, .no, .no, .no, .no, .no, .no, .no]) ?_ ?_
  · repeat ((fail_if_success (with_reducible refine as_seq ?_)); walk_at "q")
    refine cq0 (.fr (.fr .nil)) hL ⟨ns, 10, rfl, by omega, ln, hn, ?_⟩
    repeat ((fail_if_success (with_reducible refine as_seq ?_)); walk_at "q")
    refine ae_pl rfl rfl ?_
    repeat ((fail_if_success (with_reducible refine as_seq ?_)); walk_at "q")
    refine cq0 (.fr (.rdp rfl rfl (.fr (.fr .nil)))) nl ⟨W, rows, I0, own, fu, ownD (its.take (res.kinds.filter isH).length), rfl, l4, fun i r er => ⟨(d.row er).2.1.V (by decide), d.rfs er, (d.row er).2.2.2.2⟩, by omega, by omega, by omega, fun i r er q1 q2 => ?_, fun u q1 q2 => ?_⟩
    · refine ag_tup rfl (ags_cons (ags_cons (ags_cons (ags_cons (ags_nil ?_)))))
      exact ⟨(i : Int), _, _, _, .inl ⟨i, r, er, q1, q2, rfl, rfl, rfl, rfl⟩, rfl⟩
    · refine ag_tup rfl (ags_cons (ags_cons (ags_cons (ags_cons (ags_nil ?_)))))
      exact ⟨-1, _, _, _, .inr ⟨u, q1, q2, rfl, rfl, rfl, rfl⟩, rfl⟩
  rintro G ⟨at_, I, own', fu', hop, rfl⟩
  refine as_wk (G' := [.fr (.scr K ns), .no, .own (.lst (W.map tD)), .no, .fr (.lst (wsD ks)), .no, .own (.lst (ls.map Kd.d)), .own (.lst [f0.l, f1.l]), .fr res.l, .fr (.tup (rows.map frD)), .fr (.lst (rows.map fwD)), .no, .fr (slD sl), .fr (.raw (.int at_)), .fr (.lst (I.map It.d)), .fr (.lst (wsD own')), .fr (.lst (fsD fu')), .no, .no, .no, .no, .no, .no, .no, .no, .no, .no, .no, .no, .no, .no, .no]) (by repeat (first | exact Wk.nil | refine Wk.keep ?_ | refine Wk.drop ?_)) ?_
  refine as_seq ?_
  repeat ((fail_if_success (with_reducible refine as_seq ?_)); walk_at "q")
  refine ae_lcR ?_
  repeat ((fail_if_success (with_reducible refine as_seq ?_)); walk_at "q")
  refine ⟨by decide, fun i acc G => acc = List.replicate i .deal ∧ G = [.fr (.scr K ns), .no, .own (.lst (W.map tD)), .no, .fr (.lst (wsD ks)), .no, .own (.lst (ls.map Kd.d)), .own (.lst [f0.l, f1.l]), .fr res.l, .fr (.tup (rows.map frD)), .fr (.lst (rows.map fwD)), .no, .fr (slD sl), .fr (.raw (.int at_)), .fr (.lst (I.map It.d)), .fr (.lst (wsD own')), .fr (.lst (fsD fu')), .no, .no, .no, .no, .no, .no, .no, .no, .no, .no, .no, .no, .no, .no, .no], ⟨rfl, rfl⟩, fun n acc G' h => by obtain ⟨_, rfl⟩ := h; rfl, ?_, ?_⟩
  · rintro i acc G' hi ⟨rfl, rfl⟩
    have hi : i < 4 := hi
    refine aw_name (by decide) ?_
    repeat ((fail_if_success (with_reducible refine as_seq ?_)); walk_at "q")
    have e4 : (11 : Int) + (i : Int) = ((11 + i : Nat) : Int) := by omega
    rw [e4]
    refine cq0 (.fr (.fr .nil)) hL ⟨ns, 11 + i, rfl, by omega, ln, hn, ?_⟩
    exact ⟨_, rfl, by rw [List.replicate_succ'], rfl⟩
  rintro acc G' _ ⟨rfl, rfl⟩
  repeat ((fail_if_success (with_reducible refine as_seq ?_)); walk_at "q")
  refine ae_pl rfl rfl ?_
  repeat ((fail_if_success (with_reducible refine as_seq ?_)); walk_at "q")
  refine ae_pl rfl rfl ?_
  repeat ((fail_if_success (with_reducible refine as_seq ?_)); walk_at "q")
  refine cq0 (.fr (.fr (.rdp rfl rfl (.fr (.rdp rfl rfl .nil))))) nl ⟨W, w0, ls, rows, at_, rfl, hW, hl, l4, fun i r er => ⟨(d.row er).2.1, (d.row er).2.2.2.1, (d.row er).2.2.2.2, (d.rl er).1, (d.rl er).2⟩, fun gs hg => ?_⟩
  refine ag_tup rfl (ags_cons (ags_cons (ags_nil ?_)))
  have hop0 := hop
  rw [← hown, ← hfu, ← hI0, ← hown] at hop0
  obtain ⟨dW, lI, dI⟩ := fullW d h1 hop0
  have gk := GivenOk.gk d hg
  have lgs := hg.l
  refine as_wk (G' := [.fr (.scr K ns), .no, .own (.lst (W.map tD)), .no, .fr (.lst (wsD ks)), .no, .no, .own (.lst [f0.l, f1.l]), .fr res.l, .fr (.tup (rows.map frD)), .fr (.lst (rows.map fwD)), .no, .fr (slD sl), .fr (.raw (.int at_)), .fr (.lst (I.map It.d)), .fr (.lst (wsD own')), .fr (.lst (fsD fu')), .fr (.lst ((gFaces gs).map Fc.l)), .fr (gD (gNames gs)), .no, .no, .no, .no, .no, .no, .no, .no, .no, .no, .no, .no, .no]) (by repeat (first | exact Wk.nil | refine Wk.keep ?_ | refine Wk.drop ?_)) ?_
  refine as_seq ?_
  repeat ((fail_if_success (with_reducible refine as_seq ?_)); walk_at "q")
  refine cq0 (.fr (.rdv rfl .nil)) nl ⟨⟨own', fu'⟩, gNames gs, rfl, dW.V (by decide), ?_⟩
  have dV : (Fc.put (gNames gs) ⟨own', fu'⟩).V := (dW.put gk).V (by decide)
  generalize hD : Fc.put (gNames gs) ⟨own', fu'⟩ = due at dV ⊢
  repeat ((fail_if_success (with_reducible refine as_seq ?_)); walk_at "q")
  refine as_wk (G' := [.fr (.scr K ns), .no, .own (.lst (W.map tD)), .no, .fr (.lst (wsD ks)), .no, .no, .own (.lst [f0.l, f1.l]), .fr res.l, .fr (.tup (rows.map frD)), .fr (.lst (rows.map fwD)), .no, .fr (slD sl), .no, .fr (.lst (I.map It.d)), .no, .no, .fr (.lst ((gFaces gs).map Fc.l)), .no, .fr due.l, .no, .no, .no, .no, .no, .no, .no, .no, .no, .no, .no, .no]) (by repeat (first | exact Wk.nil | refine Wk.keep ?_ | refine Wk.drop ?_)) ?_
  refine as_mid (fun G => ((∀ f ∈ gFaces gs, f.sm) ∧ due.sm) ∧ G = [.fr (.scr K ns), .no, .own (.lst (W.map tD)), .no, .fr (.lst (wsD ks)), .no, .no, .own (.lst [f0.l, f1.l]), .fr res.l, .fr (.tup (rows.map frD)), .fr (.lst (rows.map fwD)), .no, .fr (slD sl), .no, .fr (.lst (I.map It.d)), .no, .no, .fr (.lst ((gFaces gs).map Fc.l)), .no, .fr due.l, .no, .no, .no, .no, .no, .no, .no, .no, .no, .no, .no, .no]) ?_ ?_
  · repeat ((fail_if_success (with_reducible refine as_seq ?_)); walk_at "q")
    refine ae_lcL ?_
    repeat ((fail_if_success (with_reducible refine as_seq ?_)); walk_at "q")
    refine ar_cat rfl rfl (by rw [List.length_map, gFaces_len]; show _ + 1 ≤ _; omega) ?_
    have eall : (gFaces gs).map Fc.l ++ [due.l] = (gFaces gs ++ [due]).map Fc.l := by rw [List.map_append]; rfl
    rw [eall]
    have Vall : ∀ f ∈ gFaces gs ++ [due], f.V := fun f hf => by
      rcases List.mem_append.mp hf with z | z
      · exact gFace_V d hg z
      · rw [List.mem_singleton.mp z]; exact dV
    have lall : (gFaces gs ++ [due]).length ≤ 5 := by rw [List.length_append, gFaces_len, List.length_singleton]; omega
    have nall : 0 < (gFaces gs ++ [due]).length := by rw [List.length_append, List.length_singleton]; omega
    have mall : (∀ f ∈ gFaces gs ++ [due], f.sm) → (∀ f ∈ gFaces gs, f.sm) ∧ due.sm := fun z => ⟨fun f hf => z f (List.mem_append.mpr (.inl hf)), z due (List.mem_append.mpr (.inr (List.mem_singleton.mpr rfl)))⟩
    generalize gFaces gs ++ [due] = all at Vall lall nall mall ⊢
    refine ⟨all.map Fc.l, rfl, by rw [List.length_map]; omega, fun i acc G => (∃ ms : List Int, ms.length = i ∧ acc = ms.map (fun m => .raw (.int m)) ∧ ∀ (j : Nat) (m : Int) (f : Fc), ms[j]? = some m → all[j]? = some f → m ≤ 40 → f.sm) ∧ G = [.fr (.scr K ns), .no, .own (.lst (W.map tD)), .no, .fr (.lst (wsD ks)), .no, .no, .own (.lst [f0.l, f1.l]), .fr res.l, .fr (.tup (rows.map frD)), .fr (.lst (rows.map fwD)), .no, .fr (slD sl), .no, .fr (.lst (I.map It.d)), .no, .no, .fr (.lst ((gFaces gs).map Fc.l)), .no, .fr due.l, .no, .no, .no, .no, .no, .no, .no, .no, .no, .no, .no, .no], ⟨⟨[], rfl, rfl, fun j m f e => by simp at e⟩, rfl⟩, fun n acc G' h => ⟨by rw [h.2]; rfl, rfl⟩, ?_, ?_⟩
    · rintro i x acc G' hx ⟨⟨ms, lm, rfl, hm⟩, rfl⟩
      obtain ⟨f, hf, rfl⟩ := map_get hx
      refine aw_name (by decide) ?_
      repeat ((fail_if_success (with_reducible refine as_seq ?_)); walk_at "q")
      refine cq0 (.fr .nil) nl ⟨f, rfl, Vall f (List.mem_of_getElem? hf), fun m hm1 => ?_⟩
      refine ⟨_, rfl, ⟨ms ++ [m], by rw [List.length_append, lm]; rfl, by rw [List.map_append]; rfl, fun j m' f' e1 e2 h40 => ?_⟩, rfl⟩
      by_cases hj : j < ms.length
      · rw [List.getElem?_append_left hj] at e1
        exact hm j m' f' e1 e2 h40
      · have : j = ms.length := by
          have := (List.getElem?_eq_some_iff.mp e1).1
          rw [List.length_append, List.length_singleton] at this
          omega
        subst this
        rw [List.getElem?_append_right (Nat.le_refl _), Nat.sub_self] at e1
        have e1 : m = m' := Option.some.inj e1
        rw [lm, hf] at e2
        injection e2 with e2
        subst e1; subst e2
        exact hm1 h40
    rintro acc G' _ ⟨⟨ms, lm, rfl, hm⟩, rfl⟩
    rw [List.length_map] at lm
    repeat ((fail_if_success (with_reducible refine as_seq ?_)); walk_at "q")
    refine ac_max (ns := ms) rfl (by omega) fun m _ hmax => ?_
    repeat ((fail_if_success (with_reducible refine as_seq ?_)); walk_at "q")
    refine itD (fun h => ?_) fun h => ?_
    · repeat ((fail_if_success (with_reducible refine as_seq ?_)); walk_at "q")
      exact ⟨[], rfl, rfl, hk⟩
    · repeat ((fail_if_success (with_reducible refine as_seq ?_)); walk_at "q")
      refine ⟨mall fun f hf => ?_, rfl⟩
      obtain ⟨j, hj⟩ := List.mem_iff_getElem?.mp hf
      have lj := (List.getElem?_eq_some_iff.mp hj).1
      have em : ms[j]? = some (ms[j]'(by omega)) := List.getElem?_eq_getElem _
      have h : ¬ (40 : Int) < m := by simpa using h
      have := hmax _ (List.mem_of_getElem? em)
      exact hm j _ f em hj (by omega)
  rintro G ⟨⟨smG, smD⟩, rfl⟩
  exact arest L hL ns av kk hk W w0 ks ls f0 f1 res rows d its hI w7 e7 sl hsl at_ I own' fu' hop0 gs hg due hD smG smD
end
end Q
-- text CI
set_option Elab.async false
set_option linter.all false
set_option maxRecDepth 100000
set_option maxHeartbeats 4000000
/-! All defs together. -/
namespace Q
open PySem PySem.Spec PyProof.Rows L2
/-- a def without defaults, as it stands -/
structure At0 (K : PySem.W.Frag) (mg : Str → Option Value) (g x qual : Str) (st : Stmt) (ps : List Str) where
  f : Addr
  fd : FuncData
  F : Fun K x qual st f fd
  at_ : mg g = some (.ref f)
  b : Binds K fd ps []
/-- one with defaults: ds stands for the last of them; all given -/
structure AtD (K : PySem.W.Frag) (mg : Str → Option Value) (g x qual : Str) (st : Stmt) (ps : List Str) (dvs : List V) where
  f : Addr
  fd : FuncData
  F : FunD K x qual (defArgs st) (defBody st) (defScope st) dvs [] f fd
  at_ : mg g = some (.ref f)
  b : ∃ ds, Vals dvs ds ∧ Binds K fd ps ds
  b0 : Binds K fd ps []
/-- methods -/
structure AtM (K : PySem.W.Frag) (C : Addr) (x qual : Str) (st : Stmt) (ps : List Str) where
  f : Addr
  fd : FuncData
  F : Fun K x qual st f fd
  at_ : Meth K C x f
  b : Binds K fd ps []
structure AtMD (K : PySem.W.Frag) (C : Addr) (x qual : Str) (st : Stmt) (ps : List Str) (dvs : List V) where
  f : Addr
  fd : FuncData
  F : FunD K x qual (defArgs st) (defBody st) (defScope st) dvs [] f fd
  at_ : Meth K C x f
  b : ∃ ds, Vals dvs ds ∧ Binds K fd ps ds
structure AtI (K : PySem.W.Frag) (C : Addr) (qual : Str) (st : Stmt) (ps : List Str) where
  f : Addr
  fd : FuncData
  F : Fun K "__init__" qual st f fd
  M : Mk K C f
  b : Binds K fd ps []
section
variable {P : Program} {w : World} {K : PySem.W.Frag} {mg : Str → Option Value} {base : Heap} {g x qual : Str} {st : Stmt} {ps : List Str} {dvs : List V} {k : Nat} {l : Bool} {S : Spec} {C : Addr}
def At0.c (a : At0 K mg g x qual st ps) (ok : FnOk P w K mg base CX0 k a.f a.fd ps (spOf l S)) : Callee P w K mg base k g ps [] l S := ⟨a.f, a.fd, [], ok, a.at_, a.F.kp, .nil, a.b⟩
noncomputable def AtD.c (a : AtD K mg g x qual st ps dvs) (ok : FnOk P w K mg base CX0 k a.f a.fd ps (spOf l S)) : Callee P w K mg base k g ps dvs l S := ⟨a.f, a.fd, a.b.choose, ok, a.at_, a.F.kp, a.b.choose_spec.1, a.b.choose_spec.2⟩
def AtD.c0 (a : AtD K mg g x qual st ps dvs) (ok : FnOk P w K mg base CX0 k a.f a.fd ps (spOf l S)) : Callee P w K mg base k g ps [] l S := ⟨a.f, a.fd, [], ok, a.at_, a.F.kp, .nil, a.b0⟩
def AtM.c (a : AtM K C x qual st ps) (cl : Cls K C) (ok : FnOk P w K mg base CX0 k a.f a.fd ps (spOf l S)) : CalleeM P w K mg base k C x ps [] l S := ⟨a.f, a.fd, [], ok, cl, a.at_, .nil, a.b⟩
noncomputable def AtMD.c (a : AtMD K C x qual st ps dvs) (cl : Cls K C) (ok : FnOk P w K mg base CX0 k a.f a.fd ps (spOf l S)) : CalleeM P w K mg base k C x ps dvs l S := ⟨a.f, a.fd, a.b.choose, ok, cl, a.at_, a.b.choose_spec.1, a.b.choose_spec.2⟩
theorem none_ok {f : Addr} {fd : FuncData} (no : ∀ pm kk, ¬ S pm kk) : FnOk P w K mg base CX0 k f fd ps (spOf l S) := by
  have no2 : ∀ vs H Q E, ¬ spOf l S vs H Q E := fun vs H Q E h => by
    obtain ⟨_, _, _, _, _, _, _, _, _, h, _⟩ := h
    exact no _ _ h
  exact ⟨fun vs H Q E h => absurd h (no2 vs H Q E), fun A outer s H args us vs Q E _ _ _ _ h => absurd h (no2 vs H Q E)⟩
theorem rec_ok {f : Addr} {fd : FuncData} {S : Nat → Spec} {j : Nat} (no : ∀ pm kk, ¬ S 0 pm kk) (step : ∀ n, FnOk P w K mg base CX0 (j + n) f fd ps (spOf l (S n)) → FnOk P w K mg base CX0 (j + n + 1) f fd ps (spOf l (S (n + 1)))) : ∀ n, FnOk P w K mg base CX0 (j + n) f fd ps (spOf l (S n))
  | 0 => none_ok no
  | n + 1 => step n (rec_ok no step n)
theorem rec_okB {f : Addr} {fd : FuncData} {S : Nat → Spec} {j m : Nat} (no : ∀ pm kk, ¬ S 0 pm kk) (step : ∀ n, n ≤ m → FnOk P w K mg base CX0 (j + n) f fd ps (spOf l (S n)) → FnOk P w K mg base CX0 (j + n + 1) f fd ps (spOf l (S (n + 1)))) : ∀ n, n ≤ m → FnOk P w K mg base CX0 (j + n) f fd ps (spOf l (S n))
  | 0, _ => none_ok no
  | n + 1, h => step n (by omega) (rec_okB no step n (by omega))
theorem FunD.fn {f : Addr} {fd : FuncData} (F : FunD K x qual (defArgs st) (defBody st) (defScope st) [] [] f fd) : Fun K x qual st f fd := by
  obtain ⟨oc, od, dV, kV, doc, pm, an, cdv, ct, osl, rfl, lk, hcd, hD, _⟩ := F.ex
  rcases hD with ⟨_, rfl⟩ | ⟨e, _⟩
  · exact ⟨⟨oc, od, kV, doc, pm, an, cdv, ct, osl, rfl, lk, hcd⟩, F.kp⟩
  · exact absurd rfl e
end
structure Facts (K : PySem.W.Frag) (mg : Str → Option Value) where
  T : Txt K mg
  d_words_in : At0 K mg "words_in" "words_in" "words_in" s_words_in p_words_in
  d_put : At0 K mg "put_kinds" "put" "put" s_put p_put
  d_bounded : At0 K mg "bounded" "bounded" "bounded" s_bounded p_bounded
  d_l_size : At0 K mg "_law_size" "_law_size" "_law_size" s_l_size p_l_size
  d_l_put : At0 K mg "_law_put" "_law_put" "_law_put" s_l_put p_l_put
  d_note_names : At0 K mg "note_names" "note_names" "note_names" s_note_names p_note_names
  d_names_in : At0 K mg "names_in" "names_in" "names_in" s_names_in p_names_in
  d_normal : AtD K mg "normal" "normal" "normal" s_normal p_normal [.int 40]
  d_Face_put : AtMD K T.C_Face "put" "Face.put" s_Face_put p_Face_put [.int 40]
  d_Face_hidden : AtM K T.C_Face "hidden" "Face.hidden" s_Face_hidden p_Face_hidden
  d_refined : At0 K mg "refined" "refined" "refined" s_refined p_refined
  d_note : At0 K mg "note" "note" "note" s_note p_note
  d_note_opened : At0 K mg "note_opened" "note_opened" "note_opened" s_note_opened p_note_opened
  d_fitted : AtD K mg "fitted" "fitted" "fitted" s_fitted p_fitted [.str ""]
  d_hiding : At0 K mg "hiding" "hiding" "hiding" s_hiding p_hiding
  d_seen_face : At0 K mg "seen_face" "seen_face" "seen_face" s_seen_face p_seen_face
  d_wanted : At0 K mg "wanted" "wanted" "wanted" s_wanted p_wanted
  d_full_face : AtD K mg "full_face" "full_face" "full_face" s_full_face p_full_face [.int 40]
  d_Face_init : AtI K T.C_Face "Face.__init__" s_Face_init p_Face_init
  d_Maker_init : AtI K T.C_Maker "Maker.__init__" s_Maker_init p_Maker_init
  d_maker_of : At0 K mg "maker_of" "maker_of" "maker_of" s_maker_of p_maker_of
  d_made_face : At0 K mg "made_face" "made_face" "made_face" s_made_face p_made_face
  d_l_draw : At0 K mg "_law_draw" "_law_draw" "_law_draw" s_l_draw p_l_draw
  d_l_deal : At0 K mg "_law_deal" "_law_deal" "_law_deal" s_l_deal p_l_deal
  d_l_kind : At0 K mg "_law_kind" "_law_kind" "_law_kind" s_l_kind p_l_kind
  d_l_word : At0 K mg "_law_word" "_law_word" "_law_word" s_l_word p_l_word
  d_l_name : At0 K mg "_law_name" "_law_name" "_law_name" s_l_name p_l_name
  d_l_hidden : At0 K mg "_law_hidden" "_law_hidden" "_law_hidden" s_l_hidden p_l_hidden
  d_l_put_all : At0 K mg "_law_put_all" "_law_put_all" "_law_put_all" s_l_put_all p_l_put_all
  d_l_hiding : At0 K mg "_law_hiding" "_law_hiding" "_law_hiding" s_l_hiding p_l_hiding
  d_l_face_made : At0 K mg "_law_face_made" "_law_face_made" "_law_face_made" s_l_face_made p_l_face_made
  d_l_greatest : At0 K mg "_law_greatest" "_law_greatest" "_law_greatest" s_l_greatest p_l_greatest
  d_l_know : At0 K mg "_law_know" "_law_know" "_law_know" s_l_know p_l_know
  d_l_far : At0 K mg "_law_far" "_law_far" "_law_far" s_l_far p_l_far
  d_l_moved : At0 K mg "_law_moved" "_law_moved" "_law_moved" s_l_moved p_l_moved
  d_l_moved_item : At0 K mg "_law_moved_item" "_law_moved_item" "_law_moved_item" s_l_moved_item p_l_moved_item
  d_l_moved_seal : At0 K mg "_law_moved_seal" "_law_moved_seal" "_law_moved_seal" s_l_moved_seal p_l_moved_seal
  d_l_known : At0 K mg "_law_known" "_law_known" "_law_known" s_l_known p_l_known
  d_l_alike : At0 K mg "_law_alike" "_law_alike" "_law_alike" s_l_alike p_l_alike
  d_l_same : At0 K mg "_law_same" "_law_same" "_law_same" s_l_same p_l_same
  d_l_face : At0 K mg "_law_face" "_law_face" "_law_face" s_l_face p_l_face
  d_l_formals : At0 K mg "_law_formals" "_law_formals" "_law_formals" s_l_formals p_l_formals
  d_l_seal : At0 K mg "_law_seal" "_law_seal" "_law_seal" s_l_seal p_l_seal
  d_l_apart : At0 K mg "_law_apart" "_law_apart" "_law_apart" s_l_apart p_l_apart
  d_l_direct : At0 K mg "_law_direct" "_law_direct" "_law_direct" s_l_direct p_l_direct
  d_l_items : At0 K mg "_law_items" "_law_items" "_law_items" s_l_items p_l_items
  d_l_opened : At0 K mg "_law_opened" "_law_opened" "_law_opened" s_l_opened p_l_opened
  d_l_given : At0 K mg "_law_given" "_law_given" "_law_given" s_l_given p_l_given
  d_law : At0 K mg "law" "law" "law" s_law p_law
theorem all_ok {P : Program} {w : World} {K : PySem.W.Frag} {mg : Str → Option Value} {base : Heap} (A : Facts K mg) : FnOk P w K mg base CX0 112 A.d_law.f A.d_law.fd p_law (spOf true (S_law K)) := by
  have r_Face_init := ok_Face_init (P := P) (w := w) (mg := mg) (base := base) A.T A.d_Face_init.F
  have m_Face : MakeC P w K mg base 1 "Face" A.T.C_Face p_Face_init (spFace A.T.C_Face) := ⟨A.d_Face_init.f, A.d_Face_init.fd, A.d_Face_init.M, r_Face_init, A.T.g_Face, A.d_Face_init.b⟩
  have r_Maker_init := ok_Maker_init (P := P) (w := w) (mg := mg) (base := base) A.T A.d_Maker_init.F
  have m_Maker : MakeC P w K mg base 1 "Maker" A.T.C_Maker p_Maker_init (spMaker K A.T.C_Maker) := ⟨A.d_Maker_init.f, A.d_Maker_init.fd, A.d_Maker_init.M, r_Maker_init, A.T.g_Maker, A.d_Maker_init.b⟩
  have r_words_in : FnOk P w K mg base CX0 100 A.d_words_in.f A.d_words_in.fd p_words_in (spOf false (S_words 100)) := by
    have z := rec_ok (P := P) (w := w) (K := K) (mg := mg) (base := base) (ps := p_words_in) (l := false) (S := S_words) (j := 0) (f := A.d_words_in.f) (fd := A.d_words_in.fd) (fun pm k h => by obtain ⟨_, _, h, _⟩ := h; omega) (fun n h => by rw [Nat.zero_add] at h ⊢; exact ok_words A.d_words_in.F (A.d_words_in.c h)) 100
    rwa [Nat.zero_add] at z
  have c_words_in : Callee P w K mg base 100 "words_in" p_words_in [] false (S_words 100) := A.d_words_in.c r_words_in
  have r_put : FnOk P w K mg base CX0 100 A.d_put.f A.d_put.fd p_put (spOf false (S_put 100)) := by
    have z := rec_ok (P := P) (w := w) (K := K) (mg := mg) (base := base) (ps := p_put) (l := false) (S := S_put) (j := 0) (f := A.d_put.f) (fd := A.d_put.fd) (fun pm k h => by obtain ⟨_, _, _, h, _⟩ := h; omega) (fun n h => by rw [Nat.zero_add] at h ⊢; exact ok_put A.d_put.F (A.d_put.c h)) 100
    rwa [Nat.zero_add] at z
  have c_put_kinds : Callee P w K mg base 100 "put_kinds" p_put [] false (S_put 100) := A.d_put.c r_put
  have r_bounded := ok_bounded (P := P) (w := w) (mg := mg) (base := base) A.d_bounded.F c_words_in
  have c_bounded := A.d_bounded.c r_bounded
  have r_l_size : FnOk P w K mg base CX0 100 A.d_l_size.f A.d_l_size.fd p_l_size (spOf false (S_words 100)) := by
    have z := rec_ok (P := P) (w := w) (K := K) (mg := mg) (base := base) (ps := p_l_size) (l := false) (S := S_words) (j := 0) (f := A.d_l_size.f) (fd := A.d_l_size.fd) (fun pm k h => by obtain ⟨_, _, h, _⟩ := h; omega) (fun n h => by rw [Nat.zero_add] at h ⊢; exact ok_size A.d_l_size.F (A.d_l_size.c h)) 100
    rwa [Nat.zero_add] at z
  have c_l_size : Callee P w K mg base 100 "_law_size" p_l_size [] false (S_words 100) := A.d_l_size.c r_l_size
  have r_l_put : FnOk P w K mg base CX0 100 A.d_l_put.f A.d_l_put.fd p_l_put (spOf false (S_put 100)) := by
    have z := rec_ok (P := P) (w := w) (K := K) (mg := mg) (base := base) (ps := p_l_put) (l := false) (S := S_put) (j := 0) (f := A.d_l_put.f) (fd := A.d_l_put.fd) (fun pm k h => by obtain ⟨_, _, _, h, _⟩ := h; omega) (fun n h => by rw [Nat.zero_add] at h ⊢; exact ok_lput A.d_l_put.F (A.d_l_put.c h)) 100
    rwa [Nat.zero_add] at z
  have c_l_put : Callee P w K mg base 100 "_law_put" p_l_put [] false (S_put 100) := A.d_l_put.c r_l_put
  have r_note_names : FnOk P w K mg base CX0 100 A.d_note_names.f A.d_note_names.fd p_note_names (spOf false (S_note 100)) := by
    have z := rec_ok (P := P) (w := w) (K := K) (mg := mg) (base := base) (ps := p_note_names) (l := false) (S := S_note) (j := 0) (f := A.d_note_names.f) (fd := A.d_note_names.fd) (fun pm k h => by obtain ⟨_, _, _, h, _⟩ := h; omega) (fun n h => by rw [Nat.zero_add] at h ⊢; exact ok_note_names A.d_note_names.F (A.d_note_names.c h)) 100
    rwa [Nat.zero_add] at z
  have c_note_names : Callee P w K mg base 100 "note_names" p_note_names [] false (S_note 100) := A.d_note_names.c r_note_names
  have r_names_in := ok_names_in (P := P) (w := w) (mg := mg) (base := base) A.d_names_in.F c_note_names
  have c_names_in := A.d_names_in.c r_names_in
  have r_normal := ok_normal (P := P) (w := w) (mg := mg) (base := base) A.T A.d_normal.F c_names_in c_put_kinds c_bounded
  have c_normal := A.d_normal.c r_normal
  have c_normal0 := A.d_normal.c0 r_normal
  have r_Face_put := ok_Fput (P := P) (w := w) (mg := mg) (base := base) A.T A.d_Face_put.F c_put_kinds c_bounded m_Face
  have c_Face_put := A.d_Face_put.c A.T.cl_Face r_Face_put
  have r_Face_hidden := ok_Fhid (P := P) (w := w) (mg := mg) (base := base) A.T A.d_Face_hidden.F
  have c_Face_hidden := A.d_Face_hidden.c A.T.cl_Face r_Face_hidden
  have r_refined := ok_refined (P := P) (w := w) (mg := mg) (base := base) A.T A.d_refined.F c_Face_hidden c_Face_put m_Face
  have c_refined := A.d_refined.c r_refined
  have r_note := ok_note (P := P) (w := w) (mg := mg) (base := base) A.d_note.F
  have c_note := A.d_note.c r_note
  have r_note_opened := ok_note_opened (P := P) (w := w) (mg := mg) (base := base) A.T A.d_note_opened.F c_note
  have c_note_opened := A.d_note_opened.c r_note_opened
  have r_fitted := ok_fitted (P := P) (w := w) (mg := mg) (base := base) A.T A.d_fitted.F c_put_kinds c_Face_hidden
  have c_fitted := A.d_fitted.c0 r_fitted
  have r_hiding := ok_hiding (P := P) (w := w) (mg := mg) (base := base) A.T A.d_hiding.F c_Face_hidden c_Face_put
  have c_hiding := A.d_hiding.c r_hiding
  have r_seen_face := ok_seen_face (P := P) (w := w) (mg := mg) (base := base) A.T A.d_seen_face.F c_fitted c_hiding m_Face
  have c_seen_face := A.d_seen_face.c r_seen_face
  have r_wanted := ok_wanted (P := P) (w := w) (mg := mg) (base := base) A.T A.d_wanted.F c_refined c_normal
  have c_wanted := A.d_wanted.c r_wanted
  have r_full_face := ok_full_face (P := P) (w := w) (mg := mg) (base := base) A.T A.d_full_face.F c_note c_note_opened c_normal0 m_Face
  have c_full_face := A.d_full_face.c r_full_face
  have r_maker_of := ok_maker_of (P := P) (w := w) (mg := mg) (base := base) A.T A.d_maker_of.F c_wanted c_hiding c_full_face c_fitted m_Maker
  have c_maker_of := A.d_maker_of.c r_maker_of
  have r_made_face := ok_made_face (P := P) (w := w) (mg := mg) (base := base) A.T A.d_made_face.F c_fitted c_Face_hidden c_Face_put
  have c_made_face := A.d_made_face.c r_made_face
  have r_l_draw := ok_l_draw (P := P) (w := w) (mg := mg) (base := base) A.d_l_draw.F
  have c_l_draw := A.d_l_draw.c r_l_draw
  have r_l_deal := ok_l_deal (P := P) (w := w) (mg := mg) (base := base) A.T A.d_l_deal.F
  have c_l_deal := A.d_l_deal.c r_l_deal
  have r_l_kind := rec_okB (P := P) (w := w) (K := K) (mg := mg) (base := base) (ps := p_l_kind) (l := false) (S := S_kind) (j := 100) (m := 20) (f := A.d_l_kind.f) (fd := A.d_l_kind.fd) (fun pm k h => by obtain ⟨_, _, _, h1, h2, _⟩ := h; omega) (fun n hn h => ok_l_kind A.T A.d_l_kind.F c_l_draw c_l_size (A.d_l_kind.c h) hn) 10 (by decide)
  have c_l_kind : Callee P w K mg base 110 "_law_kind" p_l_kind [] false (S_kind 10) := A.d_l_kind.c r_l_kind
  have r_l_name := ok_l_name (P := P) (w := w) (mg := mg) (base := base) A.T A.d_l_name.F c_l_draw
  have c_l_name := A.d_l_name.c r_l_name
  have r_l_word := ok_l_word (P := P) (w := w) (mg := mg) (base := base) A.T A.d_l_word.F c_l_draw c_l_name
  have c_l_word := A.d_l_word.c r_l_word
  have r_l_hidden := ok_l_hidden (P := P) (w := w) (mg := mg) (base := base) A.d_l_hidden.F
  have c_l_hidden := A.d_l_hidden.c r_l_hidden
  have r_l_put_all := ok_l_put_all (P := P) (w := w) (mg := mg) (base := base) A.T A.d_l_put_all.F c_l_put
  have c_l_put_all := A.d_l_put_all.c r_l_put_all
  have r_l_hiding := ok_l_hiding (P := P) (w := w) (mg := mg) (base := base) A.d_l_hiding.F c_l_hidden c_l_put_all
  have c_l_hiding := A.d_l_hiding.c r_l_hiding
  have r_l_face_made := ok_l_face_made (P := P) (w := w) (mg := mg) (base := base) A.T A.d_l_face_made.F m_Face
  have c_l_face_made := A.d_l_face_made.c r_l_face_made
  have r_l_greatest := ok_l_greatest (P := P) (w := w) (mg := mg) (base := base) A.T A.d_l_greatest.F c_l_size
  have c_l_greatest := A.d_l_greatest.c r_l_greatest
  have r_l_know := ok_l_know (P := P) (w := w) (mg := mg) (base := base) A.d_l_know.F
  have c_l_know := A.d_l_know.c r_l_know
  have r_l_far := ok_l_far (P := P) (w := w) (mg := mg) (base := base) A.d_l_far.F
  have c_l_far := A.d_l_far.c r_l_far
  have r_l_moved : FnOk P w K mg base CX0 100 A.d_l_moved.f A.d_l_moved.fd p_l_moved (spOf false (S_moved 100)) := by
    have z := rec_ok (P := P) (w := w) (K := K) (mg := mg) (base := base) (ps := p_l_moved) (l := false) (S := S_moved) (j := 0) (f := A.d_l_moved.f) (fd := A.d_l_moved.fd) (fun pm k h => by obtain ⟨_, _, _, h, _⟩ := h; omega) (fun n h => by rw [Nat.zero_add] at h ⊢; exact ok_l_moved A.d_l_moved.F (A.d_l_moved.c h)) 100
    rwa [Nat.zero_add] at z
  have c_l_moved : Callee P w K mg base 100 "_law_moved" p_l_moved [] false (S_moved 100) := A.d_l_moved.c r_l_moved
  have r_l_moved_item := ok_l_moved_item (P := P) (w := w) (mg := mg) (base := base) A.T A.d_l_moved_item.F c_l_moved
  have c_l_moved_item := A.d_l_moved_item.c r_l_moved_item
  have r_l_moved_seal := ok_l_moved_seal (P := P) (w := w) (mg := mg) (base := base) A.T A.d_l_moved_seal.F c_l_moved
  have c_l_moved_seal := A.d_l_moved_seal.c r_l_moved_seal
  have r_l_known := ok_l_known (P := P) (w := w) (mg := mg) (base := base) A.T A.d_l_known.F c_l_draw c_l_word c_l_kind
  have c_l_known := A.d_l_known.c r_l_known
  have r_l_alike : FnOk P w K mg base CX0 90 A.d_l_alike.f A.d_l_alike.fd p_l_alike (spOf true (S_alike 90)) := by
    have z := rec_ok (P := P) (w := w) (K := K) (mg := mg) (base := base) (ps := p_l_alike) (l := true) (S := S_alike) (j := 0) (f := A.d_l_alike.f) (fd := A.d_l_alike.fd) (fun pm k h => by obtain ⟨_, _, h, _⟩ := h; exact h) (fun n h => by rw [Nat.zero_add] at h ⊢; exact ok_l_alike A.T A.d_l_alike.F (A.d_l_alike.c h)) 90
    rwa [Nat.zero_add] at z
  have c_l_alike : Callee P w K mg base 90 "_law_alike" p_l_alike [] true (S_alike 90) := A.d_l_alike.c r_l_alike
  have r_l_same := ok_l_same (P := P) (w := w) (mg := mg) (base := base) A.T A.d_l_same.F c_l_alike
  have c_l_same := A.d_l_same.c r_l_same
  have r_l_face := ok_l_face (P := P) (w := w) (mg := mg) (base := base) A.T A.d_l_face.F c_l_draw c_l_word c_l_kind
  have c_l_face := A.d_l_face.c r_l_face
  have r_l_formals := ok_l_formals (P := P) (w := w) (mg := mg) (base := base) A.T A.d_l_formals.F c_l_draw c_l_kind c_l_hidden c_l_far c_l_put c_l_put_all c_l_greatest c_l_know c_l_hiding
  have c_l_formals := A.d_l_formals.c r_l_formals
  have r_l_seal := ok_l_sl (P := P) (w := w) (mg := mg) (base := base) A.T A.d_l_seal.F c_l_draw c_l_hidden
  have c_l_seal := A.d_l_seal.c r_l_seal
  have r_l_apart := ok_l_apart (P := P) (w := w) (mg := mg) (base := base) A.T A.d_l_apart.F
  have c_l_apart := A.d_l_apart.c r_l_apart
  have r_l_direct := ok_l_direct (P := P) (w := w) (mg := mg) (base := base) A.T A.d_l_direct.F c_l_moved_item c_l_moved_seal c_full_face c_wanted
  have c_l_direct := A.d_l_direct.c r_l_direct
  have r_l_items := ok_l_items (P := P) (w := w) (mg := mg) (base := base) A.T A.d_l_items.F c_l_kind c_l_far c_l_size c_l_put c_l_put_all
  have c_l_items := A.d_l_items.c r_l_items
  have r_l_opened := ok_l_opened (P := P) (w := w) (mg := mg) (base := base) A.T A.d_l_opened.F c_l_draw c_l_apart c_l_hiding c_l_name
  have c_l_opened := A.d_l_opened.c r_l_opened
  have r_l_given := ok_l_given (P := P) (w := w) (mg := mg) (base := base) A.T A.d_l_given.F c_l_draw c_l_kind c_l_hidden c_l_put_all c_l_name
  have c_l_given := A.d_l_given.c r_l_given
  exact ok_law (P := P) (w := w) (mg := mg) (base := base) A.T A.d_law.F c_l_name c_l_deal c_l_known c_l_know c_l_face c_l_formals c_l_items c_l_seal c_l_opened c_l_given c_l_put_all c_l_greatest c_l_face_made m_Face c_maker_of c_l_direct c_made_face c_seen_face c_l_same
end Q
-- text CK
set_option Elab.async false
set_option linter.all false
set_option maxRecDepth 100000
set_option maxHeartbeats 4000000
/-! The end. -/
namespace Q
open PySem PySem.Spec PyProof.Rows L2
theorem bits_lt {z : Int} {e : Nat} (h : Builtin.Int.intBits z ≤ e) : z.natAbs < 2 ^ e := by
  unfold Builtin.Int.intBits at h
  by_cases hz : z = 0
  · subst hz
    exact Nat.two_pow_pos e
  · have hb : (z == 0) = false := by simp [hz]
    rw [hb] at h
    have hn : z.natAbs ≠ 0 := fun c => hz (Int.natAbs_eq_zero.mp c)
    exact (Nat.log2_lt hn).mp h
section
variable {K : PySem.W.Frag} {mg : Str → Option Value} {h : Heap} {g x qual : Str} {st : Stmt} {ps : List Str} {f C T : Addr} {od an : Option Addr} {sl : Array (Option Value)} {oc kV dc pm cd ct : Value}
theorem law_sp {H : Hp} {a : Addr} {ns : List Int} (hl : ns.length ≤ 63) (hb : ∀ z ∈ ns, Builtin.Int.intBits z ≤ 1048576) (hS : SqL K H a (ns.map V.int)) : spOf true (S_law K) [.ref a] H (fun v _ => v = .bl true) fun _ _ _ => False := by
  have at0 : At ⟨fun b => if b = a then H a else none, fun _ => False⟩ (.ref a) (.scr K ns) := by
    refine .scr fun H' q => ?_
    have q : ∀ o, (if a = a then H a else none) = some o → H' a = some o := q
    rw [if_pos rfl] at q
    rcases hS with hS | hS
    · rcases hS with hS | ⟨od, hS⟩
      · exact .inl (.inl (q _ hS))
      · exact .inl (.inr ⟨od, q _ hS⟩)
    · exact .inr hS
  refine ⟨⟨⟨fun b => if b = a then H a else none, fun _ => False⟩, H, [], none⟩, [.fr (.scr K ns)], fun r ds => r = .v (.raw (.bl true)), fun _ => 0, rfl, fun _ => rfl, rfl, ?_, rfl, ⟨ns, rfl, hl, fun z hz => bits_lt (hb z hz), rfl⟩, fun W' H' r x ds ex rr pm e => ?_⟩
  · refine ⟨⟨.rfl, fun b o q => .inl q, fun b q => q.elim, fun b q => q.elim, fun b o q => ?_, fun b q => q.elim, fun b o q _ _ => q, fun b o q => ⟨o, q⟩, fun d q => by cases q⟩, rfl, fun i g e => ?_, fun i j gi gj b ne e1 o1 e2 p2 s1 s2 => ?_⟩
    · have q : (if b = a then H a else none) = some o := q
      by_cases z : b = a
      · rw [if_pos z] at q
        exact .inl ⟨by simp, by rw [z]; exact q⟩
      · rw [if_neg z] at q; cases q
    · match i, e with
      | 0, e =>
        have e : SV.fr (.scr K ns) = g := Option.some.inj e
        subst e
        exact ⟨_, rfl, _, rfl, at0⟩
      | i + 1, e => simp [svs] at e
    · match i, e1 with
      | 0, e1 =>
        have e1 : SV.fr (.scr K ns) = gi := Option.some.inj e1
        subst e1
        cases o1
      | i + 1, e1 => simp [svs] at e1
  · subst e
    exact At.raw_eq rr
def at0_mk (X : K.In h) (G : h.Ns mainGlobals mg) (a : PySem.W.nsIn K mainGlobals g = some (some (.ref f)))
    (l : K.lookup f = some ⟨oc, od, .func (PySem.W.fnOf x qual (defArgs st) (defBody st) (defScope st) .none kV dc pm an cd ct), sl⟩) (c : PySem.W.codeIn K cd qual = true) (k : PySem.W.keepIn K (.ref f) = true)
    (hb : ∀ (kV doc pm : Value) (an : Option Addr) (cdv ct : Value) (us : List Value), us.length = ps.length → bindArgs (PySem.W.fnOf x qual (defArgs st) (defBody st) (defScope st) .none kV doc pm an cdv ct) ⟨us, []⟩ = pure (ps.zip us)) : At0 K mg g x qual st ps :=
  ⟨f, _, fun_mk l c k, PySem.W.mg_of X G a, (fun_mk l c k).binds hb⟩
def atM_mk (a : PySem.W.findIn K (.ref C) x = some (some (.ref f))) (i : PySem.W.isFn K (.ref f) = true)
    (l : K.lookup f = some ⟨oc, od, .func (PySem.W.fnOf x qual (defArgs st) (defBody st) (defScope st) .none kV dc pm an cd ct), sl⟩) (c : PySem.W.codeIn K cd qual = true) (k : PySem.W.keepIn K (.ref f) = true)
    (hb : ∀ (kV doc pm : Value) (an : Option Addr) (cdv ct : Value) (us : List Value), us.length = ps.length → bindArgs (PySem.W.fnOf x qual (defArgs st) (defBody st) (defScope st) .none kV doc pm an cdv ct) ⟨us, []⟩ = pure (ps.zip us)) : AtM K C x qual st ps :=
  ⟨f, _, fun_mk l c k, ⟨a, i, k⟩, (fun_mk l c k).binds hb⟩
def atI_mk (m : PySem.W.makesIn K C = true) (kc : PySem.W.keepIn K (.ref C) = true) (a : PySem.W.findIn K (.ref C) "__init__" = some (some (.ref f))) (i : PySem.W.isFn K (.ref f) = true)
    (l : K.lookup f = some ⟨oc, od, .func (PySem.W.fnOf "__init__" qual (defArgs st) (defBody st) (defScope st) .none kV dc pm an cd ct), sl⟩) (c : PySem.W.codeIn K cd qual = true) (k : PySem.W.keepIn K (.ref f) = true)
    (hb : ∀ (kV doc pm : Value) (an : Option Addr) (cdv ct : Value) (us : List Value), us.length = ps.length → bindArgs (PySem.W.fnOf "__init__" qual (defArgs st) (defBody st) (defScope st) .none kV doc pm an cdv ct) ⟨us, []⟩ = pure (ps.zip us)) : AtI K C qual st ps :=
  ⟨f, _, fun_mk l c k, ⟨m, a, i, kc⟩, (fun_mk l c k).binds hb⟩
/-- a def with one default -/
theorem funD_mk {v : V} {u : Value} {oT : Obj} {n : Nat} (l : K.lookup f = some ⟨oc, od, .func (PySem.W.fnOf x qual (defArgs st) (defBody st) (defScope st) (.ref T) kV dc pm an cd ct), sl⟩) (c : PySem.W.codeIn K cd qual = true) (k : PySem.W.keepIn K (.ref f) = true)
    (t : K.lookup T = some oT) (ot : oT.data = .seq #[u] n) (r : RelV v u) : FunD K x qual (defArgs st) (defBody st) (defScope st) [v] [] f (PySem.W.fnOf x qual (defArgs st) (defBody st) (defScope st) (.ref T) kV dc pm an cd ct) :=
  ⟨⟨oc, od, .ref T, kV, dc, pm, an, cd, ct, sl, rfl, l, c, .inr ⟨List.cons_ne_nil _ _, T, oT, [u], n, rfl, t, ot, .cons r .nil⟩, .inl rfl⟩, k⟩
def atD_mk {v : V} {u : Value} {oT : Obj} {n m : Nat} (X : K.In h) (G : h.Ns mainGlobals mg) (a : PySem.W.nsIn K mainGlobals g = some (some (.ref f)))
    (l : K.lookup f = some ⟨oc, od, .func (PySem.W.fnOf x qual (defArgs st) (defBody st) (defScope st) (.ref T) kV dc pm an cd ct), sl⟩) (c : PySem.W.codeIn K cd qual = true) (k : PySem.W.keepIn K (.ref f) = true)
    (t : K.lookup T = some oT) (ot : oT.data = .seq #[u] n) (r : RelV v u) (hm : m + 1 = ps.length)
    (hb : ∀ (T : Addr) (kV doc pm : Value) (an : Option Addr) (cdv ct : Value) (us its : List Value), us.length = m → its.length = 1 →
      ∃ k, bindArgs (PySem.W.fnOf x qual (defArgs st) (defBody st) (defScope st) (.ref T) kV doc pm an cdv ct) ⟨us, []⟩ = seqItems? (.ref T) >>= k ∧ k (some its.toArray) = pure (ps.zip (us ++ its.drop 0)))
    (h0 : ∀ (T : Addr) (kV doc pm : Value) (an : Option Addr) (cdv ct : Value) (us its : List Value), us.length = m + 1 → its.length = 1 →
      ∃ k, bindArgs (PySem.W.fnOf x qual (defArgs st) (defBody st) (defScope st) (.ref T) kV doc pm an cdv ct) ⟨us, []⟩ = seqItems? (.ref T) >>= k ∧ k (some its.toArray) = pure (ps.zip (us ++ its.drop 1))) : AtD K mg g x qual st ps [v] :=
  ⟨f, _, funD_mk l c k t ot r, PySem.W.mg_of X G a, FunD.binds1 (funD_mk l c k t ot r) m 0 (List.cons_ne_nil _ _) (by show m + (1 - 0) = _; omega) hb, by
    obtain ⟨ds, r1, r2⟩ := FunD.binds1 (ps := ps) (funD_mk l c k t ot r) (m + 1) 1 (List.cons_ne_nil _ _) (by show m + 1 + (1 - 1) = _; omega) h0
    cases r1
    exact r2⟩
def atMD_mk {v : V} {u : Value} {oT : Obj} {n m : Nat} (a : PySem.W.findIn K (.ref C) x = some (some (.ref f))) (i : PySem.W.isFn K (.ref f) = true)
    (l : K.lookup f = some ⟨oc, od, .func (PySem.W.fnOf x qual (defArgs st) (defBody st) (defScope st) (.ref T) kV dc pm an cd ct), sl⟩) (c : PySem.W.codeIn K cd qual = true) (k : PySem.W.keepIn K (.ref f) = true)
    (t : K.lookup T = some oT) (ot : oT.data = .seq #[u] n) (r : RelV v u) (hm : m + 1 = ps.length)
    (hb : ∀ (T : Addr) (kV doc pm : Value) (an : Option Addr) (cdv ct : Value) (us its : List Value), us.length = m → its.length = 1 →
      ∃ k, bindArgs (PySem.W.fnOf x qual (defArgs st) (defBody st) (defScope st) (.ref T) kV doc pm an cdv ct) ⟨us, []⟩ = seqItems? (.ref T) >>= k ∧ k (some its.toArray) = pure (ps.zip (us ++ its.drop 0))) : AtMD K C x qual st ps [v] :=
  ⟨f, _, funD_mk l c k t ot r, ⟨a, i, k⟩, FunD.binds1 (funD_mk l c k t ot r) m 0 (List.cons_ne_nil _ _) (by show m + (1 - 0) = _; omega) hb⟩
theorem all_mk {l : PySem.W.OpenLaw} {w : World} {fa : Addr} (hfa : mg "law" = some (.ref fa)) (A : Facts K mg) (hb : ∀ (s : Shared) (v : Value), BindsTo s A.d_law.fd ⟨[v], []⟩ [("_law_script", v)]) :
    ∃ fd : FuncData, (∀ (s : Shared) (v : Value), BindsTo s fd ⟨[v], []⟩ [("_law_script", v)]) ∧ ∀ base : Heap, K.In base → base.Ns mainGlobals mg → FnOk l.prog w K mg base CX0 112 fa fd ["_law_script"] (spOf true (S_law K)) := by
  have e := hfa.symm.trans A.d_law.at_
  injection e with e
  injection e with e
  subst e
  exact ⟨A.d_law.fd, hb, fun base _ _ => all_ok A⟩
end
theorem walk {l : PySem.W.OpenLaw} {q : Program} {loose : List Str} {XP : (Str → Option Value) → Heap → Prop} {YP : World → Heap → Prop} {d : DefRec} {K : Params → PySem.W.Frag} (hn : l.most = some 63) (hdf : d.params.defaults = [])
    (hY : ∀ (w : World) (h : Heap), YP w h → (K w.params).In h)
    (F : ∀ (w : World) (mg : Str → Option Value) (fa : Addr) (h : Heap), (K w.params).In h → h.Ns mainGlobals mg → mg d.name = some (.ref fa) →
      ∃ fd : FuncData, (∀ (s : Shared) (u : Value), BindsTo s fd ⟨[u], []⟩ [("_law_script", u)]) ∧ ∀ base : Heap, (K w.params).In base → base.Ns mainGlobals mg → FnOk l.prog w (K w.params) mg base CX0 112 fa fd ["_law_script"] (spOf true (S_law (K w.params)))) :
    PySem.W.WalkO q loose XP YP l.row.toRowW d [] (fun f vs => PySem.call f vs) :=
  L2.walk_ofB (n := 63) (k := 112) (x := "_law_script") (CX := fun _ => CX0) (sp := fun w => spOf true (S_law (K w.params))) hn (by decide) hdf ⟨rfl, by decide, by decide⟩ hY F (fun _ _ a ns hl hb _ hS => law_sp hl hb hS) fun _ _ _ _ _ z => z
section
variable {K : PySem.W.Frag} {mg : Str → Option Value} {h : Heap} {g x qual : Str} {st : Stmt} {ps : List Str} {f C M T : Addr} {od an : Option Addr} {sl : Array (Option Value)} {oc kV dc pm cd ct : Value} {Goal : Prop}
theorem kit_self (K : PySem.W.Frag) (t : Value) : PySem.W.kitOne K t t = some true := by
  unfold PySem.W.kitOne
  rw [if_pos (by simp)]
structure TxtP (K : PySem.W.Frag) (mg : Str → Option Value) (C M : Addr) : Prop where
  z_len : mg "len" = none
  z_max : mg "max" = none
  z_min : mg "min" = none
  z_all : mg "all" = none
  z_isinstance : mg "isinstance" = none
  z_int : mg "int" = none
  z_str : mg "str" = none
  z_bool : mg "bool" = none
  z_tuple : mg "tuple" = none
  z_list : mg "list" = none
  z_dict : mg "dict" = none
  z_range : mg "range" = none
  z_zip : mg "zip" = none
  g_Face : mg "Face" = some (.ref C)
  g_Maker : mg "Maker" = some (.ref M)
  cl_Face : Cls K C
  cl_Maker : Cls K M
  n_kinds : NoAttr K C "kinds"
  n_funs : NoAttr K C "funs"
  n_formals : NoAttr K M "formals"
  n_result : NoAttr K M "result"
  ty_Face : InsTy K C
def TxtP.txt (t : TxtP K mg C M) : Txt K mg := ⟨t.z_len, t.z_max, t.z_min, t.z_all, t.z_isinstance, t.z_int, t.z_str, t.z_bool, t.z_tuple, t.z_list, t.z_dict, t.z_range, t.z_zip, C, M, t.g_Face, t.g_Maker, t.cl_Face, t.cl_Maker, t.n_kinds, t.n_funs, t.n_formals, t.n_result, t.ty_Face, kit_self K _⟩
theorem useT (X : K.In h) (G : h.Ns mainGlobals mg) (aC : PySem.W.nsIn K mainGlobals "Face" = some (some (.ref C))) (aM : PySem.W.nsIn K mainGlobals "Maker" = some (some (.ref M)))
    (z_len : PySem.W.nsIn K mainGlobals "len" = some none)
    (z_max : PySem.W.nsIn K mainGlobals "max" = some none)
    (z_min : PySem.W.nsIn K mainGlobals "min" = some none)
    (z_all : PySem.W.nsIn K mainGlobals "all" = some none)
    (z_isinstance : PySem.W.nsIn K mainGlobals "isinstance" = some none)
    (z_int : PySem.W.nsIn K mainGlobals "int" = some none)
    (z_str : PySem.W.nsIn K mainGlobals "str" = some none)
    (z_bool : PySem.W.nsIn K mainGlobals "bool" = some none)
    (z_tuple : PySem.W.nsIn K mainGlobals "tuple" = some none)
    (z_list : PySem.W.nsIn K mainGlobals "list" = some none)
    (z_dict : PySem.W.nsIn K mainGlobals "dict" = some none)
    (z_range : PySem.W.nsIn K mainGlobals "range" = some none)
    (z_zip : PySem.W.nsIn K mainGlobals "zip" = some none)
    (pg : PySem.W.plainGet K C Str.empty = true) (hd : PySem.W.hasDictIn K C = true) (po : PySem.W.plainOver K C = true) (sa : PySem.W.findIn K (.ref C) "__setattr__" = some (some (.builtin "object.__setattr__")))
    (pg2 : PySem.W.plainGet K M Str.empty = true) (hd2 : PySem.W.hasDictIn K M = true) (po2 : PySem.W.plainOver K M = true) (sa2 : PySem.W.findIn K (.ref M) "__setattr__" = some (some (.builtin "object.__setattr__")))
    (n1 : PySem.W.findIn K (.ref C) "kinds" = some none) (n2 : PySem.W.findIn K (.ref C) "funs" = some none) (n3 : PySem.W.findIn K (.ref M) "formals" = some none) (n4 : PySem.W.findIn K (.ref M) "result" = some none)
    (i1 : PySem.W.findIn K (.ref C) "__class__" = some (some (.builtin "object.__class__"))) (i2 : PySem.W.specialIn K (.builtin "object.__class__") "__get__" = some (some (.builtin "getset_descriptor.__get__")))
    (i3 : PySem.W.takesIn K (.builtin "object.__class__") = some true) (i4 : PySem.W.mroIn K C (.type "object") = some true) (next : TxtP K mg C M → Goal) : Goal :=
  next ⟨PySem.W.mg_none_of X G z_len, PySem.W.mg_none_of X G z_max, PySem.W.mg_none_of X G z_min, PySem.W.mg_none_of X G z_all, PySem.W.mg_none_of X G z_isinstance, PySem.W.mg_none_of X G z_int, PySem.W.mg_none_of X G z_str, PySem.W.mg_none_of X G z_bool, PySem.W.mg_none_of X G z_tuple, PySem.W.mg_none_of X G z_list, PySem.W.mg_none_of X G z_dict, PySem.W.mg_none_of X G z_range, PySem.W.mg_none_of X G z_zip, PySem.W.mg_of X G aC, PySem.W.mg_of X G aM, ⟨pg, hd, po, sa⟩, ⟨pg2, hd2, po2, sa2⟩, n1, n2, n3, n4, ⟨⟨pg, hd, po, sa⟩, i1, i2, i3, i4⟩⟩
theorem use0 (X : K.In h) (G : h.Ns mainGlobals mg) (a : PySem.W.nsIn K mainGlobals g = some (some (.ref f)))
    (l : K.lookup f = some ⟨oc, od, .func (PySem.W.fnOf x qual (defArgs st) (defBody st) (defScope st) .none kV dc pm an cd ct), sl⟩) (c : PySem.W.codeIn K cd qual = true) (k : PySem.W.keepIn K (.ref f) = true)
    (hb : ∀ (kV doc pm : Value) (an : Option Addr) (cdv ct : Value) (us : List Value), us.length = ps.length → bindArgs (PySem.W.fnOf x qual (defArgs st) (defBody st) (defScope st) .none kV doc pm an cdv ct) ⟨us, []⟩ = pure (ps.zip us)) (next : At0 K mg g x qual st ps → Goal) : Goal := next (at0_mk X G a l c k hb)
theorem useL (X : K.In h) (G : h.Ns mainGlobals mg) (a : PySem.W.nsIn K mainGlobals "law" = some (some (.ref f)))
    (l : K.lookup f = some ⟨oc, od, .func (PySem.W.fnOf "law" "law" (defArgs s_law) (defBody s_law) (defScope s_law) .none kV dc pm an cd ct), sl⟩) (c : PySem.W.codeIn K cd "law" = true) (k : PySem.W.keepIn K (.ref f) = true)
    (next : ∀ A : At0 K mg "law" "law" "law" s_law p_law, (∀ (s : Shared) (v : Value), BindsTo s A.fd ⟨[v], []⟩ [("_law_script", v)]) → Goal) : Goal :=
  next (at0_mk X G a l c k fun _ _ _ _ _ _ us hl => match us, hl with | [_], _ => rfl) fun s v => .of_eq rfl
theorem useM (t : TxtP K mg C M) (a : PySem.W.findIn K (.ref C) x = some (some (.ref f))) (i : PySem.W.isFn K (.ref f) = true)
    (l : K.lookup f = some ⟨oc, od, .func (PySem.W.fnOf x qual (defArgs st) (defBody st) (defScope st) .none kV dc pm an cd ct), sl⟩) (c : PySem.W.codeIn K cd qual = true) (k : PySem.W.keepIn K (.ref f) = true)
    (hb : ∀ (kV doc pm : Value) (an : Option Addr) (cdv ct : Value) (us : List Value), us.length = ps.length → bindArgs (PySem.W.fnOf x qual (defArgs st) (defBody st) (defScope st) .none kV doc pm an cdv ct) ⟨us, []⟩ = pure (ps.zip us)) (next : AtM K C x qual st ps → Goal) : Goal := next (atM_mk a i l c k hb)
theorem useIF (t : TxtP K mg C M) (m : PySem.W.makesIn K C = true) (kc : PySem.W.keepIn K (.ref C) = true) (a : PySem.W.findIn K (.ref C) "__init__" = some (some (.ref f))) (i : PySem.W.isFn K (.ref f) = true)
    (l : K.lookup f = some ⟨oc, od, .func (PySem.W.fnOf "__init__" qual (defArgs st) (defBody st) (defScope st) .none kV dc pm an cd ct), sl⟩) (c : PySem.W.codeIn K cd qual = true) (k : PySem.W.keepIn K (.ref f) = true)
    (hb : ∀ (kV doc pm : Value) (an : Option Addr) (cdv ct : Value) (us : List Value), us.length = ps.length → bindArgs (PySem.W.fnOf "__init__" qual (defArgs st) (defBody st) (defScope st) .none kV doc pm an cdv ct) ⟨us, []⟩ = pure (ps.zip us)) (next : AtI K C qual st ps → Goal) : Goal := next (atI_mk m kc a i l c k hb)
theorem useIM (t : TxtP K mg M C) (m : PySem.W.makesIn K C = true) (kc : PySem.W.keepIn K (.ref C) = true) (a : PySem.W.findIn K (.ref C) "__init__" = some (some (.ref f))) (i : PySem.W.isFn K (.ref f) = true)
    (l : K.lookup f = some ⟨oc, od, .func (PySem.W.fnOf "__init__" qual (defArgs st) (defBody st) (defScope st) .none kV dc pm an cd ct), sl⟩) (c : PySem.W.codeIn K cd qual = true) (k : PySem.W.keepIn K (.ref f) = true)
    (hb : ∀ (kV doc pm : Value) (an : Option Addr) (cdv ct : Value) (us : List Value), us.length = ps.length → bindArgs (PySem.W.fnOf "__init__" qual (defArgs st) (defBody st) (defScope st) .none kV doc pm an cdv ct) ⟨us, []⟩ = pure (ps.zip us)) (next : AtI K C qual st ps → Goal) : Goal := next (atI_mk m kc a i l c k hb)
theorem useD {v : V} {u : Value} {oT : Obj} {n : Nat} (m : Nat) (X : K.In h) (G : h.Ns mainGlobals mg) (a : PySem.W.nsIn K mainGlobals g = some (some (.ref f)))
    (l : K.lookup f = some ⟨oc, od, .func (PySem.W.fnOf x qual (defArgs st) (defBody st) (defScope st) (.ref T) kV dc pm an cd ct), sl⟩) (c : PySem.W.codeIn K cd qual = true) (k : PySem.W.keepIn K (.ref f) = true)
    (t : K.lookup T = some oT) (ot : oT.data = .seq #[u] n) (r : RelV v u) (hm : m + 1 = ps.length)
    (hb : ∀ (T : Addr) (kV doc pm : Value) (an : Option Addr) (cdv ct : Value) (us its : List Value), us.length = m → its.length = 1 →
      ∃ k, bindArgs (PySem.W.fnOf x qual (defArgs st) (defBody st) (defScope st) (.ref T) kV doc pm an cdv ct) ⟨us, []⟩ = seqItems? (.ref T) >>= k ∧ k (some its.toArray) = pure (ps.zip (us ++ its.drop 0)))
    (h0 : ∀ (T : Addr) (kV doc pm : Value) (an : Option Addr) (cdv ct : Value) (us its : List Value), us.length = m + 1 → its.length = 1 →
      ∃ k, bindArgs (PySem.W.fnOf x qual (defArgs st) (defBody st) (defScope st) (.ref T) kV doc pm an cdv ct) ⟨us, []⟩ = seqItems? (.ref T) >>= k ∧ k (some its.toArray) = pure (ps.zip (us ++ its.drop 1))) (next : AtD K mg g x qual st ps [v] → Goal) : Goal := next (atD_mk (m := m) X G a l c k t ot r hm hb h0)
theorem useMD {v : V} {u : Value} {oT : Obj} {n : Nat} (m : Nat) (tp : TxtP K mg C M) (a : PySem.W.findIn K (.ref C) x = some (some (.ref f))) (i : PySem.W.isFn K (.ref f) = true)
    (l : K.lookup f = some ⟨oc, od, .func (PySem.W.fnOf x qual (defArgs st) (defBody st) (defScope st) (.ref T) kV dc pm an cd ct), sl⟩) (c : PySem.W.codeIn K cd qual = true) (k : PySem.W.keepIn K (.ref f) = true)
    (t : K.lookup T = some oT) (ot : oT.data = .seq #[u] n) (r : RelV v u) (hm : m + 1 = ps.length)
    (hb : ∀ (T : Addr) (kV doc pm : Value) (an : Option Addr) (cdv ct : Value) (us its : List Value), us.length = m → its.length = 1 →
      ∃ k, bindArgs (PySem.W.fnOf x qual (defArgs st) (defBody st) (defScope st) (.ref T) kV doc pm an cdv ct) ⟨us, []⟩ = seqItems? (.ref T) >>= k ∧ k (some its.toArray) = pure (ps.zip (us ++ its.drop 0))) (next : AtMD K C x qual st ps [v] → Goal) : Goal := next (atMD_mk (m := m) a i l c k t ot r hm hb)
end
end Q
-- text CL
set_option Elab.async false
set_option maxRecDepth 100000
open PySem PySem.W PyProof.Rows
set_option maxRecDepth 100000 in
set_option maxHeartbeats 0 in
theorem PySem.Challenge.cw_sealhouse_k47_whole_made_as_written_out_holds : PySem.Challenge.rw_sealhouse_k47_whole_made_as_written_out.Holds := by
  w_on; o_law; k_head; (case hw => w_witness2)
  k_fill
  refine Q.walk (l := PySem.Challenge.rw_sealhouse_k47_whole_made_as_written_out) rfl rfl (fun w h Y => PySem.W.kIn_of Y) ?F
  case F =>
    intro w mg fa h KX G hmg
    refine' Q.useT KX G ?aC_1 ?aM_1 ?z_len_1 ?z_max_1 ?z_min_1 ?z_all_1 ?z_isinstance_1 ?z_int_1 ?z_str_1 ?z_bool_1 ?z_tuple_1 ?z_list_1 ?z_dict_1 ?z_range_1 ?z_zip_1 ?pg_1 ?hd_1 ?po_1 ?sa_1 ?pg2_1 ?hd2_1 ?po2_1 ?sa2_1 ?n1_1 ?n2_1 ?n3_1 ?n4_1 ?i1_1 ?i2_1 ?i3_1 ?i4_1 ?n_1
    (case aC_1 => k_is); (case aM_1 => k_is); (case z_len_1 => k_is); (case z_max_1 => k_is); (case z_min_1 => k_is); (case z_all_1 => k_is); (case z_isinstance_1 => k_is); (case z_int_1 => k_is); (case z_str_1 => k_is); (case z_bool_1 => k_is); (case z_tuple_1 => k_is); (case z_list_1 => k_is); (case z_dict_1 => k_is); (case z_range_1 => k_is); (case z_zip_1 => k_is); (case pg_1 => k_is); (case hd_1 => k_is); (case po_1 => k_is); (case sa_1 => k_is); (case pg2_1 => k_is); (case hd2_1 => k_is); (case po2_1 => k_is); (case sa2_1 => k_is); (case n1_1 => k_is); (case n2_1 => k_is); (case n3_1 => k_is); (case n4_1 => k_is); (case i1_1 => k_is); (case i2_1 => k_is); (case i3_1 => k_is); (case i4_1 => k_is)
    intro tp
    refine' Q.use0 (g := "words_in") (x := "words_in") (qual := "words_in") (st := Q.s_words_in) (ps := Q.p_words_in) KX G ?a_2 ?l_2 ?c_2 ?k_2 ?b_2 ?n_2
    (case a_2 => k_is); (case l_2 => k_is); (case c_2 => k_is); (case k_2 => k_is); (case b_2 => exact fun _ _ _ _ _ _ us hl => match us, hl with | [_], _ => rfl)
    intro d_words_in
    refine' Q.use0 (g := "put_kinds") (x := "put") (qual := "put") (st := Q.s_put) (ps := Q.p_put) KX G ?a_3 ?l_3 ?c_3 ?k_3 ?b_3 ?n_3
    (case a_3 => k_is); (case l_3 => k_is); (case c_3 => k_is); (case k_3 => k_is); (case b_3 => exact fun _ _ _ _ _ _ us hl => match us, hl with | [_, _], _ => rfl)
    intro d_put
    refine' Q.use0 (g := "bounded") (x := "bounded") (qual := "bounded") (st := Q.s_bounded) (ps := Q.p_bounded) KX G ?a_4 ?l_4 ?c_4 ?k_4 ?b_4 ?n_4
    (case a_4 => k_is); (case l_4 => k_is); (case c_4 => k_is); (case k_4 => k_is); (case b_4 => exact fun _ _ _ _ _ _ us hl => match us, hl with | [_, _], _ => rfl)
    intro d_bounded
    refine' Q.use0 (g := "_law_size") (x := "_law_size") (qual := "_law_size") (st := Q.s_l_size) (ps := Q.p_l_size) KX G ?a_5 ?l_5 ?c_5 ?k_5 ?b_5 ?n_5
    (case a_5 => k_is); (case l_5 => k_is); (case c_5 => k_is); (case k_5 => k_is); (case b_5 => exact fun _ _ _ _ _ _ us hl => match us, hl with | [_], _ => rfl)
    intro d_l_size
    refine' Q.use0 (g := "_law_put") (x := "_law_put") (qual := "_law_put") (st := Q.s_l_put) (ps := Q.p_l_put) KX G ?a_6 ?l_6 ?c_6 ?k_6 ?b_6 ?n_6
    (case a_6 => k_is); (case l_6 => k_is); (case c_6 => k_is); (case k_6 => k_is); (case b_6 => exact fun _ _ _ _ _ _ us hl => match us, hl with | [_, _], _ => rfl)
    intro d_l_put
    refine' Q.use0 (g := "note_names") (x := "note_names") (qual := "note_names") (st := Q.s_note_names) (ps := Q.p_note_names) KX G ?a_7 ?l_7 ?c_7 ?k_7 ?b_7 ?n_7
    (case a_7 => k_is); (case l_7 => k_is); (case c_7 => k_is); (case k_7 => k_is); (case b_7 => exact fun _ _ _ _ _ _ us hl => match us, hl with | [_, _], _ => rfl)
    intro d_note_names
    refine' Q.use0 (g := "names_in") (x := "names_in") (qual := "names_in") (st := Q.s_names_in) (ps := Q.p_names_in) KX G ?a_8 ?l_8 ?c_8 ?k_8 ?b_8 ?n_8
    (case a_8 => k_is); (case l_8 => k_is); (case c_8 => k_is); (case k_8 => k_is); (case b_8 => exact fun _ _ _ _ _ _ us hl => match us, hl with | [_], _ => rfl)
    intro d_names_in
    refine' Q.useD (g := "normal") (x := "normal") (qual := "normal") (st := Q.s_normal) (ps := Q.p_normal) (v := .int 40) 3 KX G ?a_9 ?l_9 ?c_9 ?k_9 ?t_9 ?ot_9 ?r_9 ?hm_9 ?b_9 ?b0_9 ?n_9
    (case a_9 => k_is); (case l_9 => k_is); (case c_9 => k_is); (case k_9 => k_is); (case t_9 => k_is); (case ot_9 => rfl); (case r_9 => exact ⟨_, rfl⟩); (case hm_9 => rfl); (case b_9 => exact fun _ _ _ _ _ _ _ us its hl h2 => match us, hl, its, h2 with | [_, _, _], _, [_], _ => ⟨_, rfl, rfl⟩); (case b0_9 => exact fun _ _ _ _ _ _ _ us its hl h2 => match us, hl, its, h2 with | [_, _, _, _], _, [_], _ => ⟨_, rfl, rfl⟩)
    intro d_normal
    refine' Q.useMD (x := "put") (qual := "Face.put") (st := Q.s_Face_put) (ps := Q.p_Face_put) (v := .int 40) 2 tp ?a_10 ?i_10 ?l_10 ?c_10 ?k_10 ?t_10 ?ot_10 ?r_10 ?hm_10 ?b_10 ?n_10
    (case a_10 => k_is); (case i_10 => k_is); (case l_10 => k_is); (case c_10 => k_is); (case k_10 => k_is); (case t_10 => k_is); (case ot_10 => rfl); (case r_10 => exact ⟨_, rfl⟩); (case hm_10 => rfl); (case b_10 => exact fun _ _ _ _ _ _ _ us its hl h2 => match us, hl, its, h2 with | [_, _], _, [_], _ => ⟨_, rfl, rfl⟩)
    intro d_Face_put
    refine' Q.useM (x := "hidden") (qual := "Face.hidden") (st := Q.s_Face_hidden) (ps := Q.p_Face_hidden) tp ?a_11 ?i_11 ?l_11 ?c_11 ?k_11 ?b_11 ?n_11
    (case a_11 => k_is); (case i_11 => k_is); (case l_11 => k_is); (case c_11 => k_is); (case k_11 => k_is); (case b_11 => exact fun _ _ _ _ _ _ us hl => match us, hl with | [_], _ => rfl)
    intro d_Face_hidden
    refine' Q.use0 (g := "refined") (x := "refined") (qual := "refined") (st := Q.s_refined) (ps := Q.p_refined) KX G ?a_12 ?l_12 ?c_12 ?k_12 ?b_12 ?n_12
    (case a_12 => k_is); (case l_12 => k_is); (case c_12 => k_is); (case k_12 => k_is); (case b_12 => exact fun _ _ _ _ _ _ us hl => match us, hl with | [_, _], _ => rfl)
    intro d_refined
    refine' Q.use0 (g := "note") (x := "note") (qual := "note") (st := Q.s_note) (ps := Q.p_note) KX G ?a_13 ?l_13 ?c_13 ?k_13 ?b_13 ?n_13
    (case a_13 => k_is); (case l_13 => k_is); (case c_13 => k_is); (case k_13 => k_is); (case b_13 => exact fun _ _ _ _ _ _ us hl => match us, hl with | [_, _, _], _ => rfl)
    intro d_note
    refine' Q.use0 (g := "note_opened") (x := "note_opened") (qual := "note_opened") (st := Q.s_note_opened) (ps := Q.p_note_opened) KX G ?a_14 ?l_14 ?c_14 ?k_14 ?b_14 ?n_14
    (case a_14 => k_is); (case l_14 => k_is); (case c_14 => k_is); (case k_14 => k_is); (case b_14 => exact fun _ _ _ _ _ _ us hl => match us, hl with | [_, _, _], _ => rfl)
    intro d_note_opened
    refine' Q.useD (g := "fitted") (x := "fitted") (qual := "fitted") (st := Q.s_fitted) (ps := Q.p_fitted) (v := .str "") 2 KX G ?a_15 ?l_15 ?c_15 ?k_15 ?t_15 ?ot_15 ?r_15 ?hm_15 ?b_15 ?b0_15 ?n_15
    (case a_15 => k_is); (case l_15 => k_is); (case c_15 => k_is); (case k_15 => k_is); (case t_15 => k_is); (case ot_15 => rfl); (case r_15 => exact ⟨_, rfl⟩); (case hm_15 => rfl); (case b_15 => exact fun _ _ _ _ _ _ _ us its hl h2 => match us, hl, its, h2 with | [_, _], _, [_], _ => ⟨_, rfl, rfl⟩); (case b0_15 => exact fun _ _ _ _ _ _ _ us its hl h2 => match us, hl, its, h2 with | [_, _, _], _, [_], _ => ⟨_, rfl, rfl⟩)
    intro d_fitted
    refine' Q.use0 (g := "hiding") (x := "hiding") (qual := "hiding") (st := Q.s_hiding) (ps := Q.p_hiding) KX G ?a_16 ?l_16 ?c_16 ?k_16 ?b_16 ?n_16
    (case a_16 => k_is); (case l_16 => k_is); (case c_16 => k_is); (case k_16 => k_is); (case b_16 => exact fun _ _ _ _ _ _ us hl => match us, hl with | [_, _], _ => rfl)
    intro d_hiding
    refine' Q.use0 (g := "seen_face") (x := "seen_face") (qual := "seen_face") (st := Q.s_seen_face) (ps := Q.p_seen_face) KX G ?a_17 ?l_17 ?c_17 ?k_17 ?b_17 ?n_17
    (case a_17 => k_is); (case l_17 => k_is); (case c_17 => k_is); (case k_17 => k_is); (case b_17 => exact fun _ _ _ _ _ _ us hl => match us, hl with | [_, _, _], _ => rfl)
    intro d_seen_face
    refine' Q.use0 (g := "wanted") (x := "wanted") (qual := "wanted") (st := Q.s_wanted) (ps := Q.p_wanted) KX G ?a_18 ?l_18 ?c_18 ?k_18 ?b_18 ?n_18
    (case a_18 => k_is); (case l_18 => k_is); (case c_18 => k_is); (case k_18 => k_is); (case b_18 => exact fun _ _ _ _ _ _ us hl => match us, hl with | [_, _, _], _ => rfl)
    intro d_wanted
    refine' Q.useD (g := "full_face") (x := "full_face") (qual := "full_face") (st := Q.s_full_face) (ps := Q.p_full_face) (v := .int 40) 2 KX G ?a_19 ?l_19 ?c_19 ?k_19 ?t_19 ?ot_19 ?r_19 ?hm_19 ?b_19 ?b0_19 ?n_19
    (case a_19 => k_is); (case l_19 => k_is); (case c_19 => k_is); (case k_19 => k_is); (case t_19 => k_is); (case ot_19 => rfl); (case r_19 => exact ⟨_, rfl⟩); (case hm_19 => rfl); (case b_19 => exact fun _ _ _ _ _ _ _ us its hl h2 => match us, hl, its, h2 with | [_, _], _, [_], _ => ⟨_, rfl, rfl⟩); (case b0_19 => exact fun _ _ _ _ _ _ _ us its hl h2 => match us, hl, its, h2 with | [_, _, _], _, [_], _ => ⟨_, rfl, rfl⟩)
    intro d_full_face
    refine' Q.useIF (qual := "Face.__init__") (st := Q.s_Face_init) (ps := Q.p_Face_init) tp ?m_20 ?kc_20 ?a_20 ?i_20 ?l_20 ?c_20 ?k_20 ?b_20 ?n_20
    (case m_20 => k_is); (case kc_20 => k_is); (case a_20 => k_is); (case i_20 => k_is); (case l_20 => k_is); (case c_20 => k_is); (case k_20 => k_is); (case b_20 => exact fun _ _ _ _ _ _ us hl => match us, hl with | [_, _, _], _ => rfl)
    intro d_Face_init
    refine' Q.useIM (qual := "Maker.__init__") (st := Q.s_Maker_init) (ps := Q.p_Maker_init) tp ?m_21 ?kc_21 ?a_21 ?i_21 ?l_21 ?c_21 ?k_21 ?b_21 ?n_21
    (case m_21 => k_is); (case kc_21 => k_is); (case a_21 => k_is); (case i_21 => k_is); (case l_21 => k_is); (case c_21 => k_is); (case k_21 => k_is); (case b_21 => exact fun _ _ _ _ _ _ us hl => match us, hl with | [_, _, _], _ => rfl)
    intro d_Maker_init
    refine' Q.use0 (g := "maker_of") (x := "maker_of") (qual := "maker_of") (st := Q.s_maker_of) (ps := Q.p_maker_of) KX G ?a_22 ?l_22 ?c_22 ?k_22 ?b_22 ?n_22
    (case a_22 => k_is); (case l_22 => k_is); (case c_22 => k_is); (case k_22 => k_is); (case b_22 => exact fun _ _ _ _ _ _ us hl => match us, hl with | [_, _, _], _ => rfl)
    intro d_maker_of
    refine' Q.use0 (g := "made_face") (x := "made_face") (qual := "made_face") (st := Q.s_made_face) (ps := Q.p_made_face) KX G ?a_23 ?l_23 ?c_23 ?k_23 ?b_23 ?n_23
    (case a_23 => k_is); (case l_23 => k_is); (case c_23 => k_is); (case k_23 => k_is); (case b_23 => exact fun _ _ _ _ _ _ us hl => match us, hl with | [_, _, _], _ => rfl)
    intro d_made_face
    refine' Q.use0 (g := "_law_draw") (x := "_law_draw") (qual := "_law_draw") (st := Q.s_l_draw) (ps := Q.p_l_draw) KX G ?a_24 ?l_24 ?c_24 ?k_24 ?b_24 ?n_24
    (case a_24 => k_is); (case l_24 => k_is); (case c_24 => k_is); (case k_24 => k_is); (case b_24 => exact fun _ _ _ _ _ _ us hl => match us, hl with | [_, _], _ => rfl)
    intro d_l_draw
    refine' Q.use0 (g := "_law_deal") (x := "_law_deal") (qual := "_law_deal") (st := Q.s_l_deal) (ps := Q.p_l_deal) KX G ?a_25 ?l_25 ?c_25 ?k_25 ?b_25 ?n_25
    (case a_25 => k_is); (case l_25 => k_is); (case c_25 => k_is); (case k_25 => k_is); (case b_25 => exact fun _ _ _ _ _ _ us hl => match us, hl with | [_, _], _ => rfl)
    intro d_l_deal
    refine' Q.use0 (g := "_law_kind") (x := "_law_kind") (qual := "_law_kind") (st := Q.s_l_kind) (ps := Q.p_l_kind) KX G ?a_26 ?l_26 ?c_26 ?k_26 ?b_26 ?n_26
    (case a_26 => k_is); (case l_26 => k_is); (case c_26 => k_is); (case k_26 => k_is); (case b_26 => exact fun _ _ _ _ _ _ us hl => match us, hl with | [_, _, _], _ => rfl)
    intro d_l_kind
    refine' Q.use0 (g := "_law_word") (x := "_law_word") (qual := "_law_word") (st := Q.s_l_word) (ps := Q.p_l_word) KX G ?a_27 ?l_27 ?c_27 ?k_27 ?b_27 ?n_27
    (case a_27 => k_is); (case l_27 => k_is); (case c_27 => k_is); (case k_27 => k_is); (case b_27 => exact fun _ _ _ _ _ _ us hl => match us, hl with | [_, _, _], _ => rfl)
    intro d_l_word
    refine' Q.use0 (g := "_law_name") (x := "_law_name") (qual := "_law_name") (st := Q.s_l_name) (ps := Q.p_l_name) KX G ?a_28 ?l_28 ?c_28 ?k_28 ?b_28 ?n_28
    (case a_28 => k_is); (case l_28 => k_is); (case c_28 => k_is); (case k_28 => k_is); (case b_28 => exact fun _ _ _ _ _ _ us hl => match us, hl with | [_, _], _ => rfl)
    intro d_l_name
    refine' Q.use0 (g := "_law_hidden") (x := "_law_hidden") (qual := "_law_hidden") (st := Q.s_l_hidden) (ps := Q.p_l_hidden) KX G ?a_29 ?l_29 ?c_29 ?k_29 ?b_29 ?n_29
    (case a_29 => k_is); (case l_29 => k_is); (case c_29 => k_is); (case k_29 => k_is); (case b_29 => exact fun _ _ _ _ _ _ us hl => match us, hl with | [_], _ => rfl)
    intro d_l_hidden
    refine' Q.use0 (g := "_law_put_all") (x := "_law_put_all") (qual := "_law_put_all") (st := Q.s_l_put_all) (ps := Q.p_l_put_all) KX G ?a_30 ?l_30 ?c_30 ?k_30 ?b_30 ?n_30
    (case a_30 => k_is); (case l_30 => k_is); (case c_30 => k_is); (case k_30 => k_is); (case b_30 => exact fun _ _ _ _ _ _ us hl => match us, hl with | [_, _], _ => rfl)
    intro d_l_put_all
    refine' Q.use0 (g := "_law_hiding") (x := "_law_hiding") (qual := "_law_hiding") (st := Q.s_l_hiding) (ps := Q.p_l_hiding) KX G ?a_31 ?l_31 ?c_31 ?k_31 ?b_31 ?n_31
    (case a_31 => k_is); (case l_31 => k_is); (case c_31 => k_is); (case k_31 => k_is); (case b_31 => exact fun _ _ _ _ _ _ us hl => match us, hl with | [_, _], _ => rfl)
    intro d_l_hiding
    refine' Q.use0 (g := "_law_face_made") (x := "_law_face_made") (qual := "_law_face_made") (st := Q.s_l_face_made) (ps := Q.p_l_face_made) KX G ?a_32 ?l_32 ?c_32 ?k_32 ?b_32 ?n_32
    (case a_32 => k_is); (case l_32 => k_is); (case c_32 => k_is); (case k_32 => k_is); (case b_32 => exact fun _ _ _ _ _ _ us hl => match us, hl with | [_], _ => rfl)
    intro d_l_face_made
    refine' Q.use0 (g := "_law_greatest") (x := "_law_greatest") (qual := "_law_greatest") (st := Q.s_l_greatest) (ps := Q.p_l_greatest) KX G ?a_33 ?l_33 ?c_33 ?k_33 ?b_33 ?n_33
    (case a_33 => k_is); (case l_33 => k_is); (case c_33 => k_is); (case k_33 => k_is); (case b_33 => exact fun _ _ _ _ _ _ us hl => match us, hl with | [_], _ => rfl)
    intro d_l_greatest
    refine' Q.use0 (g := "_law_know") (x := "_law_know") (qual := "_law_know") (st := Q.s_l_know) (ps := Q.p_l_know) KX G ?a_34 ?l_34 ?c_34 ?k_34 ?b_34 ?n_34
    (case a_34 => k_is); (case l_34 => k_is); (case c_34 => k_is); (case k_34 => k_is); (case b_34 => exact fun _ _ _ _ _ _ us hl => match us, hl with | [_, _, _], _ => rfl)
    intro d_l_know
    refine' Q.use0 (g := "_law_far") (x := "_law_far") (qual := "_law_far") (st := Q.s_l_far) (ps := Q.p_l_far) KX G ?a_35 ?l_35 ?c_35 ?k_35 ?b_35 ?n_35
    (case a_35 => k_is); (case l_35 => k_is); (case c_35 => k_is); (case k_35 => k_is); (case b_35 => exact fun _ _ _ _ _ _ us hl => match us, hl with | [_], _ => rfl)
    intro d_l_far
    refine' Q.use0 (g := "_law_moved") (x := "_law_moved") (qual := "_law_moved") (st := Q.s_l_moved) (ps := Q.p_l_moved) KX G ?a_36 ?l_36 ?c_36 ?k_36 ?b_36 ?n_36
    (case a_36 => k_is); (case l_36 => k_is); (case c_36 => k_is); (case k_36 => k_is); (case b_36 => exact fun _ _ _ _ _ _ us hl => match us, hl with | [_, _], _ => rfl)
    intro d_l_moved
    refine' Q.use0 (g := "_law_moved_item") (x := "_law_moved_item") (qual := "_law_moved_item") (st := Q.s_l_moved_item) (ps := Q.p_l_moved_item) KX G ?a_37 ?l_37 ?c_37 ?k_37 ?b_37 ?n_37
    (case a_37 => k_is); (case l_37 => k_is); (case c_37 => k_is); (case k_37 => k_is); (case b_37 => exact fun _ _ _ _ _ _ us hl => match us, hl with | [_, _], _ => rfl)
    intro d_l_moved_item
    refine' Q.use0 (g := "_law_moved_seal") (x := "_law_moved_seal") (qual := "_law_moved_seal") (st := Q.s_l_moved_seal) (ps := Q.p_l_moved_seal) KX G ?a_38 ?l_38 ?c_38 ?k_38 ?b_38 ?n_38
    (case a_38 => k_is); (case l_38 => k_is); (case c_38 => k_is); (case k_38 => k_is); (case b_38 => exact fun _ _ _ _ _ _ us hl => match us, hl with | [_, _], _ => rfl)
    intro d_l_moved_seal
    refine' Q.use0 (g := "_law_known") (x := "_law_known") (qual := "_law_known") (st := Q.s_l_known) (ps := Q.p_l_known) KX G ?a_39 ?l_39 ?c_39 ?k_39 ?b_39 ?n_39
    (case a_39 => k_is); (case l_39 => k_is); (case c_39 => k_is); (case k_39 => k_is); (case b_39 => exact fun _ _ _ _ _ _ us hl => match us, hl with | [_, _, _], _ => rfl)
    intro d_l_known
    refine' Q.use0 (g := "_law_alike") (x := "_law_alike") (qual := "_law_alike") (st := Q.s_l_alike) (ps := Q.p_l_alike) KX G ?a_40 ?l_40 ?c_40 ?k_40 ?b_40 ?n_40
    (case a_40 => k_is); (case l_40 => k_is); (case c_40 => k_is); (case k_40 => k_is); (case b_40 => exact fun _ _ _ _ _ _ us hl => match us, hl with | [_, _], _ => rfl)
    intro d_l_alike
    refine' Q.use0 (g := "_law_same") (x := "_law_same") (qual := "_law_same") (st := Q.s_l_same) (ps := Q.p_l_same) KX G ?a_41 ?l_41 ?c_41 ?k_41 ?b_41 ?n_41
    (case a_41 => k_is); (case l_41 => k_is); (case c_41 => k_is); (case k_41 => k_is); (case b_41 => exact fun _ _ _ _ _ _ us hl => match us, hl with | [_, _, _], _ => rfl)
    intro d_l_same
    refine' Q.use0 (g := "_law_face") (x := "_law_face") (qual := "_law_face") (st := Q.s_l_face) (ps := Q.p_l_face) KX G ?a_42 ?l_42 ?c_42 ?k_42 ?b_42 ?n_42
    (case a_42 => k_is); (case l_42 => k_is); (case c_42 => k_is); (case k_42 => k_is); (case b_42 => exact fun _ _ _ _ _ _ us hl => match us, hl with | [_, _, _], _ => rfl)
    intro d_l_face
    refine' Q.use0 (g := "_law_formals") (x := "_law_formals") (qual := "_law_formals") (st := Q.s_l_formals) (ps := Q.p_l_formals) KX G ?a_43 ?l_43 ?c_43 ?k_43 ?b_43 ?n_43
    (case a_43 => k_is); (case l_43 => k_is); (case c_43 => k_is); (case k_43 => k_is); (case b_43 => exact fun _ _ _ _ _ _ us hl => match us, hl with | [_, _, _, _], _ => rfl)
    intro d_l_formals
    refine' Q.use0 (g := "_law_seal") (x := "_law_seal") (qual := "_law_seal") (st := Q.s_l_seal) (ps := Q.p_l_seal) KX G ?a_44 ?l_44 ?c_44 ?k_44 ?b_44 ?n_44
    (case a_44 => k_is); (case l_44 => k_is); (case c_44 => k_is); (case k_44 => k_is); (case b_44 => exact fun _ _ _ _ _ _ us hl => match us, hl with | [_, _, _, _], _ => rfl)
    intro d_l_seal
    refine' Q.use0 (g := "_law_apart") (x := "_law_apart") (qual := "_law_apart") (st := Q.s_l_apart) (ps := Q.p_l_apart) KX G ?a_45 ?l_45 ?c_45 ?k_45 ?b_45 ?n_45
    (case a_45 => k_is); (case l_45 => k_is); (case c_45 => k_is); (case k_45 => k_is); (case b_45 => exact fun _ _ _ _ _ _ us hl => match us, hl with | [_, _], _ => rfl)
    intro d_l_apart
    refine' Q.use0 (g := "_law_direct") (x := "_law_direct") (qual := "_law_direct") (st := Q.s_l_direct) (ps := Q.p_l_direct) KX G ?a_46 ?l_46 ?c_46 ?k_46 ?b_46 ?n_46
    (case a_46 => k_is); (case l_46 => k_is); (case c_46 => k_is); (case k_46 => k_is); (case b_46 => exact fun _ _ _ _ _ _ us hl => match us, hl with | [_, _, _, _, _], _ => rfl)
    intro d_l_direct
    refine' Q.use0 (g := "_law_items") (x := "_law_items") (qual := "_law_items") (st := Q.s_l_items) (ps := Q.p_l_items) KX G ?a_47 ?l_47 ?c_47 ?k_47 ?b_47 ?n_47
    (case a_47 => k_is); (case l_47 => k_is); (case c_47 => k_is); (case k_47 => k_is); (case b_47 => exact fun _ _ _ _ _ _ us hl => match us, hl with | [_, _, _], _ => rfl)
    intro d_l_items
    refine' Q.use0 (g := "_law_opened") (x := "_law_opened") (qual := "_law_opened") (st := Q.s_l_opened) (ps := Q.p_l_opened) KX G ?a_48 ?l_48 ?c_48 ?k_48 ?b_48 ?n_48
    (case a_48 => k_is); (case l_48 => k_is); (case c_48 => k_is); (case k_48 => k_is); (case b_48 => exact fun _ _ _ _ _ _ us hl => match us, hl with | [_, _, _, _], _ => rfl)
    intro d_l_opened
    refine' Q.use0 (g := "_law_given") (x := "_law_given") (qual := "_law_given") (st := Q.s_l_given) (ps := Q.p_l_given) KX G ?a_49 ?l_49 ?c_49 ?k_49 ?b_49 ?n_49
    (case a_49 => k_is); (case l_49 => k_is); (case c_49 => k_is); (case k_49 => k_is); (case b_49 => exact fun _ _ _ _ _ _ us hl => match us, hl with | [_, _, _, _, _], _ => rfl)
    intro d_l_given
    refine' Q.useL KX G ?a_50 ?l_50 ?c_50 ?k_50 ?n_50
    (case a_50 => k_is); (case l_50 => k_is); (case c_50 => k_is); (case k_50 => k_is)
    intro d_law hbl
    exact Q.all_mk hmg ⟨tp.txt, d_words_in, d_put, d_bounded, d_l_size, d_l_put, d_note_names, d_names_in, d_normal, d_Face_put, d_Face_hidden, d_refined, d_note, d_note_opened, d_fitted, d_hiding, d_seen_face, d_wanted, d_full_face, d_Face_init, d_Maker_init, d_maker_of, d_made_face, d_l_draw, d_l_deal, d_l_kind, d_l_word, d_l_name, d_l_hidden, d_l_put_all, d_l_hiding, d_l_face_made, d_l_greatest, d_l_know, d_l_far, d_l_moved, d_l_moved_item, d_l_moved_seal, d_l_known, d_l_alike, d_l_same, d_l_face, d_l_formals, d_l_seal, d_l_apart, d_l_direct, d_l_items, d_l_opened, d_l_given, d_law⟩ hbl
