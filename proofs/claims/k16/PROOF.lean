import PyProof.Rows.All
import Wide.All
import OpenK.AllK
import Wide.FinOn
import HandS.ForMost
import HandS.Exc
import HandS.TryOnly
import HandS.ExcOwn
import HandS.WordsExc
import HandS.ExcCtx
import HandS.TupAny
import HandS.IsInst
import HandS.Strs
import HandS.Wide
import HandS.Deep
import HandS.Star
import HandS.Style
import HandS.Text
import HandS.Zip
import KE.GoesMore
import KE.GoesEnum
import PyProof.Draws
import HandS.DictComp
import HandS.Property
import HandS.ClsMeth
import HandS.Conv
import HandS.Steps
import HandS.RaiseMore
import KE.KTupSum
import KE.DataMinMax
import HandS.SetFor
import HandS.More
import HandS.Codes
import HandS.Ends
import KE.KCallOwn
import HandS.Dict
import PyProof.Rows.SortStr
import HandS.OwnEq
import PySem.Challenge.RW_twostretches_k16_whole_round_distances
set_option Elab.async false
set_option linter.all false
set_option maxRecDepth 100000
set_option maxHeartbeats 4000000

/-! The deep layer: readings over data (D) with a map of the objects that change (MH). Part a: data, what stands for what, the judgements. -/
namespace DL
open PySem PySem.Spec PyProof.Rows L2

/-- data: what does not change, and addresses of what does -/
inductive D where
  | non | bl (b : Bool) | int (i : Int) | str (x : Str)
  | tup (xs : List D) | lst (xs : List D)
  | dk (ks : List Key) (vs : List D) | dt (ks : List (List Key)) (vs : List D)
  | obj (C : Str) (ns : List Str) (fs : List D)
  | ref (a : Addr)
  | scr (ns : List Int)
  | wtp (xs : List D)

/-- what changes -/
inductive MO where
  | lst (xs : List D)
  | dk (ks : List Key) (vs : List D) | dt (ks : List (List Key)) (vs : List D)
  | ins (C : Str) (ns : List Str) (fs : List D)
abbrev MH := Addr → Option MO
def MH.put (M : MH) (a : Addr) (o : MO) : MH := fun b => if b = a then some o else M b
def MH.del (M : MH) (a : Addr) : MH := fun b => if b = a then none else M b
theorem MH.put_same {M : MH} {a : Addr} {o : MO} : M.put a o a = some o := if_pos rfl
theorem MH.put_ne {M : MH} {a b : Addr} {o : MO} (h : b ≠ a) : M.put a o b = M b := if_neg h
theorem MH.put_put {M : MH} {a : Addr} {o u : MO} : (M.put a o).put a u = M.put a u := by
  funext b; unfold MH.put; split <;> rfl

abbrev Ex (F H : Hp) : Prop := ∀ a o, F a = some o → H a = some o
theorem Ex.refl (H : Hp) : Ex H H := fun _ _ h => h
theorem Ex.trans {F G H : Hp} (a : Ex F G) (b : Ex G H) : Ex F H := fun x o h => b x o (a x o h)
theorem Ex.new {H : Hp} {p : Addr} {o : HO} (h : H p = none) : Ex H (upd H p o) := fun a u e => by
  rw [upd_ne (ne_of_none e h)]; exact e
theorem Ex.free {F H : Hp} (e : Ex F H) {p : Addr} (h : H p = none) : F p = none := by
  cases q : F p with
  | none => rfl
  | some o => rw [e _ _ q] at h; cases h
/-- the same new object on both sides -/
theorem Ex.both {F H : Hp} (e : Ex F H) {p : Addr} {o : HO} : Ex (upd F p o) (upd H p o) := fun a u h => by
  by_cases q : a = p
  · subst q; rw [upd_same] at h ⊢; exact h
  · rw [upd_ne q] at h ⊢; exact e a u h
theorem Ex.mut {F H : Hp} (e : Ex F H) {p : Addr} {o : HO} (h : F p = none) : Ex F (upd H p o) := fun a u ha => by
  rw [upd_ne (ne_of_none ha h)]; exact e a u ha
theorem Ex.rd {F H : Hp} (e : Ex F H) {a : Addr} {u : HO} (h : Rd F a u) : Rd H a u := by
  rcases h with h | ⟨o, h⟩
  · exact .inl (e _ _ h)
  · exact .inr ⟨o, e _ _ h⟩
theorem Ex.sl {K : PySem.W.Frag} {F H : Hp} (e : Ex F H) {a : Addr} {xs : List V} (h : SqL K F a xs) : SqL K H a xs := by
  rcases h with h | h
  · exact .inl (e.rd h)
  · exact .inr h
theorem Ex.st {K : PySem.W.Frag} {F H : Hp} (e : Ex F H) {a : Addr} {xs : List V} (h : SqT K F a xs) : SqT K H a xs := by
  rcases h with h | h
  · exact .inl (e.rd h)
  · exact .inr h

/-- the class that the module names so -/
def clsA (K : PySem.W.Frag) (x : Str) : Addr := match PySem.W.nsIn K mainGlobals x with
  | some (some (.ref C)) => C
  | _ => 0
theorem clsA_of {K : PySem.W.Frag} {x : Str} {C : Addr} (h : PySem.W.nsIn K mainGlobals x = some (some (.ref C))) : clsA K x = C := by
  unfold clsA; rw [h]
/-- a tuple as it lies: it has no dict -/
def tob (its : Array Value) : Obj := { cls := .type "tuple", data := .seq its }
def TupF (F : Hp) (a : Addr) (vs : List V) : Prop := ∃ its, F a = some (.frz (tob its) (.tup vs))
theorem TupF.mono {F H : Hp} (e : Ex F H) {a : Addr} {vs : List V} (h : TupF F a vs) : TupF H a vs := let ⟨its, h⟩ := h; ⟨its, e _ _ h⟩
theorem SqT.fz {K : PySem.W.Frag} {H : Hp} {a : Addr} {vs : List V} (h : TupF H a vs) : SqT K H a vs := let ⟨_, h⟩ := h; .inl (.inr ⟨_, h⟩)
mutual
inductive Rp (K : PySem.W.Frag) (F : Hp) : V → D → Prop
  | non : Rp K F .non .non
  | bl (b : Bool) : Rp K F (.bl b) (.bl b)
  | int (i : Int) : Rp K F (.int i) (.int i)
  | str (x : Str) : Rp K F (.str x) (.str x)
  | tup {a : Addr} {vs : List V} {ds : List D} : TupF F a vs → RpL K F vs ds → Rp K F (.ref a) (.tup ds)
  | wtp {a : Addr} {vs : List V} {ds : List D} : SqT K F a vs → RpL K F vs ds → Rp K F (.ref a) (.wtp ds)
  | lst {a : Addr} {vs : List V} {ds : List D} : F a = some (.lst vs) → RpL K F vs ds → Rp K F (.ref a) (.lst ds)
  | scr {a : Addr} {ns : List Int} : SqL K F a (ns.map V.int) → Rp K F (.ref a) (.scr ns)
  | dk {a : Addr} {kvs : List (Key × V)} {ks : List Key} {ds : List D} : Rd F a (.dK kvs) → kvs.map (·.1) = ks → RpL K F (kvs.map (·.2)) ds → Rp K F (.ref a) (.dk ks ds)
  | dt {a : Addr} {kvs : List (List Key × V)} {ks : List (List Key)} {ds : List D} : Rd F a (.dT kvs) → kvs.map (·.1) = ks → RpL K F (kvs.map (·.2)) ds → Rp K F (.ref a) (.dt ks ds)
  | obj {a dx : Addr} {C : Str} {fs : List (Str × V)} {ns : List Str} {ds : List D} : F a = some (.ins (clsA K C) dx fs) → fs.map (·.1) = ns → RpL K F (fs.map (·.2)) ds → Rp K F (.ref a) (.obj C ns ds)
  | ref (a : Addr) : Rp K F (.ref a) (.ref a)
inductive RpL (K : PySem.W.Frag) (F : Hp) : List V → List D → Prop
  | nil : RpL K F [] []
  | cons {v : V} {vs : List V} {d : D} {ds : List D} : Rp K F v d → RpL K F vs ds → RpL K F (v :: vs) (d :: ds)
end

section
variable {K : PySem.W.Frag} {F F' H : Hp}
mutual
theorem Rp.mono (e : Ex F F') : ∀ {v : V} {d : D}, Rp K F v d → Rp K F' v d
  | _, _, .non => .non
  | _, _, .bl b => .bl b
  | _, _, .int i => .int i
  | _, _, .str x => .str x
  | _, _, .tup h r => .tup (h.mono e) (RpL.mono e r)
  | _, _, .wtp h r => .wtp (e.st h) (RpL.mono e r)
  | _, _, .lst h r => .lst (e _ _ h) (RpL.mono e r)
  | _, _, .scr h => .scr (e.sl h)
  | _, _, .dk h k r => .dk (e.rd h) k (RpL.mono e r)
  | _, _, .dt h k r => .dt (e.rd h) k (RpL.mono e r)
  | _, _, .obj h k r => .obj (e _ _ h) k (RpL.mono e r)
  | _, _, .ref a => .ref a
theorem RpL.mono (e : Ex F F') : ∀ {vs : List V} {ds : List D}, RpL K F vs ds → RpL K F' vs ds
  | _, _, .nil => .nil
  | _, _, .cons h r => .cons (Rp.mono e h) (RpL.mono e r)
end
theorem RpL.length : ∀ {vs : List V} {ds : List D}, RpL K F vs ds → vs.length = ds.length
  | _, _, .nil => rfl
  | _, _, .cons _ r => congrArg (· + 1) (RpL.length r)
theorem RpL.append : ∀ {vs ws : List V} {ds es : List D}, RpL K F vs ds → RpL K F ws es → RpL K F (vs ++ ws) (ds ++ es)
  | _, _, _, _, .nil, s => s
  | _, _, _, _, .cons h r, s => .cons h (RpL.append r s)
theorem RpL.take : ∀ {vs : List V} {ds : List D} (n : Nat), RpL K F vs ds → RpL K F (vs.take n) (ds.take n)
  | _, _, 0, _ => .nil
  | _, _, _ + 1, .nil => .nil
  | _, _, n + 1, .cons h r => .cons h (RpL.take n r)
theorem RpL.drop : ∀ {vs : List V} {ds : List D} (n : Nat), RpL K F vs ds → RpL K F (vs.drop n) (ds.drop n)
  | _, _, 0, r => r
  | _, _, _ + 1, .nil => .nil
  | _, _, n + 1, .cons _ r => RpL.drop n r
theorem RpL.get : ∀ {vs : List V} {ds : List D} {i : Nat} {d : D}, RpL K F vs ds → ds[i]? = some d → ∃ v, vs[i]? = some v ∧ Rp K F v d
  | _, _, _, _, .nil, e => by simp at e
  | _, _, 0, _, .cons h _, e => by simp at e; subst e; exact ⟨_, rfl, h⟩
  | _, _, i + 1, d, .cons _ r, e => by
    obtain ⟨v, h1, h2⟩ := RpL.get (i := i) (d := d) r (by simpa using e)
    exact ⟨v, by simpa using h1, h2⟩
theorem RpL.getV : ∀ {vs : List V} {ds : List D} {i : Nat} {v : V}, RpL K F vs ds → vs[i]? = some v → ∃ d, ds[i]? = some d ∧ Rp K F v d
  | _, _, _, _, .nil, e => by simp at e
  | _, _, 0, _, .cons h _, e => by simp at e; subst e; exact ⟨_, rfl, h⟩
  | _, _, i + 1, d, .cons _ r, e => by
    obtain ⟨v, h1, h2⟩ := RpL.getV (i := i) r (by simpa using e)
    exact ⟨v, by simpa using h1, h2⟩
theorem RpL.set : ∀ {vs : List V} {ds : List D} {v : V} {d : D} (i : Nat), RpL K F vs ds → Rp K F v d → RpL K F (vs.set i v) (ds.set i d)
  | _, _, _, _, _, .nil, _ => .nil
  | _, _, _, _, 0, .cons _ r, h => .cons h r
  | _, _, _, _, i + 1, .cons q r, h => .cons q (RpL.set i r h)
theorem RpL.reverse {vs : List V} {ds : List D} (r : RpL K F vs ds) : RpL K F vs.reverse ds.reverse := by
  have key : ∀ {vs : List V} {ds : List D}, RpL K F vs ds → ∀ {ws : List V} {es : List D}, RpL K F ws es → RpL K F (vs.reverseAux ws) (ds.reverseAux es) := by
    intro vs
    induction vs with
    | nil => intro ds r ws es s; cases r; exact s
    | cons v vs ih => intro ds r ws es s; cases r with | cons h r => exact ih r (.cons h s)
  exact key r .nil
theorem RpL.dropLast {vs : List V} {ds : List D} (r : RpL K F vs ds) : RpL K F vs.dropLast ds.dropLast := by
  rw [List.dropLast_eq_take, List.dropLast_eq_take, r.length]; exact r.take _
theorem RpL.eraseIdx : ∀ {vs : List V} {ds : List D} (i : Nat), RpL K F vs ds → RpL K F (vs.eraseIdx i) (ds.eraseIdx i)
  | _, _, _, .nil => .nil
  | _, _, 0, .cons _ r => r
  | _, _, i + 1, .cons h r => .cons h (RpL.eraseIdx i r)
theorem RpL.one {v : V} {d : D} (h : Rp K F v d) : RpL K F [v] [d] := .cons h .nil
theorem RpL.snoc {vs : List V} {ds : List D} {v : V} {d : D} (r : RpL K F vs ds) (h : Rp K F v d) : RpL K F (vs ++ [v]) (ds ++ [d]) := r.append (.one h)
end

/-- what an object that changes looks like -/
def MoOk (K : PySem.W.Frag) (F H : Hp) (a : Addr) : MO → Prop
  | .lst ds => ∃ vs, H a = some (.lst vs) ∧ RpL K F vs ds
  | .dk ks ds => ∃ kvs, H a = some (.dK kvs) ∧ kvs.map (·.1) = ks ∧ RpL K F (kvs.map (·.2)) ds
  | .dt ks ds => ∃ kvs, H a = some (.dT kvs) ∧ kvs.map (·.1) = ks ∧ RpL K F (kvs.map (·.2)) ds
  | .ins C ns ds => ∃ dx fs, H a = some (.ins (clsA K C) dx fs) ∧ fs.map (·.1) = ns ∧ RpL K F (fs.map (·.2)) ds
theorem MoOk.there {K : PySem.W.Frag} {F H : Hp} {a : Addr} : ∀ {o : MO}, MoOk K F H a o → ∃ u, H a = some u
  | .lst _, ⟨_, h, _⟩ => ⟨_, h⟩
  | .dk _ _, ⟨_, h, _⟩ => ⟨_, h⟩
  | .dt _ _, ⟨_, h, _⟩ => ⟨_, h⟩
  | .ins _ _ _, ⟨_, _, h, _⟩ => ⟨_, h⟩
theorem MoOk.mono {K : PySem.W.Frag} {F F' H H' : Hp} {a : Addr} (e : Ex F F') (h : H' a = H a) : ∀ {o : MO}, MoOk K F H a o → MoOk K F' H' a o
  | .lst _, ⟨_, q, r⟩ => ⟨_, h.trans q, r.mono e⟩
  | .dk _ _, ⟨_, q, k, r⟩ => ⟨_, h.trans q, k, r.mono e⟩
  | .dt _ _, ⟨_, q, k, r⟩ => ⟨_, h.trans q, k, r.mono e⟩
  | .ins _ _ _, ⟨_, _, q, k, r⟩ => ⟨_, _, h.trans q, k, r.mono e⟩
/-- the state: F stands still within H, what M tells stands apart from F -/
structure G (K : PySem.W.Frag) (F : Hp) (M : MH) (H : Hp) : Prop where
  ex : Ex F H
  mo : ∀ a o, M a = some o → F a = none ∧ MoOk K F H a o
section
variable {K : PySem.W.Frag} {F F' H : Hp} {M : MH}
/-- a new object that stands still -/
theorem G.fresh (g : G K F M H) {p : Addr} (h : H p = none) : F p = none ∧ M p = none := by
  refine ⟨g.ex.free h, ?_⟩
  cases q : M p with
  | none => rfl
  | some o =>
    obtain ⟨u, z⟩ := (g.mo p o q).2.there
    rw [h] at z; cases z
theorem G.new (g : G K F M H) {p : Addr} (h : H p = none) (o : HO) : G K (upd F p o) M (upd H p o) ∧ Ex F (upd F p o) := by
  have h1 := g.fresh h
  refine ⟨⟨g.ex.both, fun a u q => ?_⟩, Ex.new h1.1⟩
  have na : a ≠ p := fun z => by rw [z, h1.2] at q; cases q
  obtain ⟨h2, h3⟩ := g.mo a u q
  exact ⟨by rw [upd_ne na]; exact h2, h3.mono (Ex.new h1.1) (upd_ne na)⟩
/-- a new object that may change -/
theorem G.newM (g : G K F M H) {p : Addr} (h : H p = none) {o : HO} {u : MO} (k : MoOk K F (upd H p o) p u) : G K F (M.put p u) (upd H p o) := by
  have h1 := g.fresh h
  refine ⟨g.ex.mut h1.1, fun a u' q => ?_⟩
  by_cases na : a = p
  · subst na
    rw [MH.put_same] at q; cases q
    exact ⟨h1.1, k⟩
  · rw [MH.put_ne na] at q
    obtain ⟨h2, h3⟩ := g.mo a u' q
    exact ⟨h2, h3.mono (Ex.refl F) (upd_ne na)⟩
/-- one that changes -/
theorem G.set (g : G K F M H) {p : Addr} {u0 : MO} (h : M p = some u0) {o : HO} {u : MO} (k : MoOk K F (upd H p o) p u) : G K F (M.put p u) (upd H p o) := by
  have h1 := (g.mo p u0 h).1
  refine ⟨g.ex.mut h1, fun a u' q => ?_⟩
  by_cases na : a = p
  · subst na
    rw [MH.put_same] at q; cases q
    exact ⟨h1, k⟩
  · rw [MH.put_ne na] at q
    obtain ⟨h2, h3⟩ := g.mo a u' q
    exact ⟨h2, h3.mono (Ex.refl F) (upd_ne na)⟩
/-- something is no more spoken of -/
theorem G.less (g : G K F M H) {M' : MH} (h : ∀ a o, M' a = some o → M a = some o) : G K F M' H := ⟨g.ex, fun a o q => g.mo a o (h a o q)⟩
end

/-! ### the readings -/
abbrev DSt := List (Option D)
abbrev DQ := D → MH → Prop
/-- an exception: its class, its attributes -/
structure Er where
  cls : Value
  ns : List Str
  fs : List D
abbrev EK := Er → DSt → MH → Prop
abbrev DE := DSt → MH → DQ → EK → Prop
abbrev DT := DSt → MH → (Bool → MH → Prop) → EK → Prop
abbrev DA := DSt → MH → (List D → MH → Prop) → EK → Prop
structure DEnds where
  nx : DSt → MH → Prop
  rt : DQ
  bk : DSt → MH → Prop
  ct : DSt → MH → Prop
abbrev DS := DEnds → EK → DSt → MH → Prop

def RpO (K : PySem.W.Frag) (F : Hp) : Option V → Option D → Prop
  | _, none => True
  | some v, some d => Rp K F v d
  | none, some _ => False
abbrev RpS (K : PySem.W.Frag) (F : Hp) : L2.St → DSt → Prop := Paired (RpO K F)
theorem RpO.mono {K : PySem.W.Frag} {F F' : Hp} (e : Ex F F') : ∀ {v : Option V} {d : Option D}, RpO K F v d → RpO K F' v d
  | _, none, _ => trivial
  | some _, some _, h => Rp.mono e h
  | none, some _, h => h
theorem RpS.mono {K : PySem.W.Frag} {F F' : Hp} (e : Ex F F') : ∀ {σ : L2.St} {σ' : DSt}, RpS K F σ σ' → RpS K F' σ σ'
  | _, _, .nil => .nil
  | _, _, .cons h r => .cons (RpO.mono e h) (RpS.mono e r)
theorem RpS.get {K : PySem.W.Frag} {F : Hp} : ∀ {σ : L2.St} {σ' : DSt} {i : Nat} {d : D}, RpS K F σ σ' → σ'[i]? = some (some d) → ∃ v, σ[i]? = some (some v) ∧ Rp K F v d
  | _, _, _, _, .nil, e => by simp at e
  | x :: _, _, 0, d, .cons h _, e => by
    simp at e; subst e
    cases x with
    | none => exact h.elim
    | some v => exact ⟨v, rfl, h⟩
  | _, _, i + 1, d, .cons _ r, e => by
    obtain ⟨v, h1, h2⟩ := RpS.get (i := i) (d := d) r (by simpa using e)
    exact ⟨v, by simpa using h1, h2⟩
theorem RpS.set {K : PySem.W.Frag} {F : Hp} : ∀ {σ : L2.St} {σ' : DSt} (i : Nat) {v : Option V} {d : Option D}, RpO K F v d → RpS K F σ σ' → RpS K F (σ.set i v) (σ'.set i d)
  | _, _, _, _, _, _, .nil => .nil
  | _, _, 0, _, _, h, .cons _ r => .cons h r
  | _, _, i + 1, _, _, h, .cons q r => .cons q (RpS.set i h r)

theorem RpS.set1 {K : PySem.W.Frag} {F : Hp} {σ : L2.St} {σ' : DSt} (r : RpS K F σ σ') (i : Nat) {v : V} {d : D} (h : Rp K F v d) : RpS K F (σ.set i (some v)) (σ'.set i (some d)) := r.set i (v := some v) (d := some d) h

def LQ (K : PySem.W.Frag) (F : Hp) (Q : DQ) : VK := fun v H => ∃ F' M' y, Ex F F' ∧ G K F' M' H ∧ Rp K F' v y ∧ Q y M'
def LB (K : PySem.W.Frag) (F : Hp) (Q : Bool → MH → Prop) : Bool → Hp → Prop := fun b H => ∃ F' M', Ex F F' ∧ G K F' M' H ∧ Q b M'
def LA (K : PySem.W.Frag) (F : Hp) (Q : List D → MH → Prop) : List V → Hp → Prop := fun vs H => ∃ F' M' ys, Ex F F' ∧ G K F' M' H ∧ RpL K F' vs ys ∧ Q ys M'
def LS (K : PySem.W.Frag) (F : Hp) (Q : DSt → MH → Prop) : L2.St → Hp → Prop := fun σ H => ∃ F' M' σ', Ex F F' ∧ G K F' M' H ∧ RpS K F' σ σ' ∧ Q σ' M'
def LE (K : PySem.W.Frag) (F : Hp) (D : DEnds) : Ends := { nx := LS K F D.nx, rt := LQ K F D.rt, bk := LS K F D.bk, ct := LS K F D.ct }
/-- an exception as it lies: its own dict stands still -/
def ErOk (K : PySem.W.Frag) (F : Hp) (cls : Value) (d : Option Addr) (er : Er) : Prop :=
  er.cls = cls ∧ ((d = none ∧ er.ns = [] ∧ er.fs = []) ∨ ∃ dd fs, d = some dd ∧ F dd = some (.xd fs) ∧ fs.map (·.1) = er.ns ∧ RpL K F (fs.map (·.2)) er.fs)
def LX (K : PySem.W.Frag) (F0 : Hp) (E : EK) : WX := fun cls d σ H => ∃ F M σ' er, Ex F0 F ∧ G K F M H ∧ RpS K F σ σ' ∧ ErOk K F cls d er ∧ E er σ' M
def TkD (X : Cx) (F0 : Hp) (E : EK) : Prop := L2N.Takes X (LX X.K F0 E)

/-- the law's run: the program, the world, what the top has written -/
structure Wl where
  P : Program
  w : World
  K : PySem.W.Frag
  mg : Str → Option Value
  base : Heap
/-- what a text's place is, closed: its names by slot, its scope, the room for calls, which names its stores may name -/
structure Sx where
  N : List Str
  sc : Scope
  k : Nat
  calm : Bool
  own : Str → Bool
structure Fit (Ω : Wl) (τ : Sx) (X : Cx) : Prop where
  P : X.prog = Ω.P
  w : X.w = Ω.w
  K : X.K = Ω.K
  mg : X.mg = Ω.mg
  base : X.base = Ω.base
  N : X.N = τ.N
  sc : X.env.scope = τ.sc
  room : Room τ.k X.A
  calm : τ.calm = true → X.calm = true
  nd : τ.N.Nodup
  fn : ∀ x, τ.own x = true → L2.Loc τ.sc x → X.fn x = true ∨ X.env.scope.names.lookup x = some .local
  po : PassesOwn (model X.prog X.w) X.A X.env X.xe
  gd : X.A.guards = some []

def wE (X : Cx) (e : Expr) : TE := fun σ H Q => ∀ pins s, Inv X pins σ H s → wpAny (model X.prog X.w) X.A (eval e X.env) (EP X pins σ Q) X.xe s
theorem pe_wE {X : Cx} {e : Expr} : PE X e (wE X e) := ⟨fun pins s _ _ _ I h => h pins s I⟩
theorem wE_of {X : Cx} {e : Expr} {t : TE} (h : PE X e t) {σ : L2.St} {H : Hp} {Q : VK} (q : t σ H Q) : wE X e σ H Q := fun pins s I => h.run pins s σ H Q I q
theorem wE_mono {X : Cx} {e : Expr} {σ : L2.St} {H : Hp} {Q Q' : VK} (h : wE X e σ H Q) (k : ∀ v H', Q v H' → Q' v H') : wE X e σ H Q' := fun pins s I =>
  thn (h pins s I) fun _ _ ⟨v, H', I', r, q⟩ => ⟨v, H', I', r, k v H' q⟩
def wT (X : Cx) (e : Expr) : TT := fun σ H Q => ∀ pins s, Inv X pins σ H s → wpAny (model X.prog X.w) X.A (isTrue e X.env (eval e X.env)) (TP X pins σ Q) X.xe s
theorem pt_wT {X : Cx} {e : Expr} : PT X e (wT X e) := ⟨fun pins s _ _ _ I h => h pins s I⟩
theorem wT_of {X : Cx} {e : Expr} {t : TT} (h : PT X e t) {σ : L2.St} {H : Hp} {Q : Bool → Hp → Prop} (q : t σ H Q) : wT X e σ H Q := fun pins s I => h.run pins s σ H Q I q
theorem wT_mono {X : Cx} {e : Expr} {σ : L2.St} {H : Hp} {Q Q' : Bool → Hp → Prop} (h : wT X e σ H Q) (k : ∀ v H', Q v H' → Q' v H') : wT X e σ H Q' := fun pins s I =>
  thn (h pins s I) fun _ _ ⟨H', I', q⟩ => ⟨H', I', k _ H' q⟩
def wA (X : Cx) (es : List Expr) : TA := fun σ H Q => ∀ pos pins s, Inv X pins σ H s → wpAny (model X.prog X.w) X.A (spliced (backTo pos (starEach es X.env))) (AP X pins σ Q) X.xe s
theorem pa_wA {X : Cx} {es : List Expr} : PA X es (wA X es) := ⟨fun pos pins s _ _ _ I h => h pos pins s I⟩
theorem wA_of {X : Cx} {es : List Expr} {t : TA} (h : PA X es t) {σ : L2.St} {H : Hp} {Q : List V → Hp → Prop} (q : t σ H Q) : wA X es σ H Q := fun pos pins s I => h.run pos pins s σ H Q I q
theorem wA_mono {X : Cx} {es : List Expr} {σ : L2.St} {H : Hp} {Q Q' : List V → Hp → Prop} (h : wA X es σ H Q) (k : ∀ v H', Q v H' → Q' v H') : wA X es σ H Q' := fun pos pins s I =>
  thn (h pos pins s I) fun _ _ ⟨v, H', I', r, q⟩ => ⟨v, H', I', r, k v H' q⟩
def wS (X : Cx) (st : Stmt) : TS := fun D σ H => ∀ pins s, Inv X pins σ H s → wpAny (model X.prog X.w) X.A (exec st X.env) (SP X pins D) X.xe s
theorem ps_wS {X : Cx} {st : Stmt} : PS X st (wS X st) := ⟨fun pins s _ _ _ I h => h pins s I⟩
theorem wS_of {X : Cx} {st : Stmt} {t : TS} (h : PS X st t) {σ : L2.St} {H : Hp} {D : Ends} (q : t D σ H) : wS X st D σ H := fun pins s I => h.run pins s σ H D I q
def wSs (X : Cx) (st : List Stmt) : TS := fun D σ H => ∀ pins s, Inv X pins σ H s → wpAny (model X.prog X.w) X.A (execs st X.env) (SP X pins D) X.xe s
theorem pss_wSs {X : Cx} {st : List Stmt} : PSs X st (wSs X st) := ⟨fun pins s _ _ _ I h => h pins s I⟩
theorem wSs_of {X : Cx} {st : List Stmt} {t : TS} (h : PSs X st t) {σ : L2.St} {H : Hp} {D : Ends} (q : t D σ H) : wSs X st D σ H := fun pins s I => h.run pins s σ H D I q
structure Ends.Le (D D' : Ends) : Prop where
  nx : ∀ σ H, D.nx σ H → D'.nx σ H
  rt : ∀ v H, D.rt v H → D'.rt v H
  bk : ∀ σ H, D.bk σ H → D'.bk σ H
  ct : ∀ σ H, D.ct σ H → D'.ct σ H
theorem SP.mono {X : Cx} {pins : List (Addr × Obj)} {D D' : Ends} (l : Ends.Le D D') : ∀ (f : Flow) (s : Shared), SP X pins D f s → SP X pins D' f s
  | .next, _, ⟨σ', H', I, q⟩ => ⟨σ', H', I, l.nx _ _ q⟩
  | .brk, _, ⟨σ', H', I, q⟩ => ⟨σ', H', I, l.bk _ _ q⟩
  | .cont, _, ⟨σ', H', I, q⟩ => ⟨σ', H', I, l.ct _ _ q⟩
  | .ret _, _, ⟨v, σ', H', I, r, q⟩ => ⟨v, σ', H', I, r, l.rt _ _ q⟩
theorem wS_mono {X : Cx} {st : Stmt} {σ : L2.St} {H : Hp} {D D' : Ends} (h : wS X st D σ H) (l : Ends.Le D D') : wS X st D' σ H := fun pins s I => thn (h pins s I) (SP.mono l)
theorem wSs_mono {X : Cx} {st : List Stmt} {σ : L2.St} {H : Hp} {D D' : Ends} (h : wSs X st D σ H) (l : Ends.Le D D') : wSs X st D' σ H := fun pins s I => thn (h pins s I) (SP.mono l)

section
variable {K : PySem.W.Frag} {F F' : Hp}
theorem LQ.back (e : Ex F F') {Q : DQ} {v : V} {H : Hp} : LQ K F' Q v H → LQ K F Q v H := fun ⟨F1, M1, y, e1, g, r, q⟩ => ⟨F1, M1, y, e.trans e1, g, r, q⟩
theorem LB.back (e : Ex F F') {Q : Bool → MH → Prop} {b : Bool} {H : Hp} : LB K F' Q b H → LB K F Q b H := fun ⟨F1, M1, e1, g, q⟩ => ⟨F1, M1, e.trans e1, g, q⟩
theorem LA.back (e : Ex F F') {Q : List D → MH → Prop} {v : List V} {H : Hp} : LA K F' Q v H → LA K F Q v H := fun ⟨F1, M1, y, e1, g, r, q⟩ => ⟨F1, M1, y, e.trans e1, g, r, q⟩
theorem LS.back (e : Ex F F') {Q : DSt → MH → Prop} {σ : L2.St} {H : Hp} : LS K F' Q σ H → LS K F Q σ H := fun ⟨F1, M1, y, e1, g, r, q⟩ => ⟨F1, M1, y, e.trans e1, g, r, q⟩
theorem LE.back (e : Ex F F') {D : DEnds} : Ends.Le (LE K F' D) (LE K F D) := ⟨fun _ _ => LS.back e, fun _ _ => LQ.back e, fun _ _ => LS.back e, fun _ _ => LS.back e⟩
theorem LQ.here {M : MH} {H : Hp} {v : V} {y : D} {Q : DQ} (g : G K F M H) (r : Rp K F v y) (q : Q y M) : LQ K F Q v H := ⟨F, M, y, Ex.refl F, g, r, q⟩
end

/-- so that a judgement is not seen through -/
structure Hd (p : Prop) : Prop where
  run : p
/-- an expression reads as d -/
def DP (Ω : Wl) (τ : Sx) (e : Expr) (d : DE) : Prop := Hd (∀ X, Fit Ω τ X → ∀ F0 E, TkD X F0 E → ∀ F M H σ σ' Q, Ex F0 F → G X.K F M H → RpS X.K F σ σ' → d σ' M Q E → wE X e σ H (LQ X.K F Q))
def DPT (Ω : Wl) (τ : Sx) (e : Expr) (d : DT) : Prop := Hd (∀ X, Fit Ω τ X → ∀ F0 E, TkD X F0 E → ∀ F M H σ σ' Q, Ex F0 F → G X.K F M H → RpS X.K F σ σ' → d σ' M Q E → wT X e σ H (LB X.K F Q))
def DPA (Ω : Wl) (τ : Sx) (es : List Expr) (d : DA) : Prop := Hd (∀ X, Fit Ω τ X → ∀ F0 E, TkD X F0 E → ∀ F M H σ σ' Q, Ex F0 F → G X.K F M H → RpS X.K F σ σ' → d σ' M Q E → wA X es σ H (LA X.K F Q))
def DPS (Ω : Wl) (τ : Sx) (st : Stmt) (d : DS) : Prop := Hd (∀ X, Fit Ω τ X → ∀ F0 E, TkD X F0 E → ∀ F M H σ σ' D, Ex F0 F → G X.K F M H → RpS X.K F σ σ' → d D E σ' M → wS X st (LE X.K F D) σ H)
def DPSs (Ω : Wl) (τ : Sx) (st : List Stmt) (d : DS) : Prop := Hd (∀ X, Fit Ω τ X → ∀ F0 E, TkD X F0 E → ∀ F M H σ σ' D, Ex F0 F → G X.K F M H → RpS X.K F σ σ' → d D E σ' M → wSs X st (LE X.K F D) σ H)
end DL

/-! The deep layer, part ab: tuples that are known to have no dict: made, cut, joined, asked. -/
namespace DL
open PySem PySem.Spec PyProof.Rows L2
section
variable {X : Cx} {pins : List (Addr × Obj)} {σ : L2.St} {H : Hp} {s : Shared}
theorem tob_new {h : Heap} {its : Array Value} : (h.push (tob its)).get? h.objs.size = some (tob its) := Heap.get?_push_size _ rfl
/-- a new tuple -/
theorem tob_laid {its : List Value} {vs : List V} (I : Inv X pins σ H s) (r : Vals vs its) (hz : vs.length ≤ sizeLine) : Inv X pins σ (upd H s.heap.objs.size (.frz (tob its.toArray) (.tup vs))) { s with heap := s.heap.push (tob its.toArray) } := by
  refine I.laid (t' := s.toks) (fun b u e => Heap.get?_push_of_some _ e) (Nat.le_refl _) ?_
  exact ⟨tob_new, hz, its, r, tob its.toArray, tob_new, rfl, 0, rfl⟩
def tupN (Q : VK) (H : Hp) (vs : List V) : Prop := ∀ p its, H p = none → Q (.ref p) (upd H p (.frz (tob its) (.tup vs)))
theorem tob_ep {its : List Value} {vs : List V} {Q : VK} (I : Inv X pins σ H s) (r : Vals vs its) (hz : vs.length ≤ sizeLine) (q : tupN Q H vs) : EP X pins σ Q (.ref s.heap.objs.size) { s with heap := s.heap.push (tob its.toArray) } :=
  ⟨.ref _, _, tob_laid I r hz, rfl, q _ _ (I.hok.fresh (Nat.le_refl _))⟩
/-- a display -/
def tTupF (ta : TA) : TE := fun σ H Q => ta σ H fun vs H1 => vs.length ≤ sizeLine ∧ tupN Q H1 vs
theorem pe_tupF {es : List Expr} {x1 : Nat} {pos : Pos} {ta : TA} (ha : PA X es ta) : PE X (.Tuple es x1 pos) (tTupF ta) := by
  refine ⟨fun pins s σ H Q I h => wpAny_Tuple_spliced (thn (ha.run pos pins s σ H _ I h) ?_)⟩
  rintro us s1 ⟨vs, H1, I1, r1, hz, q⟩
  exact ⟨by rw [← r1.length]; exact hz, tob_ep I1 r1 hz q⟩
/-- tuple(xs) of a list; of a tuple -/
theorem call_tupF : CallR X (.type "tuple") (fun xs H Q => ∃ p ys, xs = [.ref p] ∧ ((SqL X.K H p ys ∧ tupN Q H ys) ∨ (SqT X.K H p ys ∧ Q (.ref p) H))) := by
  rintro pins s σ H xs us Q I rv ⟨p, ys, rfl, h⟩
  obtain ⟨u, rfl, ru⟩ := rv.one
  obtain rfl : u = Value.ref p := ru
  rcases h with ⟨h1, h2⟩ | ⟨h1, h2⟩
  · obtain ⟨its, r1, pl, hz⟩ := I.list h1
    refine call_tuple_list pl.isList (fun h' kp => ?_) (by rw [List.size_toArray, ← r1.length]; exact hz)
    exact tob_ep (s := { s with heap := h' }) (I.kept (t' := s.toks) kp) r1 hz h2
  · obtain ⟨its, r1, pl, hz⟩ := I.tuple h1
    exact call_tuple_same pl ⟨.ref p, H, I, rfl, h2⟩
/-- t + u -/
def rCatF (K : PySem.W.Frag) : R2 := fun x y H Q => ∃ a b xs ys, x = .ref a ∧ y = .ref b ∧ SqT K H a xs ∧ SqT K H b ys ∧ xs.length + ys.length ≤ sizeLine ∧ (xs = [] → Q (.ref b) H) ∧ (ys = [] → Q (.ref a) H) ∧ tupN Q H (xs ++ ys)
theorem op_catF : OpR X (binaryOp .Add) (rCatF X.K) := by
  rintro pins s σ H x y v u Q I rx ry ⟨a, b, xs, ys, rfl, rfl, ha, hb, hz, q0, q1, q2⟩
  obtain rfl : v = Value.ref a := rx
  obtain rfl : u = Value.ref b := ry
  obtain ⟨is1, r1, p1, _⟩ := I.tuple ha
  obtain ⟨is2, r2, p2, _⟩ := I.tuple hb
  cases xs with
  | nil => cases r1; exact cat_tup0 p1 p2 ⟨.ref b, H, I, rfl, q0 rfl⟩
  | cons x0 xr =>
    refine HT.cat_tup p1 p2 (fun z => ?_) (fun z => ⟨.ref a, H, I, rfl, q1 (r2.nil_iff.mp z)⟩) (fun z => ?_) (by rw [← r1.length, ← r2.length]; exact hz)
    · have := r1.nil_iff.mp z; cases this
    · exact tob_ep I (r1.append r2) (by rw [List.length_append]; exact hz) q2
/-- t[lo:hi] -/
def rSlF (K : PySem.W.Frag) : V → Option Int → Option Int → Hp → VK → Prop := fun x lo hi H Q => ∃ a xs, x = .ref a ∧ SqT K H a xs ∧ (HT.sIx xs.length 0 lo = 0 ∧ HT.sIx xs.length xs.length hi = xs.length → Q (.ref a) H) ∧ tupN Q H (cutV xs lo hi)
theorem sl_tupF : SlR X (rSlF X.K) := by
  rintro pins s σ H x v vl vu lo hi sl Q I rx hs pl pu ⟨a, xs, rfl, hx, q1, q2⟩
  obtain rfl : v = Value.ref a := rx
  obtain ⟨its, r1, ht, hz⟩ := I.tuple hx
  have hl : its.toArray.size = xs.length := by rw [List.size_toArray]; exact r1.length.symm
  refine ⟨"tuple", _, PyProof.Rows.slot_tuple_getitem.lookup, ht.typeIs, ?_⟩
  by_cases hw : HT.sIx xs.length 0 lo = 0 ∧ HT.sIx xs.length xs.length hi = xs.length
  · exact getItem_tuple_whole ht hs pl pu (by rw [hl]; exact hw) ⟨.ref a, H, I, rfl, q1 hw⟩
  · refine HT.getItem_tuple_cut ht hs pl pu (by rw [hl]; exact hw) ?_ (by rw [hl]; exact hz)
    rw [hl]
    exact tob_ep I ((r1.drop _).take _) (Nat.le_trans (cutV_length xs lo hi) hz) q2
/-- isinstance(x, c), x also a tuple -/
def rIsiF (K : PySem.W.Frag) : List V → Hp → VK → Prop := fun xs H Q => ∃ (x c : V) (t u : Value) (b : Bool), xs = [x, c] ∧ ClsV c u ∧ (TyX K H x t ∨ ∃ a ys, x = .ref a ∧ SqT K H a ys ∧ t = .type "tuple") ∧ PySem.W.kitOne K t u = some b ∧ Q (.bl b) H
theorem call_isiF : CallR X (.builtin "isinstance") (rIsiF X.K) := by
  rintro pins s σ H xs us Q I rv ⟨x, c, t, u, b, rfl, k, ty, e, q⟩
  rcases ty with ty | ⟨a, ys, rfl, hs, rfl⟩
  · exact call_isi pins s σ H _ us Q I rv ⟨x, c, t, u, b, rfl, k, ty, e, q⟩
  · obtain ⟨u1, u2, rfl, r1, r2⟩ := rv.two
    have e2 := k.eq r2
    subst e2
    obtain rfl : u1 = Value.ref a := r1
    obtain ⟨its, _, ⟨o, h1, h2, _⟩, _⟩ := I.tuple hs
    exact PySem.W.kia_one PySem.W.kitx_tuple I.kIn ⟨o, h1, h2⟩ e (fun z => nomatch z) fun tk => ⟨.bl b, H, I.tok tk, rfl, q⟩
/-- o.m(..) of a tuple that has no dict -/
def tBMF (r : V → List V → Hp → VK → Prop) (to : TE) (t : TA) : TE := fun σ H Q => to σ H fun x H1 => (∃ a vs, x = .ref a ∧ TupF H1 a vs) ∧ t σ H1 fun vs H2 => r x vs H2 Q
theorem pe_bmF {name : Str} {id : String} {r : V → List V → Hp → VK → Prop} {o e : Expr} {es : List Expr} {to : TE} {t : TA} {apos cpos : Pos} (pa : PlainAttrs "tuple") (slot : Slot "tuple" name id) (hty : typeOf (.builtin id) = pure (.type "method_descriptor")) (hm : MtR X id r) (ho : PE X o to) (ha : PA X (e :: es) t)
    (hbase : attributeBase o name X.env (eval o X.env) = eval o X.env)
    (hfew : ((backTo cpos (starEach (e :: es) X.env)).all (fun x => !x.1) && (backToKw cpos (keywordEach [] X.env)).all (fun x => x.1.isSome) && decide ((e :: es).length + ([] : List Keyword).length + (if ([] : List Keyword).isEmpty then 0 else 1) < 30)) = true)
    (hline : (apos.endLine == cpos.line) = true) (hs : starEach (e :: es) X.env = (false, eval e X.env) :: starEach es X.env) (hplain : (backTo cpos (starEach es X.env)).any (·.1) = false) :
    PE X (.Call (.Attribute o name apos) (e :: es) [] cpos) (tBMF r to t) := by
  refine ⟨fun pins s σ H Q I h => wpAny_Call_method_late hbase hfew hline rfl (thn (ho.run pins s σ H _ I h) ?_)⟩
  rintro v s1 ⟨x, H1, I1, rx, ⟨a, vs, rfl, its, hF⟩, q⟩
  obtain rfl : v = Value.ref a := rx
  have h1 : s1.heap.get? a = some (tob its) := (I1.hok a _ hF).1
  refine ⟨"tuple", id, pa, slot, hty, ⟨_, h1, rfl⟩, fun b hb => by cases hb; exact ⟨_, h1, rfl⟩, ?_⟩
  have hA := ha.run cpos pins s1 σ H1 _ I1 q
  rw [hs] at hA ⊢
  refine Calls.callWith_builtin (by show (false || (backTo cpos (starEach es X.env)).any (·.1)) = false; rw [hplain]; rfl) (Calls.evalArgs_plain ?_)
  exact thn hA fun us s2 ⟨ws, H2, I2, r2, q2⟩ => hm pins s2 σ H2 (.ref a) ws _ us Q I2 rfl r2 q2
end
end DL

/-! The deep layer, part b: names, operators, comparisons, tests, displays, subscripts. -/
namespace DL
open PySem PySem.Spec PyProof.Rows L2
section
variable {Ω : Wl} {τ : Sx} {X : Cx} {a b c e : Expr} {es rest : List Expr} {da db dc de : DE} {ta tb : DT} {tl tr : DA} {pos p : Pos} {x : Str}

/-! ### names -/
def dVar (i : Nat) : DE := fun σ M Q _ => match σ[i]? with
  | some (some d) => Q d M
  | _ => False
def dC (d : D) : DE := fun _ M Q _ => Q d M
/-- a scope: which slots are seen (vs) and may be stored (ls), which names are the module's (gs) -/
structure ScOk (N : List Str) (vs : List Nat) (gs : List Str) (sc : Scope) : Prop where
  vis : ∀ i ∈ vs, ∀ x, N[i]? = some x → Vis sc x
  gl : ∀ x ∈ gs, sc.names.lookup x = some .globalImplicit
def scOkB (N : List Str) (vs : List Nat) (gs : List Str) (sc : Scope) : Bool :=
  (vs.all fun i => match N[i]? with
    | some x => match sc.names.lookup x with
      | some .local => true
      | some .cell => true
      | some .free => true
      | _ => false
    | none => true) && gs.all fun x => match sc.names.lookup x with
      | some .globalImplicit => true
      | _ => false
theorem scOk_of {N : List Str} {vs : List Nat} {gs : List Str} {sc : Scope} (h : scOkB N vs gs sc = true) : ScOk N vs gs sc := by
  unfold scOkB at h
  rw [Bool.and_eq_true, List.all_eq_true, List.all_eq_true] at h
  refine ⟨fun i hi x hx => ?_, fun x hx => ?_⟩
  · have q := h.1 i hi
    simp only [hx] at q
    unfold Vis
    split at q
    · exact .inl (by assumption)
    · exact .inr (.inl (by assumption))
    · exact .inr (.inr (by assumption))
    · cases q
  · have q := h.2 x hx
    split at q
    · assumption
    · cases q
variable {vs : List Nat} {gs : List Str}
theorem dp_var (S : ScOk τ.N vs gs τ.sc) (i : Nat) (hN : τ.N[i]? = some x := by rfl) (hi : i ∈ vs := by decide) (hd : (x == ("__debug__" : Str)) = false := by decide) (hcd : (x == ("__classdict__" : Str)) = false := by decide) : DP Ω τ (.Name x pos) (dVar i) := by
  refine ⟨?_⟩
  intro X ft F0 E tk F M H σ σ' Q e0 g r h
  refine wE_of (pe_var (i := i) (by rw [ft.N]; exact hN) (by rw [ft.sc]; exact S.vis i hi x hN) hd hcd) ?_
  unfold dVar at h
  split at h
  · rename_i d hs
    obtain ⟨v, h1, h2⟩ := r.get hs
    exact ⟨v, h1, .here g h2 h⟩
  · exact h.elim
theorem fit_gl (ft : Fit Ω τ X) (S : ScOk τ.N vs gs τ.sc) (hg : x ∈ gs) : Gl X x := by
  unfold Gl
  show X.env.scope.names.lookup x = _
  rw [ft.sc]; exact S.gl x hg
/-- a name of the module that holds a constant -/
theorem dp_glob {d : D} {v : V} {u : Value} (S : ScOk τ.N vs gs τ.sc) (hm : Ω.mg x = some u) (rv : RelV v u) (hr : ∀ F, Rp Ω.K F v d) (hg : x ∈ gs := by decide) (hd : (x == ("__debug__" : Str)) = false := by decide) : DP Ω τ (.Name x pos) (dC d) := by
  refine ⟨?_⟩
  intro X ft F0 E tk F M H σ σ' Q e0 g r h
  exact wE_of (pe_glob (fit_gl ft S hg) (by rw [ft.mg]; exact hm) rv hd) (.here g (by rw [ft.K]; exact hr F) h)
theorem dp_int {i j pos} : DP Ω τ (.Constant (.int i) j pos) (dC (.int i)) := Hd.mk fun X ft F0 E tk F M H σ σ' Q e0 g r h => wE_of pe_int (.here g (.int _) h)
theorem dp_bl {b j pos} : DP Ω τ (.Constant (.bool b) j pos) (dC (.bl b)) := Hd.mk fun X ft F0 E tk F M H σ σ' Q e0 g r h => wE_of pe_bl (.here g (.bl _) h)
theorem dp_non {j pos} : DP Ω τ (.Constant .none j pos) (dC .non) := Hd.mk fun X ft F0 E tk F M H σ σ' Q e0 g r h => wE_of pe_non (.here g .non h)
theorem dp_str {x j pos} : DP Ω τ (.Constant (.str x) j pos) (dC (.str x)) := Hd.mk fun X ft F0 E tk F M H σ σ' Q e0 g r h => wE_of pe_str (.here g (.str _) h)

/-! ### two parts in a row -/
theorem go2 (ha : DP Ω τ a da) (hb : DP Ω τ b db) (ft : Fit Ω τ X) {F0 : Hp} {E : EK} (tk : TkD X F0 E) {F : Hp} {M : MH} {H : Hp} {σ : L2.St} {σ' : DSt} {R : D → D → MH → Prop} (e0 : Ex F0 F) (g : G X.K F M H) (r : RpS X.K F σ σ')
    (h : da σ' M (fun x M1 => db σ' M1 (fun y M2 => R x y M2) E) E) {T : V → V → Hp → Prop} (hT : ∀ F' M' H' x y x' y', Ex F F' → G X.K F' M' H' → Rp X.K F' x x' → Rp X.K F' y y' → R x' y' M' → T x y H') :
    wE X a σ H fun x H1 => wE X b σ H1 fun y H2 => T x y H2 :=
  wE_mono (ha.run X ft F0 E tk F M H σ σ' _ e0 g r h) fun x H1 ⟨F1, M1, x', e1, g1, r1, q1⟩ =>
    wE_mono (hb.run X ft F0 E tk F1 M1 H1 σ σ' _ (e0.trans e1) g1 (r.mono e1) q1) fun y H2 ⟨F2, M2, y', e2, g2, r2, q2⟩ => hT F2 M2 H2 x y x' y' (e1.trans e2) g2 (r1.mono e2) r2 q2

abbrev Op2 := D → D → MH → DQ → Prop
abbrev Op1 := D → MH → DQ → Prop
def wOp (X : Cx) (f : Value → Value → Sem Value) : R2 := fun x y H Q => ∀ pins s σ v u, Inv X pins σ H s → RelV x v → RelV y u → wpAny (model X.prog X.w) X.A (f v u) (EP X pins σ Q) X.xe s
theorem opR_w {f : Value → Value → Sem Value} : OpR X f (wOp X f) := fun pins s σ _ _ _ v u _ I rx ry h => h pins s σ v u I rx ry
theorem wOp_of {f : Value → Value → Sem Value} {r : R2} (o : OpR X f r) {x y : V} {H : Hp} {Q : VK} (h : r x y H Q) : wOp X f x y H Q := fun pins s σ v u I rx ry => o pins s σ H x y v u Q I rx ry h
theorem wOp_mono {f : Value → Value → Sem Value} {x y : V} {H : Hp} {Q Q' : VK} (h : wOp X f x y H Q) (k : ∀ v H', Q v H' → Q' v H') : wOp X f x y H Q' := fun pins s σ v u I rx ry =>
  thn (h pins s σ v u I rx ry) fun _ _ ⟨v', H', I', r, q⟩ => ⟨v', H', I', r, k v' H' q⟩
/-- an operator, by data -/
def OpD (X : Cx) (f : Value → Value → Sem Value) (o : Op2) : Prop := ∀ F M H x y x' y' Q, G X.K F M H → Rp X.K F x x' → Rp X.K F y y' → o x' y' M Q → wOp X f x y H (LQ X.K F Q)
def dOp (o : Op2) (da db : DE) : DE := fun σ M Q E => da σ M (fun x M1 => db σ M1 (fun y M2 => o x y M2 Q) E) E
theorem dp_bin {op : Operator} {o : Op2} (ho : ∀ X, Fit Ω τ X → OpD X (binaryOp op) o) (ha : DP Ω τ a da) (hb : DP Ω τ b db) : DP Ω τ (.BinOp a op b pos) (dOp o da db) := Hd.mk fun X ft F0 E tk F M H σ σ' Q e0 g r h =>
  wE_of (pe_op opR_w pe_wE pe_wE) (go2 ha hb ft tk e0 g r h fun F' M' H' x y x' y' e' g' rx ry q => wOp_mono (ho X ft F' M' H' x y x' y' Q g' rx ry q) fun _ _ => LQ.back e')
theorem dp_cmp {op : CmpOp} {o : Op2} (ho : ∀ X, Fit Ω τ X → OpD X (compareOp op) o) (ha : DP Ω τ a da) (hb : DP Ω τ b db) (hm : behindInMarks op b = false) : DP Ω τ (.Compare a [op] [b] pos) (dOp o da db) := Hd.mk fun X ft F0 E tk F M H σ σ' Q e0 g r h =>
  wE_of (pe_cmpR opR_w pe_wE pe_wE hm) (go2 ha hb ft tk e0 g r h fun F' M' H' x y x' y' e' g' rx ry q => wOp_mono (ho X ft F' M' H' x y x' y' Q g' rx ry q) fun _ _ => LQ.back e')
/-- a value as a test -/
def dTest (d : DE) : DT := fun σ M Q E => d σ M (fun x M1 => match x with
  | .bl b => Q b M1
  | _ => False) E
theorem LQ.test {K : PySem.W.Frag} {F : Hp} {Q : Bool → MH → Prop} {v : V} {H : Hp} (h : LQ K F (fun x M1 => match x with
  | .bl b => Q b M1
  | _ => False) v H) : ∃ k, v = .bl k ∧ LB K F Q k H := by
  obtain ⟨F', M', y, e, g, r, q⟩ := h
  cases y <;> first | exact q.elim | skip
  rename_i b
  cases r
  exact ⟨b, rfl, F', M', e, g, q⟩
theorem dpt_cmp {op : CmpOp} {o : Op2} (ho : ∀ X, Fit Ω τ X → OpD X (compareOp op) o) (ha : DP Ω τ a da) (hb : DP Ω τ b db) (hm : behindInMarks op b = false) : DPT Ω τ (.Compare a [op] [b] pos) (dTest (dOp o da db)) := Hd.mk fun X ft F0 E tk F M H σ σ' Q e0 g r h =>
  wT_of (pt_cmpR opR_w pe_wE pe_wE hm) (go2 ha hb ft tk e0 g r h fun F' M' H' x y x' y' e' g' rx ry q => wOp_mono (ho X ft F' M' H' x y x' y' _ g' rx ry q) fun _ _ z => by
    obtain ⟨k, h1, h2⟩ := LQ.test z
    exact ⟨k, h1, h2.back e'⟩)
theorem dpt_val (h : DP Ω τ e de) (he : ∀ env whole, isTrue e env whole = (do let v ← whole; standAt e.pos; holding [v] (truthy v)) := by intro _ _; rfl) : DPT Ω τ e (dTest de) := Hd.mk fun X ft F0 E tk F M H σ σ' Q e0 g r hd =>
  wT_of (pt_val pe_wE (he X.env)) (wE_mono (h.run X ft F0 E tk F M H σ σ' _ e0 g r hd) fun v H1 z => LQ.test z)

/-! ### chains: a < b < c, each middle one asked once -/
def dChain (o o' : Op2) (da db dc : DE) : DE := fun σ M Q E => da σ M (fun x M1 => db σ M1 (fun y M2 => o x y M2 fun z M3 => match z with
  | .bl true => dc σ M3 (fun w M4 => o' y w M4 Q) E
  | .bl false => Q (.bl false) M3
  | _ => False) E) E

/-! ### tests -/
def dAnd (ta tb : DT) : DT := fun σ M Q E => ta σ M (fun b M1 => (b = true → tb σ M1 Q E) ∧ (b = false → Q false M1)) E
def dOr (ta tb : DT) : DT := fun σ M Q E => ta σ M (fun b M1 => (b = true → Q true M1) ∧ (b = false → tb σ M1 Q E)) E
def dNot (ta : DT) : DT := fun σ M Q E => ta σ M (fun b M1 => Q (!b) M1) E
def wW (X : Cx) (e : Expr) : TT := fun σ H Q => ∀ wh pins s, Inv X pins σ H s → wpAny (model X.prog X.w) X.A (isTrue e X.env wh) (TP X pins σ Q) X.xe s
theorem pw_wW {X : Cx} {e : Expr} : PW X e (wW X e) := ⟨fun wh pins s _ _ _ I h => h wh pins s I⟩
theorem wW_of {X : Cx} {e : Expr} {t : TT} (h : PW X e t) {σ : L2.St} {H : Hp} {Q : Bool → Hp → Prop} (q : t σ H Q) : wW X e σ H Q := fun wh pins s I => h.run wh pins s σ H Q I q
theorem wW_mono {X : Cx} {e : Expr} {σ : L2.St} {H : Hp} {Q Q' : Bool → Hp → Prop} (h : wW X e σ H Q) (k : ∀ v H', Q v H' → Q' v H') : wW X e σ H Q' := fun wh pins s I =>
  thn (h wh pins s I) fun _ _ ⟨H', I', q⟩ => ⟨H', I', k _ H' q⟩
/-- a test whatever its whole is -/
def DPW (Ω : Wl) (τ : Sx) (e : Expr) (d : DT) : Prop := Hd (∀ X, Fit Ω τ X → ∀ F0 E, TkD X F0 E → ∀ F M H σ σ' Q, Ex F0 F → G X.K F M H → RpS X.K F σ σ' → d σ' M Q E → wW X e σ H (LB X.K F Q))
theorem DPW.pt (h : DPW Ω τ e ta) : DPT Ω τ e ta := Hd.mk fun X ft F0 E tk F M H σ σ' Q e0 g r hd pins s I => h.run X ft F0 E tk F M H σ σ' Q e0 g r hd _ pins s I
theorem dpw_and1 (ha : DPT Ω τ a ta) : DPW Ω τ (.BoolOp .And [a] pos) ta := Hd.mk fun X ft F0 E tk F M H σ σ' Q e0 g r h => wW_of (pw_and1 pt_wT) (ha.run X ft F0 E tk F M H σ σ' Q e0 g r h)
theorem dpw_or1 (ha : DPT Ω τ a ta) : DPW Ω τ (.BoolOp .Or [a] pos) ta := Hd.mk fun X ft F0 E tk F M H σ σ' Q e0 g r h => wW_of (pw_or1 pt_wT) (ha.run X ft F0 E tk F M H σ σ' Q e0 g r h)
theorem dpw_and (ha : DPT Ω τ a ta) (hb : DPW Ω τ (.BoolOp .And (b :: rest) pos) tb) : DPW Ω τ (.BoolOp .And (a :: b :: rest) pos) (dAnd ta tb) := Hd.mk fun X ft F0 E tk F M H σ σ' Q e0 g r h => by
  refine wW_of (pw_and pt_wT pw_wW) (wT_mono (ha.run X ft F0 E tk F M H σ σ' _ e0 g r h) ?_)
  rintro k H1 ⟨F1, M1, e1, g1, q1, q2⟩
  cases k with
  | true => exact iteT (wW_mono (hb.run X ft F0 E tk F1 M1 H1 σ σ' Q (e0.trans e1) g1 (r.mono e1) (q1 rfl)) fun _ _ => LB.back e1)
  | false => exact iteF ⟨F1, M1, e1, g1, q2 rfl⟩
theorem dpw_or (ha : DPT Ω τ a ta) (hb : DPW Ω τ (.BoolOp .Or (b :: rest) pos) tb) : DPW Ω τ (.BoolOp .Or (a :: b :: rest) pos) (dOr ta tb) := Hd.mk fun X ft F0 E tk F M H σ σ' Q e0 g r h => by
  refine wW_of (pw_or pt_wT pw_wW) (wT_mono (ha.run X ft F0 E tk F M H σ σ' _ e0 g r h) ?_)
  rintro k H1 ⟨F1, M1, e1, g1, q1, q2⟩
  cases k with
  | true => exact iteT ⟨F1, M1, e1, g1, q1 rfl⟩
  | false => exact iteF (wW_mono (hb.run X ft F0 E tk F1 M1 H1 σ σ' Q (e0.trans e1) g1 (r.mono e1) (q2 rfl)) fun _ _ => LB.back e1)
theorem dpt_not (ha : DPT Ω τ a ta) : DPT Ω τ (.UnaryOp .Not a pos) (dNot ta) := Hd.mk fun X ft F0 E tk F M H σ σ' Q e0 g r h =>
  wT_of (pt_not pt_wT) (wT_mono (ha.run X ft F0 E tk F M H σ σ' _ e0 g r h) fun k H1 ⟨F1, M1, e1, g1, q1⟩ => ⟨F1, M1, e1, g1, q1⟩)
/-! as values -/
def asV (t : DT) : DE := fun σ M Q E => t σ M (fun b M1 => Q (.bl b) M1) E
def dAndV (da db : DE) : DE := fun σ M Q E => da σ M (fun x M1 => match x with
  | .bl b => (b = true → db σ M1 Q E) ∧ (b = false → Q (.bl false) M1)
  | _ => False) E
def dOrV (da db : DE) : DE := fun σ M Q E => da σ M (fun x M1 => match x with
  | .bl b => (b = true → Q (.bl true) M1) ∧ (b = false → db σ M1 Q E)
  | _ => False) E
def dNotV (da : DE) : DE := fun σ M Q E => da σ M (fun x M1 => match x with
  | .bl b => Q (.bl (!b)) M1
  | _ => False) E
theorem dp_one {op : BoolOp} (ha : DP Ω τ a da) : DP Ω τ (.BoolOp op [a] pos) da := Hd.mk fun X ft F0 E tk F M H σ σ' Q e0 g r h => wE_of (pe_one pe_wE) (ha.run X ft F0 E tk F M H σ σ' Q e0 g r h)
theorem dp_and (ha : DP Ω τ a da) (hb : DP Ω τ (.BoolOp .And (b :: rest) pos) db) : DP Ω τ (.BoolOp .And (a :: b :: rest) pos) (dAndV da db) := Hd.mk fun X ft F0 E tk F M H σ σ' Q e0 g r h => by
  refine wE_of (pe_and pe_wE pe_wE) (wE_mono (ha.run X ft F0 E tk F M H σ σ' _ e0 g r h) ?_)
  rintro v H1 ⟨F1, M1, y, e1, g1, r1, q1⟩
  cases y <;> first | exact q1.elim | skip
  rename_i k
  cases r1
  refine ⟨k, rfl, ?_⟩
  cases k with
  | true => exact iteT (wE_mono (hb.run X ft F0 E tk F1 M1 H1 σ σ' Q (e0.trans e1) g1 (r.mono e1) (q1.1 rfl)) fun _ _ => LQ.back e1)
  | false => exact iteF ⟨F1, M1, _, e1, g1, .bl false, q1.2 rfl⟩
theorem dp_or (ha : DP Ω τ a da) (hb : DP Ω τ (.BoolOp .Or (b :: rest) pos) db) : DP Ω τ (.BoolOp .Or (a :: b :: rest) pos) (dOrV da db) := Hd.mk fun X ft F0 E tk F M H σ σ' Q e0 g r h => by
  refine wE_of (pe_or pe_wE pe_wE) (wE_mono (ha.run X ft F0 E tk F M H σ σ' _ e0 g r h) ?_)
  rintro v H1 ⟨F1, M1, y, e1, g1, r1, q1⟩
  cases y <;> first | exact q1.elim | skip
  rename_i k
  cases r1
  refine ⟨k, rfl, ?_⟩
  cases k with
  | true => exact iteT ⟨F1, M1, _, e1, g1, .bl true, q1.1 rfl⟩
  | false => exact iteF (wE_mono (hb.run X ft F0 E tk F1 M1 H1 σ σ' Q (e0.trans e1) g1 (r.mono e1) (q1.2 rfl)) fun _ _ => LQ.back e1)
theorem dp_not (ha : DP Ω τ a da) : DP Ω τ (.UnaryOp .Not a pos) (dNotV da) := Hd.mk fun X ft F0 E tk F M H σ σ' Q e0 g r h => by
  refine wE_of (pe_not pe_wE) (wE_mono (ha.run X ft F0 E tk F M H σ σ' _ e0 g r h) ?_)
  rintro v H1 ⟨F1, M1, y, e1, g1, r1, q1⟩
  cases y <;> first | exact q1.elim | skip
  rename_i k
  cases r1
  exact ⟨k, rfl, F1, M1, _, e1, g1, .bl _, q1⟩
def dIf (t : DT) (da db : DE) : DE := fun σ M Q E => t σ M (fun b M1 => (b = true → da σ M1 Q E) ∧ (b = false → db σ M1 Q E)) E
theorem dp_if (hc : DPT Ω τ c ta) (ha : DP Ω τ a da) (hb : DP Ω τ b db) : DP Ω τ (.IfExp c a b pos) (dIf ta da db) := Hd.mk fun X ft F0 E tk F M H σ σ' Q e0 g r h => by
  refine wE_of (pe_ifExp pt_wT pe_wE pe_wE) (wT_mono (hc.run X ft F0 E tk F M H σ σ' _ e0 g r h) ?_)
  rintro k H1 ⟨F1, M1, e1, g1, q1, q2⟩
  cases k with
  | true => exact iteT (wE_mono (ha.run X ft F0 E tk F1 M1 H1 σ σ' Q (e0.trans e1) g1 (r.mono e1) (q1 rfl)) fun _ _ => LQ.back e1)
  | false => exact iteF (wE_mono (hb.run X ft F0 E tk F1 M1 H1 σ σ' Q (e0.trans e1) g1 (r.mono e1) (q2 rfl)) fun _ _ => LQ.back e1)

/-! ### argument lists, displays -/
section
variable {env : Env}
theorem star_const {k j q} : starEach (.Constant k j q :: es) env = (false, eval (.Constant k j q) env) :: starEach es env := by rfl
theorem star_name {y q} : starEach (.Name y q :: es) env = (false, eval (.Name y q) env) :: starEach es env := by rfl
theorem star_bin {u v o q} : starEach (.BinOp u o v q :: es) env = (false, eval (.BinOp u o v q) env) :: starEach es env := by rfl
theorem star_call {u v o q} : starEach (.Call u v o q :: es) env = (false, eval (.Call u v o q) env) :: starEach es env := by rfl
theorem star_attr {u v q} : starEach (.Attribute u v q :: es) env = (false, eval (.Attribute u v q) env) :: starEach es env := by rfl
theorem star_sub {u v q} : starEach (.Subscript u v q :: es) env = (false, eval (.Subscript u v q) env) :: starEach es env := by rfl
theorem star_list {u q} : starEach (.List u q :: es) env = (false, eval (.List u q) env) :: starEach es env := by rfl
theorem star_tup {u k q} : starEach (.Tuple u k q :: es) env = (false, eval (.Tuple u k q) env) :: starEach es env := by rfl
end
def dNil : DA := fun _ M Q _ => Q [] M
def dCons (da : DE) (tr : DA) : DA := fun σ M Q E => da σ M (fun x M1 => tr σ M1 (fun xs M2 => Q (x :: xs) M2) E) E
theorem dpa_nil : DPA Ω τ [] dNil := Hd.mk fun X ft F0 E tk F M H σ σ' Q e0 g r h => wA_of pa_nil ⟨F, M, [], Ex.refl F, g, .nil, h⟩
theorem dpa_cons (ha : DP Ω τ e de) (hr : DPA Ω τ es tr) (hs : ∀ env, starEach (e :: es) env = (false, eval e env) :: starEach es env := by intro _; first | with_reducible exact star_const | with_reducible exact star_name | with_reducible exact star_bin | with_reducible exact star_call | with_reducible exact star_attr | with_reducible exact star_sub | with_reducible exact star_list | with_reducible exact star_tup | rfl) : DPA Ω τ (e :: es) (dCons de tr) := Hd.mk fun X ft F0 E tk F M H σ σ' Q e0 g r h => by
  refine wA_of (pa_cons pe_wE pa_wA (hs X.env)) (wE_mono (ha.run X ft F0 E tk F M H σ σ' _ e0 g r h) ?_)
  rintro v H1 ⟨F1, M1, y, e1, g1, r1, q1⟩
  refine wA_mono (hr.run X ft F0 E tk F1 M1 H1 σ σ' _ (e0.trans e1) g1 (r.mono e1) q1) ?_
  rintro ws H2 ⟨F2, M2, ys, e2, g2, r2, q2⟩
  exact ⟨F2, M2, y :: ys, e1.trans e2, g2, .cons (r1.mono e2) r2, q2⟩
/-- *e in a display: a tuple, a list that stands still, or one that may change -/
def seqD : D → MH → (List D → Prop) → Prop
  | .tup xs, _, R => R xs
  | .wtp xs, _, R => R xs
  | .lst xs, _, R => R xs
  | .scr ns, _, R => R (ns.map D.int)
  | .ref a, M, R => ∃ xs, M a = some (.lst xs) ∧ R xs
  | _, _, _ => False
theorem rpl_ints {K : PySem.W.Frag} {F : Hp} : ∀ ns : List Int, RpL K F (ns.map V.int) (ns.map D.int)
  | [] => .nil
  | n :: ns => .cons (.int n) (rpl_ints ns)
theorem seqD_ok {K : PySem.W.Frag} {F : Hp} {M : MH} {H : Hp} {v : V} {d : D} {R : List D → Prop} (g : G K F M H) (r : Rp K F v d) (h : seqD d M R) : ∃ p ws xs, v = .ref p ∧ (SqT K H p ws ∨ SqL K H p ws) ∧ RpL K F ws xs ∧ R xs := by
  cases d <;> first | exact h.elim | skip
  case tup xs =>
    cases r with | tup hs hr => exact ⟨_, _, _, rfl, .inl (SqT.fz (hs.mono g.ex)), hr, h⟩
  case wtp xs =>
    cases r with | wtp hs hr => exact ⟨_, _, _, rfl, .inl (g.ex.st hs), hr, h⟩
  case lst xs =>
    cases r with | lst hs hr => exact ⟨_, _, _, rfl, .inr (SqL.of (g.ex _ _ hs)), hr, h⟩
  case ref a =>
    cases r
    obtain ⟨xs, h1, h2⟩ := h
    obtain ⟨h3, ws, h4, h5⟩ := g.mo _ _ h1
    exact ⟨_, _, _, rfl, .inr (SqL.of h4), h5, h2⟩
  case scr ns =>
    cases r with | scr hs => exact ⟨_, _, _, rfl, .inr (g.ex.sl hs), rpl_ints ns, h⟩
def dStar (da : DE) (tr : DA) : DA := fun σ M Q E => da σ M (fun x M1 => seqD x M1 fun xs => tr σ M1 (fun ys M2 => Q (xs ++ ys) M2) E) E
theorem dpa_star (ha : DP Ω τ e de) (hr : DPA Ω τ es tr) : DPA Ω τ (.Starred e p :: es) (dStar de tr) := Hd.mk fun X ft F0 E tk F M H σ σ' Q e0 g r h => by
  refine wA_of (StX.pa_star pe_wE pa_wA) (wE_mono (ha.run X ft F0 E tk F M H σ σ' _ e0 g r h) ?_)
  rintro v H1 ⟨F1, M1, y, e1, g1, r1, q1⟩
  obtain ⟨q, ws, xs, rfl, h1, h2, h3⟩ := seqD_ok g1 r1 q1
  refine ⟨q, ws, rfl, h1, wA_mono (hr.run X ft F0 E tk F1 M1 H1 σ σ' _ (e0.trans e1) g1 (r.mono e1) h3) ?_⟩
  rintro zs H2 ⟨F2, M2, ys, e2, g2, r2, q2⟩
  exact ⟨F2, M2, xs ++ ys, e1.trans e2, g2, (h2.mono e2).append r2, q2⟩
theorem rp_tupN {K : PySem.W.Frag} {F H : Hp} {M : MH} {p : Addr} {its : Array Value} {vs : List V} {ds : List D} {Q : DQ} (g : G K F M H) (h : H p = none) (r : RpL K F vs ds) (q : Q (.tup ds) M) : LQ K F Q (.ref p) (upd H p (.frz (tob its) (.tup vs))) := by
  obtain ⟨g1, e1⟩ := g.new h (.frz (tob its) (.tup vs))
  exact ⟨_, M, .tup ds, e1, g1, .tup ⟨its, upd_same⟩ (r.mono e1), q⟩
/-- a tuple of which less is known -/
theorem rp_wtpN {K : PySem.W.Frag} {F H : Hp} {M : MH} {p : Addr} {vs : List V} {ds : List D} {Q : DQ} (g : G K F M H) (h : H p = none) (r : RpL K F vs ds) (q : Q (.wtp ds) M) : LQ K F Q (.ref p) (upd H p (.tup vs)) := by
  obtain ⟨g1, e1⟩ := g.new h (.tup vs)
  exact ⟨_, M, .wtp ds, e1, g1, .wtp (SqT.of upd_same) (r.mono e1), q⟩
theorem rp_lstN {K : PySem.W.Frag} {F H : Hp} {M : MH} {p : Addr} {vs : List V} {ds : List D} {Q : DQ} (g : G K F M H) (h : H p = none) (r : RpL K F vs ds) (q : Q (.lst ds) M) : LQ K F Q (.ref p) (upd H p (.lst vs)) := by
  obtain ⟨g1, e1⟩ := g.new h (.lst vs)
  exact ⟨_, M, .lst ds, e1, g1, .lst upd_same (r.mono e1), q⟩
theorem rp_lstM {K : PySem.W.Frag} {F H : Hp} {M : MH} {p : Addr} {vs : List V} {ds : List D} {Q : DQ} (g : G K F M H) (h : H p = none) (r : RpL K F vs ds) (q : ∀ p, M p = none → Q (.ref p) (M.put p (.lst ds))) : LQ K F Q (.ref p) (upd H p (.lst vs)) :=
  ⟨F, M.put p (.lst ds), .ref p, Ex.refl F, g.newM h (o := .lst vs) (u := .lst ds) ⟨vs, upd_same, r⟩, .ref p, q p (g.fresh h).2⟩
def lenOk (n : Nat) : Prop := n ≤ 100000
theorem lenOk.sz {n : Nat} (h : lenOk n) : n ≤ sizeLine := Nat.le_trans h (by decide)
theorem lenOk.lt {n : Nat} (h : lenOk n) : n < sizeLine := Nat.lt_of_le_of_lt h (by decide)
def dTup (t : DA) : DE := fun σ M Q E => t σ M (fun xs M1 => lenOk xs.length ∧ Q (.tup xs) M1) E
/-- a list that will not change -/
def dLst (t : DA) : DE := fun σ M Q E => t σ M (fun xs M1 => lenOk xs.length ∧ Q (.lst xs) M1) E
/-- a list that may change -/
def dNew (t : DA) : DE := fun σ M Q E => t σ M (fun xs M1 => lenOk xs.length ∧ ∀ p, M1 p = none → Q (.ref p) (M1.put p (.lst xs))) E
theorem dp_tup {x1} (h : DPA Ω τ es tl) : DP Ω τ (.Tuple es x1 pos) (dTup tl) := Hd.mk fun X ft F0 E tk F M H σ σ' Q e0 g r hd =>
  wE_of (pe_tupF pa_wA) (wA_mono (h.run X ft F0 E tk F M H σ σ' _ e0 g r hd) fun vs H1 ⟨F1, M1, ys, e1, g1, r1, q1⟩ => ⟨by rw [r1.length]; exact q1.1.sz, fun p _ hp => (rp_tupN g1 hp r1 q1.2).back e1⟩)
theorem dp_lst (h : DPA Ω τ es tl) : DP Ω τ (.List es pos) (dLst tl) := Hd.mk fun X ft F0 E tk F M H σ σ' Q e0 g r hd =>
  wE_of (pe_lst pa_wA) (wA_mono (h.run X ft F0 E tk F M H σ σ' _ e0 g r hd) fun vs H1 ⟨F1, M1, ys, e1, g1, r1, q1⟩ => ⟨by rw [r1.length]; exact q1.1.sz, fun p hp => (rp_lstN g1 hp r1 q1.2).back e1⟩)
theorem dp_new (h : DPA Ω τ es tl) : DP Ω τ (.List es pos) (dNew tl) := Hd.mk fun X ft F0 E tk F M H σ σ' Q e0 g r hd =>
  wE_of (pe_lst pa_wA) (wA_mono (h.run X ft F0 E tk F M H σ σ' _ e0 g r hd) fun vs H1 ⟨F1, M1, ys, e1, g1, r1, q1⟩ => ⟨by rw [r1.length]; exact q1.1.sz, fun p hp => (rp_lstM g1 hp r1 q1.2).back e1⟩)
end
end DL

/-! The deep layer, part c: data that are compared, the operators by data. -/
namespace DL
open PySem PySem.Spec PyProof.Rows L2

mutual
def D.py : D → PyData
  | .non => .none
  | .bl b => .bool b
  | .int i => .int i
  | .str x => .str x
  | .tup xs => .tuple (D.pyL xs)
  | .lst xs => .list (D.pyL xs)
  | .scr ns => .list (ns.map PyData.int)
  | _ => .none
def D.pyL : List D → List PyData
  | [] => []
  | x :: xs => D.py x :: D.pyL xs
end
/-- pure data of n levels at most -/
def okN : Nat → D → Prop
  | _, .non => True
  | _, .bl _ => True
  | _, .int _ => True
  | _, .scr _ => False
  | _, .str x => PyData.strOk x = true
  | n + 1, .tup xs => ∀ x ∈ xs, okN n x
  | n + 1, .lst xs => ∀ x ∈ xs, okN n x
  | _, _ => False
mutual
def eqD : D → D → Bool
  | .non, .non => true
  | .bl a, .bl b => a == b
  | .bl a, .int j => (if a then 1 else 0) == j
  | .int i, .bl b => i == (if b then 1 else 0)
  | .int i, .int j => i == j
  | .str x, .str y => x == y
  | .lst xs, .lst ys => eqDL xs ys
  | .tup xs, .tup ys => eqDL xs ys
  | _, _ => false
def eqDL : List D → List D → Bool
  | [], [] => true
  | x :: xs, y :: ys => eqD x y && eqDL xs ys
  | _, _ => false
end
theorem pyL_map : ∀ xs : List D, D.pyL xs = xs.map D.py
  | [] => by simp only [D.pyL, List.map]
  | x :: xs => by simp only [D.pyL, List.map]; rw [pyL_map xs]
theorem okN.cases {n : Nat} {d : D} (h : okN n d) : d = .non ∨ (∃ b, d = .bl b) ∨ (∃ i, d = .int i) ∨ (∃ x, d = .str x ∧ PyData.strOk x = true) ∨ (∃ m xs, n = m + 1 ∧ d = .tup xs ∧ ∀ x ∈ xs, okN m x) ∨ (∃ m xs, n = m + 1 ∧ d = .lst xs ∧ ∀ x ∈ xs, okN m x) := by
  cases d with
  | non => exact .inl rfl
  | bl b => exact .inr (.inl ⟨b, rfl⟩)
  | int i => exact .inr (.inr (.inl ⟨i, rfl⟩))
  | str x => exact .inr (.inr (.inr (.inl ⟨x, rfl, by cases n <;> simpa [okN] using h⟩)))
  | tup xs =>
    cases n with
    | zero => simp [okN] at h
    | succ m => exact .inr (.inr (.inr (.inr (.inl ⟨m, xs, rfl, rfl, by simpa [okN] using h⟩))))
  | lst xs =>
    cases n with
    | zero => simp [okN] at h
    | succ m => exact .inr (.inr (.inr (.inr (.inr ⟨m, xs, rfl, rfl, by simpa [okN] using h⟩))))
  | _ => cases n <;> simp [okN] at h
theorem okN_lay : ∀ (n : Nat) (d : D), okN n d → d.py.canLay0 = true ∧ d.py.depth ≤ n := by
  intro n
  induction n with
  | zero =>
    intro d h
    rcases h.cases with rfl | ⟨b, rfl⟩ | ⟨i, rfl⟩ | ⟨x, rfl, hx⟩ | ⟨m, xs, hm, _⟩ | ⟨m, xs, hm, _⟩
    · simp [D.py, PyData.canLay0, PyData.depth]
    · simp [D.py, PyData.canLay0, PyData.depth]
    · simp [D.py, PyData.canLay0, PyData.depth]
    · simp [D.py, PyData.canLay0, PyData.depth, hx]
    · cases hm
    · cases hm
  | succ n ih =>
    have all : ∀ xs : List D, (∀ x ∈ xs, okN n x) → PyData.canLayAll0 (D.pyL xs) = true ∧ PyData.depthAll (D.pyL xs) ≤ n := by
      intro xs
      induction xs with
      | nil => intro _; simp [D.pyL, PyData.canLayAll0, PyData.depthAll]
      | cons x xs ihx =>
        intro h
        obtain ⟨h1, h2⟩ := ih x (h x List.mem_cons_self)
        obtain ⟨h3, h4⟩ := ihx fun y hy => h y (List.mem_cons_of_mem _ hy)
        simp only [D.pyL, PyData.canLayAll0, PyData.depthAll, h1, h3, Bool.and_self, true_and]
        omega
    intro d h
    rcases h.cases with rfl | ⟨b, rfl⟩ | ⟨i, rfl⟩ | ⟨x, rfl, hx⟩ | ⟨m, xs, hm, rfl, hx⟩ | ⟨m, xs, hm, rfl, hx⟩
    · simp [D.py, PyData.canLay0, PyData.depth]
    · simp [D.py, PyData.canLay0, PyData.depth]
    · simp [D.py, PyData.canLay0, PyData.depth]
    · simp [D.py, PyData.canLay0, PyData.depth, hx]
    · cases hm
      obtain ⟨h1, h2⟩ := all xs hx
      simp only [D.py, PyData.canLay0, PyData.depth, h1, true_and]; omega
    · cases hm
      obtain ⟨h1, h2⟩ := all xs hx
      simp only [D.py, PyData.canLay0, PyData.depth, h1, true_and]; omega
theorem okN_shaped {d : D} (h : okN 50 d) : SeqAt.shaped d.py = true := by
  obtain ⟨h1, h2⟩ := okN_lay 50 d h
  unfold SeqAt.shaped
  rw [h1, decide_eq_true (by omega : d.py.depth ≤ 64)]; rfl
section
variable {K : PySem.W.Frag} {F H : Hp}
theorem rp_dp (e : Ex F H) : ∀ (n : Nat) (d : D) (v : V), okN n d → Rp K F v d → Dp K H v d.py := by
  intro n
  induction n with
  | zero =>
    intro d v h r
    rcases h.cases with rfl | ⟨b, rfl⟩ | ⟨i, rfl⟩ | ⟨x, rfl, hx⟩ | ⟨m, xs, hm, _⟩ | ⟨m, xs, hm, _⟩
    · cases r; simp only [D.py]; exact .non
    · cases r; simp only [D.py]; exact .bl b
    · cases r; simp only [D.py]; exact .int i
    · cases r; simp only [D.py]; exact .str x
    · cases hm
    · cases hm
  | succ n ih =>
    have all : ∀ (xs : List D) (vs : List V), (∀ x ∈ xs, okN n x) → RpL K F vs xs → DpAll K H vs (D.pyL xs) := by
      intro xs
      induction xs with
      | nil => intro vs _ r; cases r; simp only [D.pyL]; exact .nil
      | cons x xs ihx =>
        intro vs h r
        cases r with | cons h1 h2 =>
        simp only [D.pyL]
        exact .cons (ih x _ (h x List.mem_cons_self) h1) (ihx _ (fun y hy => h y (List.mem_cons_of_mem _ hy)) h2)
    intro d v h r
    rcases h.cases with rfl | ⟨b, rfl⟩ | ⟨i, rfl⟩ | ⟨x, rfl, hx⟩ | ⟨m, xs, hm, rfl, hx⟩ | ⟨m, xs, hm, rfl, hx⟩
    · cases r; simp only [D.py]; exact .non
    · cases r; simp only [D.py]; exact .bl b
    · cases r; simp only [D.py]; exact .int i
    · cases r; simp only [D.py]; exact .str x
    · cases hm
      cases r with | tup hs hr =>
      simp only [D.py]
      exact .tup (SqT.fz (hs.mono e)) (all xs _ hx hr)
    · cases hm
      cases r with | lst hs hr =>
      simp only [D.py]
      exact .lst (SqL.of (e _ _ hs)) (all xs _ hx hr)
end
theorem eqD_py : ∀ (n : Nat) (x y : D), okN n x → okN n y → PyData.eqv x.py y.py = eqD x y := by
  intro n
  induction n with
  | zero =>
    intro x y hx hy
    rcases hx.cases with rfl | ⟨b, rfl⟩ | ⟨i, rfl⟩ | ⟨z, rfl, _⟩ | ⟨m, xs, hm, _⟩ | ⟨m, xs, hm, _⟩ <;>
    rcases hy.cases with rfl | ⟨b', rfl⟩ | ⟨i', rfl⟩ | ⟨z', rfl, _⟩ | ⟨m', xs', hm', _⟩ | ⟨m', xs', hm', _⟩ <;>
    first | (cases hm; done) | (cases hm'; done) | (simp only [D.py, PyData.eqv, eqD])
  | succ n ih =>
    have all : ∀ (xs ys : List D), (∀ x ∈ xs, okN n x) → (∀ x ∈ ys, okN n x) → PyData.eqvAll (D.pyL xs) (D.pyL ys) = eqDL xs ys := by
      intro xs
      induction xs with
      | nil => intro ys _ _; cases ys <;> simp only [D.pyL, PyData.eqvAll, eqDL]
      | cons x xs ihx =>
        intro ys h1 h2
        cases ys with
        | nil => simp only [D.pyL, PyData.eqvAll, eqDL]
        | cons y ys =>
          simp only [D.pyL, PyData.eqvAll, eqDL]
          rw [ih x y (h1 x List.mem_cons_self) (h2 y List.mem_cons_self), ihx ys (fun z hz => h1 z (List.mem_cons_of_mem _ hz)) (fun z hz => h2 z (List.mem_cons_of_mem _ hz))]
    intro x y hx hy
    rcases hx.cases with rfl | ⟨b, rfl⟩ | ⟨i, rfl⟩ | ⟨z, rfl, _⟩ | ⟨m, xs, hm, rfl, h1⟩ | ⟨m, xs, hm, rfl, h1⟩ <;>
    rcases hy.cases with rfl | ⟨b', rfl⟩ | ⟨i', rfl⟩ | ⟨z', rfl, _⟩ | ⟨m', xs', hm', rfl, h2⟩ | ⟨m', xs', hm', rfl, h2⟩ <;>
    first
      | (cases hm; cases hm'; simp only [D.py, PyData.eqv, eqD]; exact all _ _ h1 h2)
      | (simp only [D.py, PyData.eqv, eqD])

/-! ### the operators -/
section
variable {Ω : Wl} {τ : Sx} {X : Cx}
/-- what stands still, or what a changing list holds now -/
def datD : D → MH → (D → Prop) → Prop
  | .ref a, M, R => ∃ xs, M a = some (.lst xs) ∧ R (.lst xs)
  | d, _, R => R d
theorem datD_ok {K : PySem.W.Frag} {F : Hp} {M : MH} {H : Hp} {v : V} {d : D} {R : D → Prop} (g : G K F M H) (r : Rp K F v d) (h : datD d M R) : ∃ n F', (n = 0 ∨ n = 1) ∧ Ex F' H ∧ ∃ d', Rp K F' v d' ∧ R d' := by
  cases d
  case ref a =>
    obtain ⟨xs, h1, h2⟩ := h
    cases r
    obtain ⟨h3, ws, h4, h5⟩ := g.mo _ _ h1
    have ex : Ex F (upd F a (.lst ws)) := Ex.new h3
    refine ⟨1, upd F a (.lst ws), .inr rfl, fun b o q => ?_, .lst xs, .lst upd_same (h5.mono ex), h2⟩
    by_cases hb : b = a
    · subst hb; rw [upd_same] at q; cases q; exact h4
    · rw [upd_ne hb] at q; exact g.ex _ _ q
  all_goals exact ⟨0, F, .inl rfl, g.ex, _, r, h⟩
def eqOp : Op2 := fun x y M Q => match x, y with
  | .int i, .int j => Q (.bl (decide (i = j))) M
  | .str a, .str b => Q (.bl (decide (a = b))) M
  | x, y => datD x M fun x => datD y M fun y => okN 50 x ∧ okN 50 y ∧ Q (.bl (eqD x y)) M
def neOp : Op2 := fun x y M Q => match x, y with
  | .int i, .int j => Q (.bl (!decide (i = j))) M
  | .str a, .str b => Q (.bl (!decide (a = b))) M
  | x, y => datD x M fun x => datD y M fun y => okN 50 x ∧ okN 50 y ∧ Q (.bl (!eqD x y)) M
theorem decV_int {i j : Int} : decide (V.int i = V.int j) = decide (i = j) := by simp
theorem decV_str {i j : Str} : decide (V.str i = V.str j) = decide (i = j) := by simp
theorem opD_eq (ft : Fit Ω τ X) : OpD X (compareOp .Eq) eqOp := by
  intro F M H x y x' y' Q g rx ry h
  unfold eqOp at h
  split at h
  · cases rx; cases ry
    refine wOp_of op_eq ⟨rfl, ?_⟩
    rw [decV_int]
    exact .here g (.bl _) h
  · cases rx; cases ry
    refine wOp_of op_eq ⟨rfl, ?_⟩
    rw [decV_str]
    exact .here g (.bl _) h
  · obtain ⟨_, F1, _, e1, d1, r1, h⟩ := datD_ok g rx h
    obtain ⟨_, F2, _, e2, d2, r2, h1, h2, q⟩ := datD_ok g ry h
    refine wOp_of (op_eqD ft.room.units) ⟨_, _, rp_dp e1 50 _ _ h1 r1, rp_dp e2 50 _ _ h2 r2, okN_shaped h1, okN_shaped h2, ?_⟩
    rw [eqD_py 50 _ _ h1 h2]
    exact .here g (.bl _) q
theorem opD_ne (ft : Fit Ω τ X) : OpD X (compareOp .NotEq) neOp := by
  intro F M H x y x' y' Q g rx ry h
  unfold neOp at h
  split at h
  · cases rx; cases ry
    refine wOp_of op_ne ⟨rfl, ?_⟩
    rw [decV_int]
    exact .here g (.bl _) h
  · cases rx; cases ry
    refine wOp_of op_ne ⟨rfl, ?_⟩
    rw [decV_str]
    exact .here g (.bl _) h
  · obtain ⟨_, F1, _, e1, d1, r1, h⟩ := datD_ok g rx h
    obtain ⟨_, F2, _, e2, d2, r2, h1, h2, q⟩ := datD_ok g ry h
    refine wOp_of (op_neD ft.room.units) ⟨_, _, rp_dp e1 50 _ _ h1 r1, rp_dp e2 50 _ _ h2 r2, okN_shaped h1, okN_shaped h2, ?_⟩
    rw [eqD_py 50 _ _ h1 h2]
    exact .here g (.bl _) q

def i2 (f : Int → Int → D) : Op2 := fun x y M Q => match x, y with
  | .int i, .int j => Q (f i j) M
  | _, _ => False
theorem opD_i2 {f : Value → Value → Sem Value} {o : Int → Int → V} {o' : Int → Int → D} (h : OpR X f (rI0 o)) (hr : ∀ F i j, Rp X.K F (o i j) (o' i j)) : OpD X f (i2 o') := by
  intro F M H x y x' y' Q g rx ry q
  cases x' <;> first | exact q.elim | skip
  cases y' <;> first | exact q.elim | skip
  cases rx; cases ry
  exact wOp_of h ⟨_, _, rfl, rfl, .here g (hr _ _ _) q⟩
def ltOp : Op2 := fun x y M Q => match x, y with
  | .int i, .int j => Q (.bl (decide (i < j))) M
  | _, _ => False
theorem opD_lt (ft : Fit Ω τ X) : OpD X (compareOp .Lt) (i2 fun i j => .bl (decide (i < j))) := opD_i2 op_lt fun _ _ _ => .bl _
theorem opD_le (ft : Fit Ω τ X) : OpD X (compareOp .LtE) (i2 fun i j => .bl (decide (i ≤ j))) := opD_i2 op_le fun _ _ _ => .bl _
theorem opD_gt (ft : Fit Ω τ X) : OpD X (compareOp .Gt) (i2 fun i j => .bl (decide (j < i))) := opD_i2 op_gt fun _ _ _ => .bl _
theorem opD_ge (ft : Fit Ω τ X) : OpD X (compareOp .GtE) (i2 fun i j => .bl (decide (j ≤ i))) := opD_i2 op_ge fun _ _ _ => .bl _
theorem opD_sub (ft : Fit Ω τ X) : OpD X (binaryOp .Sub) (i2 fun i j => .int (i - j)) := opD_i2 op_sub fun _ _ _ => .int _
/-- a list that stands still or changes -/
def lstD : D → MH → (List D → Prop) → Prop
  | .lst xs, _, R => R xs
  | .ref a, M, R => ∃ xs, M a = some (.lst xs) ∧ R xs
  | _, _, _ => False
theorem lstD_ok {K : PySem.W.Frag} {F : Hp} {M : MH} {H : Hp} {v : V} {d : D} {R : List D → Prop} (g : G K F M H) (r : Rp K F v d) (h : lstD d M R) : ∃ p ws xs, v = .ref p ∧ H p = some (.lst ws) ∧ RpL K F ws xs ∧ R xs := by
  cases d <;> first | exact h.elim | skip
  case lst xs =>
    cases r with | lst hs hr => exact ⟨_, _, _, rfl, g.ex _ _ hs, hr, h⟩
  case ref a =>
    cases r
    obtain ⟨xs, h1, h2⟩ := h
    obtain ⟨h3, ws, h4, h5⟩ := g.mo _ _ h1
    exact ⟨_, _, _, rfl, h4, h5, h2⟩
def addOp : Op2 := fun x y M Q => match x, y with
  | .int i, .int j => Q (.int (i + j)) M
  | .str x, .str y => lenOk (x.length + y.length) ∧ Q (.str (x ++ y)) M
  | .tup xs, .tup ys => lenOk (xs.length + ys.length) ∧ Q (.tup (xs ++ ys)) M
  | x, y => lstD x M fun xs => lstD y M fun ys => lenOk (xs.length + ys.length) ∧ Q (.lst (xs ++ ys)) M
theorem opD_add (ft : Fit Ω τ X) : OpD X (binaryOp .Add) addOp := by
  intro F M H x y x' y' Q g rx ry h
  have lists : (lstD x' M fun xs => lstD y' M fun ys => lenOk (xs.length + ys.length) ∧ Q (.lst (xs ++ ys)) M) → wOp X (binaryOp .Add) x y H (LQ X.K F Q) := fun h => by
    obtain ⟨p, ws, xs, rfl, h1, h2, h⟩ := lstD_ok g rx h
    obtain ⟨q, us, ys, rfl, h3, h4, hl, hq⟩ := lstD_ok g ry h
    exact wOp_of op_cat ⟨p, q, ws, us, rfl, rfl, h1, h3, by rw [h2.length, h4.length]; exact hl.sz, fun p hp => rp_lstN g hp (h2.append h4) hq⟩
  unfold addOp at h
  split at h
  · cases rx; cases ry
    exact wOp_of op_add ⟨_, _, rfl, rfl, .here g (.int _) h⟩
  · cases rx; cases ry
    exact wOp_of op_add_str ⟨_, _, rfl, rfl, h.1.sz, .here g (.str _) h.2⟩
  · cases rx with | tup hs hr =>
    cases ry with | tup hs2 hr2 =>
    rename_i a1 v1 a2 v2
    refine wOp_of op_catF ⟨_, _, _, _, rfl, rfl, SqT.fz (hs.mono g.ex), SqT.fz (hs2.mono g.ex), by rw [hr.length, hr2.length]; exact h.1.sz, fun e => ?_, fun e => ?_, fun p _ hp => rp_tupN g hp (hr.append hr2) h.2⟩
    · subst e
      cases hr
      exact .here g (.tup hs2 hr2) h.2
    · subst e
      cases hr2
      refine .here g (.tup hs hr) ?_
      have q := h.2
      rw [List.append_nil] at q
      exact q
  · exact lists h
def mulOp : Op2 := fun x y M Q => match x, y with
  | .int i, .int j => (CMul i j ∨ CMulW i j) ∧ Q (.int (i * j)) M
  | .str x, .int j => (0 ≤ j ∧ j ≤ 1000 ∧ x.length ≤ 1000) ∧ Q (.str ⟨(List.replicate j.toNat x.cps).foldl (· ++ ·) #[]⟩) M
  | x, .int j => lstD x M fun xs => (0 ≤ j ∧ j ≤ 1000 ∧ xs.length ≤ 1000) ∧ Q (.lst (List.replicate j.toNat xs).flatten) M
  | _, _ => False
theorem RpL.rep {K : PySem.W.Frag} {F : Hp} {vs : List V} {ds : List D} (r : RpL K F vs ds) : ∀ n : Nat, RpL K F (List.replicate n vs).flatten (List.replicate n ds).flatten
  | 0 => .nil
  | n + 1 => by
    rw [List.replicate_succ, List.replicate_succ, List.flatten_cons, List.flatten_cons]
    exact r.append (r.rep n)
theorem small_mul {n : Nat} {j : Int} (h0 : 0 ≤ j) (h1 : j ≤ 1000) (h2 : n ≤ 1000) : n * j.toNat ≤ 1000000 := by
  have e : j.toNat ≤ 1000 := by omega
  exact Nat.le_trans (Nat.mul_le_mul h2 e) (by decide)
theorem opD_mul (ft : Fit Ω τ X) : OpD X (binaryOp .Mult) mulOp := by
  intro F M H x y x' y' Q g rx ry h
  unfold mulOp at h
  split at h
  · cases rx; cases ry
    rcases h.1 with c | c
    · exact wOp_of op_mul ⟨_, _, rfl, rfl, c, .here g (.int _) h.2⟩
    · exact wOp_of op_mulW ⟨_, _, rfl, rfl, c, .here g (.int _) h.2⟩
  · rename_i z j
    cases rx; cases ry
    obtain ⟨⟨h0, h1, h2⟩, hq⟩ := h
    intro pins s σ v u I rv ru
    obtain ⟨t, rfl⟩ := rv
    obtain ⟨t', rfl⟩ := ru
    have fin : ∀ s', Inv X pins σ H s' → ∀ t, EP X pins σ (LQ X.K F Q) (.str ⟨(List.replicate j.toNat z.cps).foldl (· ++ ·) #[]⟩ t) s' := fun s' I' t => ⟨.str _, H, I', ⟨t, rfl⟩, .here g (.str _) hq⟩
    refine PySem.P.mul_str (by rw [decide_eq_false (by omega : ¬ j < -(2 ^ 63)), decide_eq_false (by omega : ¬ j ≥ 2 ^ 63)]; rfl) (fun h3 _ h4 => ?_) (fun h3 _ => ?_) ?_
    · have hz : ((z.length : Nat) : Int) ≤ 1000 := by omega
      have : (9223372036854775807 : Int) / j ≥ 1000 := by
        refine (Int.le_ediv_iff_mul_le (by omega)).mpr ?_
        omega
      have h4' : ((z.length : Nat) : Int) > (9223372036854775807 : Int) / j := h4
      omega
    · have := small_mul h0 h1 h2
      show decide (_ > _) = false
      refine decide_eq_false ?_
      have : sizeLine ≥ 1000000 := by decide
      show ¬ (z.length * j.toNat > sizeLine)
      omega
    · by_cases c : j < 1
      · rw [if_pos c]
        refine ⟨by decide, ?_⟩
        have e : j.toNat = 0 := by omega
        have f := fin { s with toks := s.toks + 1 } (I.tok _) s.toks
        rw [e] at f
        exact f
      · rw [if_neg c]
        by_cases c2 : (j == 1 || z.length == 0) = true
        · rw [if_pos c2]
          have e : (⟨(List.replicate j.toNat z.cps).foldl (· ++ ·) #[]⟩ : Str) = z := by
            rw [Bool.or_eq_true] at c2
            rcases c2 with c2 | c2
            · have e : j.toNat = 1 := by
                have := beq_iff_eq.mp c2
                omega
              rw [e]
              show (⟨#[] ++ z.cps⟩ : Str) = z
              rw [Array.empty_append]
            · have e0 : z.cps.size = 0 := beq_iff_eq.mp c2
              have e1 : z.cps = #[] := Array.size_eq_zero_iff.mp e0
              have e2 : ∀ (n : Nat) (acc : Array Nat), (List.replicate n z.cps).foldl (· ++ ·) acc = acc := fun n => by
                induction n with
                | zero => intro acc; rfl
                | succ n ih => intro acc; rw [List.replicate_succ, List.foldl_cons, ih, e1, Array.append_empty]
              rw [e2]
              show (⟨#[]⟩ : Str) = z
              rw [← e1]
          have f := fin s I t
          rw [e] at f
          exact f
        · rw [if_neg c2]
          refine ⟨?_, fin _ (I.tok _) _⟩
          have hz : ∀ (n : Nat) (acc : Array Nat), ((List.replicate n z.cps).foldl (· ++ ·) acc).size = acc.size + n * z.cps.size := fun n => by
            induction n with
            | zero => intro acc; simp
            | succ n ih => intro acc; rw [List.replicate_succ, List.foldl_cons, ih, Array.size_append, Nat.succ_mul]; omega
          have h5 := small_mul h0 h1 h2
          have h6 : z.length = z.cps.size := rfl
          show ((List.replicate j.toNat z.cps).foldl (· ++ ·) #[]).size ≤ sizeLine
          rw [hz, ← h6, Nat.mul_comm]
          have : sizeLine ≥ 1000000 := by decide
          show 0 + _ ≤ _
          omega
  · rename_i z j hns hni
    cases ry
    obtain ⟨p, ws, xs, rfl, h1, h2, ⟨h3, h4, h5⟩, hq⟩ := lstD_ok g rx h
    refine wOp_of op_rep ⟨_, _, _, rfl, rfl, h1, by omega, by omega, ?_, fun p hp => rp_lstN g hp (h2.rep _) hq⟩
    rw [h2.length]
    exact Nat.le_trans (small_mul h3 h4 h5) (by decide)
  · exact h.elim
def divOp : Op2 := fun x y M Q => match x, y with
  | .int i, .int j => (0 < j ∧ j.natAbs.log2 < 9000) ∧ Q (.int (i / j)) M
  | _, _ => False
theorem opD_div (ft : Fit Ω τ X) : OpD X (binaryOp .FloorDiv) divOp := by
  intro F M H x y x' y' Q g rx ry h
  unfold divOp at h
  split at h
  · cases rx; cases ry
    exact wOp_of op_fdivW ⟨_, _, rfl, rfl, h.1, .here g (.int _) h.2⟩
  · exact h.elim
def modOp : Op2 := fun x y M Q => match x, y with
  | .int i, .int j => 0 < j ∧ Q (.int (i % j)) M
  | _, _ => False
theorem opD_mod (ft : Fit Ω τ X) : OpD X (binaryOp .Mod) modOp := by
  intro F M H x y x' y' Q g rx ry h
  unfold modOp at h
  split at h
  · cases rx; cases ry
    exact wOp_of op_mod ⟨_, _, rfl, rfl, h.1, .here g (.int _) h.2⟩
  · exact h.elim
def powOp : Op2 := fun x y M Q => match x, y with
  | .int i, .int j => CPow i j ∧ Q (.int (i ^ j.toNat)) M
  | _, _ => False
theorem opD_pow (ft : Fit Ω τ X) : OpD X (binaryOp .Pow) powOp := by
  intro F M H x y x' y' Q g rx ry h
  unfold powOp at h
  split at h
  · cases rx; cases ry
    exact wOp_of op_pow ⟨_, _, rfl, rfl, h.1, .here g (.int _) h.2⟩
  · exact h.elim
/-- is None, is not None; is True .. -/
def isOp : Op2 := fun x y M Q => match x, y with
  | .non, .non => Q (.bl true) M
  | .bl a, .bl b => Q (.bl (decide (a = b))) M
  | _, .non => Q (.bl false) M
  | _, _ => False
def isntOp : Op2 := fun x y M Q => match x, y with
  | .non, .non => Q (.bl false) M
  | .bl a, .bl b => Q (.bl (!decide (a = b))) M
  | _, .non => Q (.bl true) M
  | _, _ => False
theorem rp_nonN {K : PySem.W.Frag} {F : Hp} {v : V} {d : D} (r : Rp K F v d) (h : d ≠ .non) : decide (v = V.non) = false := by
  refine decide_eq_false fun e => ?_
  subst e
  cases r
  exact h rfl
theorem opD_is (ft : Fit Ω τ X) : OpD X (compareOp .Is) isOp := by
  intro F M H x y x' y' Q g rx ry h
  cases y'
  case non =>
    cases ry
    by_cases hx : x' = .non
    · subst hx; cases rx
      exact wOp_of op_isN ⟨rfl, .here g (.bl _) h⟩
    · have q : Q (.bl false) M := by cases x' <;> first | exact h | exact absurd rfl hx
      refine wOp_of op_isN ⟨rfl, ?_⟩
      rw [rp_nonN rx hx]
      exact .here g (.bl _) q
  case bl b =>
    cases x' <;> first | exact h.elim | skip
    cases rx; cases ry
    exact wOp_of op_isBl ⟨_, _, rfl, rfl, .here g (.bl _) h⟩
  all_goals exact (by cases x' <;> exact h.elim)
theorem opD_isnt (ft : Fit Ω τ X) : OpD X (compareOp .IsNot) isntOp := by
  intro F M H x y x' y' Q g rx ry h
  cases y'
  case non =>
    cases ry
    by_cases hx : x' = .non
    · subst hx; cases rx
      exact wOp_of op_notN ⟨rfl, .here g (.bl _) h⟩
    · have q : Q (.bl true) M := by cases x' <;> first | exact h | exact absurd rfl hx
      refine wOp_of op_notN ⟨rfl, ?_⟩
      rw [rp_nonN rx hx]
      exact .here g (.bl _) q
  case bl b =>
    cases x' <;> first | exact h.elim | skip
    cases rx; cases ry
    exact wOp_of op_notBl ⟨_, _, rfl, rfl, .here g (.bl _) h⟩
  all_goals exact (by cases x' <;> exact h.elim)
end
end DL

/-! The deep layer, part d: statements, targets, what a for walks, loops. -/
namespace DL
open PySem PySem.Spec PyProof.Rows L2
section
variable {Ω : Wl} {τ : Sx} {X : Cx} {a b c e tg iter : Expr} {es rest : List Expr} {da db dc de : DE} {ta tb : DT} {tl tr : DA} {pos p p2 : Pos} {x : Str} {st : Stmt} {sts sts2 : List Stmt} {ds ds2 : DS} {vs : List Nat} {gs : List Str}

/-! ### blocks and small statements -/
def dNext : DS := fun D _ σ M => D.nx σ M
def dSeq (t u : DS) : DS := fun D E σ M => t { D with nx := fun σ M => u D E σ M } E σ M
def dDrop (d : DE) : DS := fun D E σ M => d σ M (fun _ M1 => D.nx σ M1) E
def dRet (d : DE) : DS := fun D E σ M => d σ M D.rt E
def dRetN : DS := fun D _ _ M => D.rt .non M
def dIfS (c : DT) (t u : DS) : DS := fun D E σ M => c σ M (fun b M1 => (b = true → t D E σ M1) ∧ (b = false → u D E σ M1)) E
def dBreak : DS := fun D _ σ M => D.bk σ M
def dCont : DS := fun D _ σ M => D.ct σ M
def dNever : DS := fun _ _ _ _ => False
theorem wS_LE {F F' : Hp} {D : DEnds} {σ : L2.St} {H : Hp} (e : Ex F F') (h : wS X st (LE X.K F' D) σ H) : wS X st (LE X.K F D) σ H := wS_mono h (LE.back e)
theorem wSs_LE {F F' : Hp} {D : DEnds} {σ : L2.St} {H : Hp} (e : Ex F F') (h : wSs X sts (LE X.K F' D) σ H) : wSs X sts (LE X.K F D) σ H := wSs_mono h (LE.back e)
theorem dpss_nil : DPSs Ω τ [] dNext := Hd.mk fun X ft F0 E tk F M H σ σ' D e0 g r h => wSs_of pss_nil ⟨F, M, σ', Ex.refl F, g, r, h⟩
theorem dpss_cons (h1 : DPS Ω τ st ds) (h2 : DPSs Ω τ sts ds2) : DPSs Ω τ (st :: sts) (dSeq ds ds2) := Hd.mk fun X ft F0 E tk F M H σ σ' D e0 g r h => by
  refine wSs_of (pss_cons ps_wS pss_wSs) (wS_mono (h1.run X ft F0 E tk F M H σ σ' _ e0 g r h) ⟨?_, fun _ _ z => z, fun _ _ z => z, fun _ _ z => z⟩)
  rintro σ1 H1 ⟨F1, M1, σ1', e1, g1, r1, q⟩
  exact wSs_LE e1 (h2.run X ft F0 E tk F1 M1 H1 σ1 σ1' D (e0.trans e1) g1 r1 q)
theorem dpss_one (h1 : DPS Ω τ st ds) : DPSs Ω τ [st] ds := Hd.mk fun X ft F0 E tk F M H σ σ' D e0 g r h => wSs_of (pss_one ps_wS) (h1.run X ft F0 E tk F M H σ σ' D e0 g r h)
theorem dpss_never : DPSs Ω τ sts dNever := Hd.mk fun X ft F0 E tk F M H σ σ' D e0 g r h => h.elim
theorem dps_never : DPS Ω τ st dNever := Hd.mk fun X ft F0 E tk F M H σ σ' D e0 g r h => h.elim
theorem dps_pass : DPS Ω τ (.Pass pos) dNext := Hd.mk fun X ft F0 E tk F M H σ σ' D e0 g r h => wS_of ps_pass ⟨F, M, σ', Ex.refl F, g, r, h⟩
theorem dps_break : DPS Ω τ (.Break pos) dBreak := Hd.mk fun X ft F0 E tk F M H σ σ' D e0 g r h => wS_of ps_break ⟨F, M, σ', Ex.refl F, g, r, h⟩
theorem dps_continue : DPS Ω τ (.Continue pos) dCont := Hd.mk fun X ft F0 E tk F M H σ σ' D e0 g r h => wS_of ps_continue ⟨F, M, σ', Ex.refl F, g, r, h⟩
theorem dps_doc {z j pos'} : DPS Ω τ (.Expr (.Constant (.str z) j pos) pos') dNext := Hd.mk fun X ft F0 E tk F M H σ σ' D e0 g r h => wS_of ps_doc ⟨F, M, σ', Ex.refl F, g, r, h⟩
theorem dps_expr (he : DP Ω τ e de) (hs : ∀ env, swapsWith e none pos.line env = pure false := by intro _; rfl) : DPS Ω τ (.Expr e pos) (dDrop de) := Hd.mk fun X ft F0 E tk F M H σ σ' D e0 g r h =>
  wS_of (ps_expr pe_wE (hs _)) (wE_mono (he.run X ft F0 E tk F M H σ σ' _ e0 g r h) fun v H1 ⟨F1, M1, y, e1, g1, _, q⟩ => ⟨F1, M1, σ', e1, g1, r.mono e1, q⟩)
theorem dps_ret (he : DP Ω τ e de) : DPS Ω τ (.Return (some e) pos) (dRet de) := Hd.mk fun X ft F0 E tk F M H σ σ' D e0 g r h =>
  wS_of (ps_ret pe_wE) (he.run X ft F0 E tk F M H σ σ' _ e0 g r h)
theorem dps_retN : DPS Ω τ (.Return none pos) dRetN := Hd.mk fun X ft F0 E tk F M H σ σ' D e0 g r h => wS_of ps_retN (.here g .non h)
theorem dps_if {aa bb : List Stmt} (hc : DPT Ω τ c ta) (ha : DPSs Ω τ aa ds) (hb : DPSs Ω τ bb ds2) : DPS Ω τ (.If c aa bb pos) (dIfS ta ds ds2) := Hd.mk fun X ft F0 E tk F M H σ σ' D e0 g r h => by
  refine wS_of (ps_if pt_wT pss_wSs pss_wSs) (wT_mono (hc.run X ft F0 E tk F M H σ σ' _ e0 g r h) ?_)
  rintro k H1 ⟨F1, M1, e1, g1, q1, q2⟩
  cases k with
  | true => exact iteT (wSs_LE e1 (ha.run X ft F0 E tk F1 M1 H1 σ σ' D (e0.trans e1) g1 (r.mono e1) (q1 rfl)))
  | false => exact iteF (wSs_LE e1 (hb.run X ft F0 E tk F1 M1 H1 σ σ' D (e0.trans e1) g1 (r.mono e1) (q2 rfl)))
/-- a list that changed is from now on one that stands still -/
def dFrz (d : DE) : DE := fun σ M Q E => d σ M (fun x M1 => match x with
  | .ref a => ∃ xs, M1 a = some (.lst xs) ∧ Q (.lst xs) (M1.del a)
  | x => Q x M1) E
theorem dp_frz (h : DP Ω τ e de) : DP Ω τ e (dFrz de) := Hd.mk fun X ft F0 E tk F M H σ σ' Q e0 g r hd => by
  refine wE_mono (h.run X ft F0 E tk F M H σ σ' _ e0 g r hd) ?_
  rintro v H1 ⟨F1, M1, y, e1, g1, r1, q⟩
  cases y
  case ref b =>
    obtain ⟨xs, h1, h2⟩ := q
    cases r1
    obtain ⟨h3, ws, h4, h5⟩ := g1.mo _ _ h1
    have ex : Ex F1 (upd F1 b (.lst ws)) := Ex.new h3
    refine ⟨upd F1 b (.lst ws), M1.del b, .lst xs, e1.trans ex, ⟨fun p o q => ?_, fun p o q => ?_⟩, .lst upd_same (h5.mono ex), h2⟩
    · by_cases hb : p = b
      · subst hb; rw [upd_same] at q; cases q; exact h4
      · rw [upd_ne hb] at q; exact g1.ex _ _ q
    · have hb : p ≠ b := fun z => by subst z; unfold MH.del at q; rw [if_pos rfl] at q; cases q
      unfold MH.del at q
      rw [if_neg hb] at q
      obtain ⟨k1, k2⟩ := g1.mo p o q
      exact ⟨by rw [upd_ne hb]; exact k1, k2.mono ex rfl⟩
  all_goals exact ⟨F1, M1, _, e1, g1, r1, q⟩
theorem MH.del_put {M : MH} {a : Addr} {o : MO} (h : M a = none) : (M.put a o).del a = M := by
  funext b
  unfold MH.del MH.put
  by_cases hb : b = a
  · subst hb; rw [if_pos rfl, h]
  · rw [if_neg hb, if_neg hb]

/-! ### targets -/
abbrev DG := D → DSt → MH → (DSt → MH → Prop) → EK → Prop
abbrev DGs := List D → DSt → MH → (DSt → MH → Prop) → EK → Prop
def wG (X : Cx) (tg : Expr) : TG := fun v σ H Q => ∀ pins s u, Inv X pins σ H s → RelV v u → wpAny (model X.prog X.w) X.A (assign tg X.env u) (fun _ s' => ∃ σ' H', Inv X pins σ' H' s' ∧ Q σ' H') X.xe s
theorem pg_wG : PG X tg (wG X tg) := ⟨fun pins s _ _ _ u _ I r h => h pins s u I r⟩
theorem wG_of {t : TG} (h : PG X tg t) {v : V} {σ : L2.St} {H : Hp} {Q : L2.St → Hp → Prop} (q : t v σ H Q) : wG X tg v σ H Q := fun pins s u I r => h.run pins s σ H v u Q I r q
theorem wG_mono {v : V} {σ : L2.St} {H : Hp} {Q Q' : L2.St → Hp → Prop} (h : wG X tg v σ H Q) (k : ∀ σ H, Q σ H → Q' σ H) : wG X tg v σ H Q' := fun pins s u I r =>
  thn (h pins s u I r) fun _ _ ⟨σ', H', I', q⟩ => ⟨σ', H', I', k _ _ q⟩
def wGs (X : Cx) (tgs : List Expr) : TGs := fun vs σ H Q => ∀ pins s us, Inv X pins σ H s → Vals vs us → wpAny (model X.prog X.w) X.A (assignInOrder ((assignEach tgs X.env).map (·.2)) us) (fun _ s' => ∃ σ' H', Inv X pins σ' H' s' ∧ Q σ' H') X.xe s
theorem pgs_wGs {tgs : List Expr} : PGs X tgs (wGs X tgs) := ⟨fun pins s _ _ _ us _ I r h => h pins s us I r⟩
theorem wGs_of {tgs : List Expr} {t : TGs} (h : PGs X tgs t) {v : List V} {σ : L2.St} {H : Hp} {Q : L2.St → Hp → Prop} (q : t v σ H Q) : wGs X tgs v σ H Q := fun pins s u I r => h.run pins s σ H v u Q I r q
theorem wGs_mono {tgs : List Expr} {v : List V} {σ : L2.St} {H : Hp} {Q Q' : L2.St → Hp → Prop} (h : wGs X tgs v σ H Q) (k : ∀ σ H, Q σ H → Q' σ H) : wGs X tgs v σ H Q' := fun pins s u I r =>
  thn (h pins s u I r) fun _ _ ⟨σ', H', I', q⟩ => ⟨σ', H', I', k _ _ q⟩
/-- only the slots is are stored to -/
def Kept (is : List Nat) (σ σ2 : L2.St) : Prop := σ2.length = σ.length ∧ ∀ j : Nat, j ∉ is → σ2[j]? = σ[j]?
theorem Kept.refl {is : List Nat} {σ : L2.St} : Kept is σ σ := ⟨rfl, fun _ _ => rfl⟩
theorem Kept.trans {is js : List Nat} {σ σ2 σ3 : L2.St} (a : Kept is σ σ2) (b : Kept js σ2 σ3) : Kept (is ++ js) σ σ3 :=
  ⟨b.1.trans a.1, fun j h => (b.2 j fun z => h (List.mem_append_right _ z)).trans (a.2 j fun z => h (List.mem_append_left _ z))⟩
theorem Kept.one {i : Nat} {σ : L2.St} {v : Option V} : Kept [i] σ (σ.set i v) := ⟨List.length_set, fun j h => List.getElem?_set_ne (fun z => h (by simp [z]))⟩
def LK (K : PySem.W.Frag) (F : Hp) (is : List Nat) (σ : L2.St) (Q : DSt → MH → Prop) : L2.St → Hp → Prop := fun σ2 H2 => Kept is σ σ2 ∧ LS K F Q σ2 H2
def DPG (Ω : Wl) (τ : Sx) (is : List Nat) (tg : Expr) (gd : DG) : Prop := Hd (∀ X, Fit Ω τ X → ∀ F0 E, TkD X F0 E → ∀ F M H σ σ' v d Q, Ex F0 F → G X.K F M H → RpS X.K F σ σ' → Rp X.K F v d → gd d σ' M Q E → wG X tg v σ H (LK X.K F is σ Q))
def DPGs (Ω : Wl) (τ : Sx) (is : List Nat) (tgs : List Expr) (gd : DGs) : Prop := Hd (∀ X, Fit Ω τ X → ∀ F0 E, TkD X F0 E → ∀ F M H σ σ' v d Q, Ex F0 F → G X.K F M H → RpS X.K F σ σ' → RpL X.K F v d → gd d σ' M Q E → wGs X tgs v σ H (LK X.K F is σ Q))
def dgName (i : Nat) : DG := fun d σ M Q _ => Q (σ.set i (some d)) M
/-- which slots may be stored -/
structure StOk (N : List Str) (ls : List Nat) (sc : Scope) (own : Str → Bool) : Prop where
  loc : ∀ i ∈ ls, ∀ x, N[i]? = some x → L2.Loc sc x ∧ own x = true
def stOkB (N : List Str) (ls : List Nat) (sc : Scope) (own : Str → Bool) : Bool := ls.all fun i => match N[i]? with
  | some x => own x && match sc.names.lookup x with
    | some .local => true
    | some .cell => true
    | _ => false
  | none => true
theorem stOk_of {N : List Str} {ls : List Nat} {sc : Scope} {own : Str → Bool} (h : stOkB N ls sc own = true) : StOk N ls sc own := by
  unfold stOkB at h
  rw [List.all_eq_true] at h
  refine ⟨fun i hi x hx => ?_⟩
  have q := h i hi
  simp only [hx, Bool.and_eq_true] at q
  obtain ⟨q0, q⟩ := q
  refine ⟨?_, q0⟩
  unfold L2.Loc
  split at q
  · exact .inl (by assumption)
  · exact .inr (by assumption)
  · cases q
theorem fit_loc (ft : Fit Ω τ X) {ls : List Nat} (L : StOk τ.N ls τ.sc τ.own) {i : Nat} (hN : τ.N[i]? = some x) (hi : i ∈ ls) : L2.Loc X.env.scope x := by
  have q := (L.loc i hi x hN).1
  rw [← ft.sc] at q
  exact q
theorem dpg_name {ls : List Nat} (L : StOk τ.N ls τ.sc τ.own) (i : Nat) (hN : τ.N[i]? = some x := by rfl) (hi : i ∈ ls := by decide) : DPG Ω τ [i] (.Name x pos) (dgName i) := Hd.mk fun X ft F0 E tk F M H σ σ' v d Q e0 g r rv h =>
  wG_of (pg_name (i := i) (by rw [ft.N]; exact ft.nd) (by rw [ft.N]; exact hN) (fit_loc ft L hN hi) (ft.fn x (L.loc i hi x hN).2 (L.loc i hi x hN).1)) ⟨.one, F, M, _, Ex.refl F, g, r.set1 i rv, h⟩
def dgNil : DGs := fun vs σ M Q _ => vs = [] ∧ Q σ M
def dgCons (t : DG) (u : DGs) : DGs := fun vs σ M Q E => match vs with
  | v :: r => t v σ M (fun σ' M' => u r σ' M' Q E) E
  | [] => False
theorem dpgs_nil : DPGs Ω τ [] [] dgNil := Hd.mk fun X ft F0 E tk F M H σ σ' v d Q e0 g r rv h => by
  obtain ⟨rfl, h⟩ := h
  cases rv
  exact wGs_of pgs_nil ⟨rfl, .refl, F, M, σ', Ex.refl F, g, r, h⟩
theorem dpgs_cons {is js : List Nat} {gd : DG} {gds : DGs} (h1 : DPG Ω τ is e gd) (h2 : DPGs Ω τ js es gds) (hs : ∀ env, (assignEach (e :: es) env).map (·.2) = assign e env :: (assignEach es env).map (·.2) := by intro _; rfl) : DPGs Ω τ (is ++ js) (e :: es) (dgCons gd gds) := Hd.mk fun X ft F0 E tk F M H σ σ' v d Q e0 g r rv h => by
  cases d with
  | nil => exact h.elim
  | cons d dr =>
    cases rv with | cons rv rr =>
    refine wGs_of (pgs_cons pg_wG pgs_wGs (hs X.env)) ⟨_, _, rfl, wG_mono (h1.run X ft F0 E tk F M H σ σ' _ d _ e0 g r rv h) ?_⟩
    rintro σ1 H1 ⟨k1, F1, M1, σ1', e1, g1, r1, q⟩
    refine wGs_mono (h2.run X ft F0 E tk F1 M1 H1 σ1 σ1' _ dr Q (e0.trans e1) g1 r1 (rr.mono e1) q) fun _ _ ⟨k2, z⟩ => ⟨k1.trans k2, z.back e1⟩
def dgTup (n : Nat) (t : DGs) : DG := fun v σ M Q E => match v with
  | .tup xs => xs.length = n ∧ t xs σ M Q E
  | .lst xs => xs.length = n ∧ t xs σ M Q E
  | .wtp xs => xs.length = n ∧ t xs σ M Q E
  | _ => False
theorem dpg_tup {k n : Nat} {is : List Nat} {gds : DGs} (h : DPGs Ω τ is es gds) (hc : τ.calm = true := by rfl) (hn : ∀ env, (assignEach es env).length = n := by intro _; rfl) (hst : ∀ env, (assignEach es env).findIdx? (·.1) = none := by intro _; rfl) : DPG Ω τ is (.Tuple es k pos) (dgTup n gds) := Hd.mk fun X ft F0 E tk F M H σ σ' v d Q e0 g r rv hd => by
  cases d <;> first | exact hd.elim | skip
  case tup xs =>
    cases rv with | tup hs hr =>
    exact wG_of (pg_tup (ft.calm hc) pgs_wGs (hn _) (hst _)) ⟨_, _, rfl, SqT.fz (hs.mono g.ex), hr.length.trans hd.1, h.run X ft F0 E tk F M H σ σ' _ xs Q e0 g r hr hd.2⟩
  case lst xs =>
    cases rv with | lst hs hr =>
    exact wG_of (pg_lst (ft.calm hc) pgs_wGs (hn _) (hst _)) ⟨_, _, rfl, SqL.of (g.ex _ _ hs), hr.length.trans hd.1, h.run X ft F0 E tk F M H σ σ' _ xs Q e0 g r hr hd.2⟩
  case wtp xs =>
    cases rv with | wtp hs hr =>
    exact wG_of (pg_tup (ft.calm hc) pgs_wGs (hn _) (hst _)) ⟨_, _, rfl, g.ex.st hs, hr.length.trans hd.1, h.run X ft F0 E tk F M H σ σ' _ xs Q e0 g r hr hd.2⟩
/-- o[i] = v of a list that may change -/
def dgSub (da db : DE) : DG := fun v σ M Q E => da σ M (fun o M1 => db σ M1 (fun i M2 => match o, i with
  | .ref a, .int k => ∃ xs, M2 a = some (.lst xs) ∧ ∃ j, ixN xs.length k = some j ∧ Q σ (M2.put a (.lst (xs.set j v)))
  | _, _ => False) E) E
theorem dpg_sub (ha : DP Ω τ a da) (hb : DP Ω τ b db) (hx : ∀ env v, assign (.Subscript a b pos) env v = (do
      let ov ← holding [v] (eval a env)
      let iv ← holding [v, ov] (eval b env)
      standAt pos
      holding [v, ov, iv] (setItem ov iv v)
      release [v, ov, iv] []) := by intro _ _; rfl) : DPG Ω τ [] (.Subscript a b pos) (dgSub da db) := Hd.mk fun X ft F0 E tk F M H σ σ' v d Q e0 g r rv h => by
  refine wG_of (pg_sub pe_wE pe_wE set_list (hx X.env)) (go2 ha hb ft tk e0 g r h ?_)
  intro F' M' H' o i o' i' e' g' ro ri q
  cases o' <;> first | exact q.elim | skip
  cases i' <;> first | exact q.elim | skip
  obtain ⟨xs, h1, j, h2, h3⟩ := q
  cases ro; cases ri
  obtain ⟨h4, ws, h5, h6⟩ := g'.mo _ _ h1
  refine ⟨_, ws, _, j, rfl, rfl, h5, by rw [h6.length]; exact h2, .refl, F', _, σ', e', g'.set h1 (o := .lst (ws.set j v)) (u := .lst (xs.set j d)) ⟨_, upd_same, h6.set j (rv.mono e')⟩, r.mono e', h3⟩
def dAsg (d : DE) (gd : DG) : DS := fun D E σ M => d σ M (fun x M1 => gd x σ M1 D.nx E) E
theorem dps_asg {is : List Nat} {gd : DG} (he : DP Ω τ e de) (hg : DPG Ω τ is tg gd) (hs : ∀ env, swapsWithSole [tg] e pos.line env = pure false := by intro _; rfl) (hw : ∀ env, swappedStores [tg] e env = pure none := by intro _; rfl) (h1 : ∀ env, (assignEach [tg] env).map (·.2) = [assign tg env] := by intro _; rfl) :
    DPS Ω τ (.Assign [tg] e pos) (dAsg de gd) := Hd.mk fun X ft F0 E tk F M H σ σ' D e0 g r h => by
  refine wS_of (ps_asg pe_wE pg_wG (hs _) (hw _) (h1 _)) (wE_mono (he.run X ft F0 E tk F M H σ σ' _ e0 g r h) ?_)
  rintro v H1 ⟨F1, M1, y, e1, g1, r1, q⟩
  exact wG_mono (hg.run X ft F0 E tk F1 M1 H1 σ σ' v y _ (e0.trans e1) g1 (r.mono e1) r1 q) fun _ _ z => z.2.back e1
/-- name = value -/
def dSet (i : Nat) (d : DE) : DS := fun D E σ M => d σ M (fun x M1 => D.nx (σ.set i (some x)) M1) E
theorem dps_set {ls : List Nat} {p' : Pos} (L : StOk τ.N ls τ.sc τ.own) (i : Nat) (he : DP Ω τ e de) (hN : τ.N[i]? = some x := by rfl) (hi : i ∈ ls := by decide) (hs : ∀ env, swapsWith e (some (.Name x p')) pos.line env = pure false := by intro _; rfl) : DPS Ω τ (.Assign [.Name x p'] e pos) (dSet i de) := Hd.mk fun X ft F0 E tk F M H σ σ' D e0 g r h => by
  refine wS_of (ps_set (i := i) (by rw [ft.N]; exact ft.nd) (by rw [ft.N]; exact hN) (fit_loc ft L hN hi) pe_wE (hs _) (ft.fn x (L.loc i hi x hN).2 (L.loc i hi x hN).1)) (wE_mono (he.run X ft F0 E tk F M H σ σ' _ e0 g r h) ?_)
  rintro v H1 ⟨F1, M1, y, e1, g1, r1, q⟩
  exact ⟨F1, M1, _, e1, g1, (r.mono e1).set1 i r1, q⟩
/-- a, b = x, y -/
def dPar (i j : Nat) (t : DA) : DS := fun D E σ M => t σ M (fun vs M1 => match vs with
  | [v, w] => D.nx ((σ.set i (some v)).set j (some w)) M1
  | _ => False) E
theorem dps_par {ls : List Nat} {y : Str} {px py pt : Pos} {kt k2 pt2} (L : StOk τ.N ls τ.sc τ.own) (i j : Nat) (ha : DPA Ω τ [a, b] tl) (hN : τ.N[i]? = some x := by rfl) (hM : τ.N[j]? = some y := by rfl) (hij : i ≠ j := by decide) (hx : τ.sc.names.lookup x = some .local := by rfl) (hy : τ.sc.names.lookup y = some .local := by rfl) (hc : τ.calm = true := by rfl)
    (hw : ∀ env : Env, env.scope = τ.sc → swappedStores [.Tuple [.Name x px, .Name y py] kt pt] (.Tuple [a, b] k2 pt2) env = pure (some [x, y]))
    (hs : ∀ env, swapsWithSole [.Tuple [.Name x px, .Name y py] kt pt] (.Tuple [a, b] k2 pt2) pos.line env = pure false := by intro _; rfl) :
    DPS Ω τ (.Assign [.Tuple [.Name x px, .Name y py] kt pt] (.Tuple [a, b] k2 pt2) pos) (dPar i j tl) := Hd.mk fun X ft F0 E tk F M H σ σ' D e0 g r h => by
  refine wS_of (ps_par (i := i) (j := j) (ft.calm hc) (by rw [ft.N]; exact ft.nd) (by rw [ft.N]; exact hN) (by rw [ft.N]; exact hM) hij (by rw [ft.sc]; exact hx) (by rw [ft.sc]; exact hy) pa_wA (hw _ ft.sc) (hs _)) (wA_mono (ha.run X ft F0 E tk F M H σ σ' _ e0 g r h) ?_)
  rintro vs H1 ⟨F1, M1, ys, e1, g1, r1, q⟩
  match ys, r1, q with
  | [y1, y2], .cons q1 (.cons q2 .nil), q => exact ⟨_, _, rfl, F1, M1, _, e1, g1, ((r.mono e1).set1 i q1).set1 j q2, q⟩
/-- name += e, ints -/
def dAugI (i : Nat) (f : Int → Int → Int) (d : DE) : DS := fun D E σ M => match σ[i]? with
  | some (some (.int k)) => d σ M (fun y M1 => match y with
    | .int l => D.nx (σ.set i (some (.int (f k l)))) M1
    | _ => False) E
  | _ => False
theorem dps_augI {ls : List Nat} {p' : Pos} (L : StOk τ.N ls τ.sc τ.own) (i : Nat) (he : DP Ω τ e de) (hN : τ.N[i]? = some x := by rfl) (hi : i ∈ ls := by decide) : DPS Ω τ (.AugAssign (.Name x p') .Add e pos) (dAugI i (· + ·) de) := Hd.mk fun X ft F0 E tk F M H σ σ' D e0 g r h => by
  unfold dAugI at h
  split at h
  · rename_i k hk
    obtain ⟨v, hv, rv⟩ := r.get hk
    cases rv
    refine wS_of (ps_aug (i := i) (by rw [ft.N]; exact ft.nd) (by rw [ft.N]; exact hN) (fit_loc ft L hN hi) pe_wE (fun pins s σ H x y v u Q I rx ry h => iop_add pins s σ H x y v u Q I rx ry h) (ft.fn x (L.loc i hi x hN).2 (L.loc i hi x hN).1)) ⟨_, hv, wE_mono (he.run X ft F0 E tk F M H σ σ' _ e0 g r h) ?_⟩
    rintro v H1 ⟨F1, M1, y, e1, g1, r1, q⟩
    cases y <;> first | exact q.elim | skip
    cases r1
    exact ⟨_, _, rfl, rfl, F1, M1, _, e1, g1, (r.mono e1).set1 i (.int _), q⟩
  · exact h.elim

/-! ### what a for walks -/
/-- an iterator that gives xs, one by one, while F stands -/
structure WkD (K : PySem.W.Frag) (F : Hp) (J : It) (xs : List D) : Prop where
  go : ∀ i H, Ex F H → i < xs.length → J.go i H
  yld : ∀ i F1 M H v H' d, Ex F F1 → G K F1 M H → xs[i]? = some d → J.yld i H v H' → ∃ F2, Ex F1 F2 ∧ G K F2 M H' ∧ Rp K F2 v d
  stop : ∀ i H, Ex F H → xs.length ≤ i → J.stop i H
abbrev DI := DSt → MH → (List D → MH → Prop) → EK → Prop
def wI (X : Cx) (tg e : Expr) : TI := fun σ H R => ∀ pins s, Inv X pins σ H s → wpAny (model X.prog X.w) X.A (eval e X.env) (fun v s1 => wpAny (model X.prog X.w) X.A (pyIter v) (PIE X pins σ tg R) X.xe s1) X.xe s
theorem pi_wI : PI X tg iter (wI X tg iter) := ⟨fun pins s _ _ _ I h => h pins s I⟩
theorem wI_of {t : TI} (h : PI X tg iter t) {σ : L2.St} {H : Hp} {R : It → Hp → Prop} (q : t σ H R) : wI X tg iter σ H R := fun pins s I => h.run pins s σ H R I q
theorem wI_mono {σ : L2.St} {H : Hp} {R R' : It → Hp → Prop} (h : wI X tg iter σ H R) (k : ∀ J H, R J H → R' J H) : wI X tg iter σ H R' := fun pins s I =>
  thn (h pins s I) fun _ _ z => thn z fun _ _ ⟨it, fp, tn, J, H', h1, h2, h3, h4, h5, h6⟩ => ⟨it, fp, tn, J, H', h1, h2, h3, h4, h5, k _ _ h6⟩
def LI (K : PySem.W.Frag) (F : Hp) (R : List D → MH → Prop) : It → Hp → Prop := fun J H => ∃ F' M' xs, Ex F F' ∧ G K F' M' H ∧ WkD K F' J xs ∧ R xs M'
def DPI (Ω : Wl) (τ : Sx) (tg e : Expr) (di : DI) : Prop := Hd (∀ X, Fit Ω τ X → ∀ F0 E, TkD X F0 E → ∀ F M H σ σ' R, Ex F0 F → G X.K F M H → RpS X.K F σ σ' → di σ' M R E → wI X tg e σ H (LI X.K F R))
theorem sqL_inj {K : PySem.W.Frag} {H : Hp} {a : Addr} {xs ys : List V} {o : HO} (h : H a = some o) (ho : o = .lst xs) (h' : SqL K H a ys) (hk : K.lookup a = none) : xs = ys := by
  subst ho
  rcases h' with (h' | ⟨o, h'⟩) | ⟨o, _, _, hl, _⟩
  · rw [h] at h'; cases h'; rfl
  · rw [h] at h'; cases h'
  · rw [hk] at hl; cases hl
/-- a sequence that stands still: tuple, list, the script -/
def dSeqI (d : DE) : DI := fun σ M R E => d σ M (fun x M1 => match x with
  | .tup xs => R xs M1
  | .wtp xs => R xs M1
  | .lst xs => R xs M1
  | .scr ns => R (ns.map D.int) M1
  | _ => False) E
end
end DL

/-! The deep layer, part e: what a for walks: sequences, ranges, enumerate, zip; for, while. -/
namespace PySem
theorem meets_enumerate_new1 {v : Value} {o : Obj} {H : Heap → Prop} (B : Begins v o H) :
    Meets (Builtin.«enumerate.__new__» ⟨[.type "enumerate", v], []⟩) (fun _ R s => H s.heap ∧
      R (.ok (.ret (.ref (s.heap.push o).objs.size))) { s with heap := (s.heap.push o).push { cls := .type "enumerate", data := .fields #[.none, .bool false, .ref s.heap.objs.size, rawInt 0, .none, .none] } }) :=
  .of_wp fun prog w A R s h => by
    obtain ⟨hp, g, d, tk, os⟩ := s; obtain ⟨h1, h⟩ := h
    have hsub := sub_enumerate
    have q1 : ∀ {A' : Around} {E : Value → Shared → Prop} {Q : Value → Shared → Prop}, Q (.ref hp.objs.size) ⟨hp.push o, g, d, tk, os⟩ → wpAny (model prog w) A' (pyIter v) Q E ⟨hp, g, d, tk, os⟩ :=
      fun q => B.iter prog w _ _ ⟨hp, g, d, tk, os⟩ _ h1 q
    wp_walk using q1
    refine wpAny_stack_any fun st => wpAny_pure ?_
    split
    · rename_i c _ _ _ _ _
      cases (c == Value.type "enumerate")
      · wp_walk using q1
        exact ⟨_, rfl, h⟩
      · wp_walk using q1
        exact ⟨_, rfl, h⟩
    · wp_walk using q1
      exact ⟨_, rfl, h⟩
section
variable {prog : Program} {w : World} {A : Around} {E : Value → Shared → Prop} {s : Shared}
theorem enum_begins1 {v : Value} {o : Obj} {H : Heap → Prop} {Q : Value → Shared → Prop} (B : Begins v o H) (h1 : H s.heap)
    (h : ∀ h', IsEnum h' (s.heap.objs.size + 1) s.heap.objs.size 0 .none → h'.get? s.heap.objs.size = some o → h'.objs.size = s.heap.objs.size + 2 →
      (∀ b o, s.heap.get? b = some o → h'.get? b = some o) → Q (.ref (s.heap.objs.size + 1)) { s with heap := h' }) :
    wpAny (model prog w) A (call (.type "enumerate") [v]) Q E s := by
  refine callType_new F.called_enumerate (by decide) (F.typeCall_enumerate_1 _) (F.newCall_enumerate_1 _) (fun obj => F.args_object_init_2 obj _) F.entry_enumerate_new
    (meets_enumerate_new1 B) ⟨h1, ?_⟩
  have hz : (s.heap.push o).objs.size = s.heap.objs.size + 1 := Heap.size_push ..
  show _ ∧ _
  rw [hz]
  have he : IsEnum ((s.heap.push o).push { cls := .type "enumerate", data := .fields #[.none, .bool false, .ref s.heap.objs.size, rawInt 0, .none, .none] }) (s.heap.objs.size + 1) s.heap.objs.size 0 .none := by
    have := Heap.get?_push_size (s.heap.push o) (o := { cls := .type "enumerate", data := .fields #[.none, .bool false, .ref s.heap.objs.size, rawInt 0, .none, .none] }) rfl
    rw [hz] at this; exact this
  refine ⟨⟨_, he, rfl⟩, h _ he (Heap.get?_push_of_some _ (Heap.get?_push_size _ B.free)) (by rw [Heap.size_push, hz]) fun b o x => Heap.get?_push_of_some _ (Heap.get?_push_of_some _ x)⟩
end
end PySem
namespace DL
open PySem PySem.Spec PyProof.Rows L2

/-! ### enumerate over a tuple -/
def IteT (K : PySem.W.Frag) (a : Addr) : It :=
  ⟨fun i H => ∃ (xs : List V) (x : V), SqT K H a xs ∧ xs[i]? = some x, fun i H v H' => ∃ T x, v = .ref T ∧ H T = none ∧ H' = upd H T (.tup [.int (i : Nat), x]) ∧ ∀ xs, SqT K H a xs → xs[i]? = some x, fun i H => ∃ xs : List V, SqT K H a xs ∧ xs.length ≤ i⟩
theorem turn_enumT {P : Program} {w : World} {K : PySem.W.Frag} {elts : List Expr} {kk : Nat} {tpos : Pos} (a e it : Addr) (hai : a ≠ it) (hae : a ≠ e) (items : Array Value) :
    Turn P w K (.Tuple elts kk tpos) (IteT K a) [e, it] e (fun i h => ((∃ old, IsEnum h e it ((i : Nat) : Int) old) ∧ (h.IsTupleIter it a i)) ∧ e ≠ it) where
  mem := by simp
  obj := fun i h st b hb => by
    obtain ⟨⟨⟨old, he⟩, ⟨o, ho, hc, hd⟩⟩, _⟩ := st
    have e' : b = e ∨ b = it := by simpa using hb
    rcases e' with z | z
    · rw [z]; exact ⟨_, he, fun v q => nomatch q⟩
    · rw [z]; exact ⟨o, ho, fun v q => by rw [hd] at q; cases q⟩
  keep := fun i h h' st k => let ⟨⟨⟨old, he⟩, hi⟩, hne⟩ := st; ⟨⟨⟨old, k e (by simp) _ he⟩, hi.at fun o q => k it (by simp) o q⟩, hne⟩
  item := by
    intro X hP hw hK hc i pins s σ H E I hf st hg
    subst hP hw hK
    obtain ⟨⟨⟨old, he⟩, hit⟩, hne⟩ := st
    obtain ⟨xs, x, hq, hx⟩ := hg
    obtain ⟨its, rv, p, hz⟩ := I.tuple hq
    obtain ⟨u, hu, ru⟩ := rv.get hx
    have hel : e < s.heap.objs.size := Heap.lt_size he
    have hil : it < s.heap.objs.size := by obtain ⟨_, q, _⟩ := hit; exact Heap.lt_size q
    have hsz : i < its.toArray.size := by
      have := (List.getElem?_eq_some_iff.mp hu).1
      simpa using this
    refine wpAny_pyNext_enum_itemD (P := fun i v => its.toArray[i]? = some v) (St := fun i h => h.IsTupleIter it a i ∧ h.IsTuple a its.toArray) (Draws.tuple (A := X.A.in1) (I.ok.hd hc) it a hai its.toArray) he ⟨hit, p⟩ hsz hne (by simp [hne, hae.symm]) fun y h' tk hy ho hit' hT hsz' hk => ?_
    obtain rfl : u = y := by
      have z : its.toArray[i]? = some u := by simpa using hu
      rw [z] at hy; exact Option.some.inj hy
    refine ⟨_, rfl, wpAny_letOwnedTupleGo_enum (s := { s with heap := h', toks := tk + 1 }) ho fun h'' he' sb => ?_⟩
    have hT2 : h''.get? s.heap.objs.size = some { cls := .type "tuple", data := .seq #[.int i tk, u] } := (sb.2 _ (Nat.ne_of_gt hel)).trans hT
    have new : ObjOk X.prog X.w (upd H s.heap.objs.size (.tup [.int (i : Nat), x])) h'' s.heap.objs.size (.tup [.int (i : Nat), x]) :=
      ⟨by show 2 ≤ sizeLine; decide, [.int i tk, u], .cons ⟨_, rfl⟩ (.cons ru .nil), ⟨_, hT2, rfl, _, rfl⟩⟩
    have I1 : Inv X pins σ (upd H s.heap.objs.size (.tup [.int (i : Nat), x])) { s with heap := h'', toks := tk + 1 } :=
      I.turnedNew (ch := [e, it]) (fun b ob hb q => (sb.2 b (fun z => hb (by simp [z]))).trans (hk b ob (fun z => hb (by simp [z])) (fun z => hb (by simp [z])) q)) hf (Nat.le_refl _) new
    refine ⟨.ref s.heap.objs.size, _, I1, rfl, ⟨_, x, rfl, I.hok.fresh (Nat.le_refl _), rfl, fun ys hy => by rw [I.tuple_inj hy hq]; exact hx⟩, ⟨⟨⟨u, ?_⟩, hit'.1.at fun o q => (sb.2 it (Ne.symm hne)).trans q⟩, hne⟩, fun b hb => ?_⟩
    · have e1 : ((i + 1 : Nat) : Int) = (i : Int) + 1 := by omega
      rw [e1]; exact he'
    · have hb' : b < s.heap.objs.size := by
        have e' : b = e ∨ b = it := by simpa using hb
        rcases e' with z | z
        · rw [z]; exact hel
        · rw [z]; exact hil
      rw [upd_ne (Nat.ne_of_lt hb')]
      exact (hf b hb).1
  done := by
    intro X hP hw hK hc i pins s σ H E I hf st hg
    subst hP hw hK
    obtain ⟨⟨⟨old, he⟩, hit⟩, hne⟩ := st
    obtain ⟨xs, hq, hx⟩ := hg
    obtain ⟨its, rv, p, hz⟩ := I.tuple hq
    obtain ⟨f0, f1, f2, f3, f4, f5⟩ := hf it (by simp)
    have hl := rv.length
    have hT : s.TypeIs (.ref e) "enumerate" := ⟨_, he, rfl⟩
    unfold pyNext
    refine wpAny_bind (wpAny_attempt (wpAny_callSpecial?_slot (name := Str.ofString "__next__") hT PySem.F.slot_enumerate_next
      (wpAny_call_entry PySem.F.slot_enumerate_next hT PySem.F.entry_enumerate_next ?_ (PySem.F.args_enumerate_next_1 _))))
    show wpAny _ _ (field (.ref e) 2 >>= _) _ _ _
    refine wpAny_bind (wpAny_field he rfl (x := .ref it) rfl ?_)
    refine wpAny_bind (wpAny_nextOf_tuple_end (A := X.A.in1) (I.ok.hd hc) hit p (by simp; omega) fun h' x he' hx' => ?_)
    obtain ⟨o, ho, hc⟩ := hx'
    refine wpAny_bind (wpAny_isInstance (T := "StopIteration") (b := true) ⟨o, ho, hc⟩ isSubtype_stop ?_)
    exact wpAny_pure ⟨rfl, I.turned (t' := s.toks) (fun b o hb q => he' b o hb q) f0 f1 f3 f4 f5⟩
  self := fun A i s Q E st h => let ⟨⟨⟨_, he⟩, _⟩, _⟩ := st; wpAny_pyIter_enum he h

section
variable {Ω : Wl} {τ : Sx} {X : Cx} {a b c e tg iter : Expr} {es rest : List Expr} {da db dc de : DE} {ta tb : DT} {tl tr : DA} {pos p p2 tpos : Pos} {x : Str} {st : Stmt} {sts sts2 : List Stmt} {ds ds2 : DS} {vs : List Nat} {gs : List Str} {elts : List Expr} {kk : Nat}
theorem wkL {K : PySem.W.Frag} {F : Hp} {q : Addr} {ws : List V} {xs : List D} (h : F q = some (.lst ws)) (r : RpL K F ws xs) : WkD K F (Itl K q) xs where
  go := fun i H e hi => by
    have hw : i < ws.length := by rw [r.length]; exact hi
    exact ⟨ws, ws[i], SqL.of (e _ _ h), List.getElem?_eq_getElem hw⟩
  yld := fun i F1 M H v H' d e g hd hy => by
    obtain ⟨rfl, hy⟩ := hy
    have hv := hy ws (SqL.of (g.ex _ _ (e _ _ h)))
    obtain ⟨d', h1, h2⟩ := r.getV hv
    rw [hd] at h1; cases h1
    exact ⟨F1, Ex.refl F1, g, h2.mono e⟩
  stop := fun i H e hi => ⟨ws, SqL.of (e _ _ h), by rw [r.length]; exact hi⟩
theorem wkS {K : PySem.W.Frag} {F : Hp} {q : Addr} {ns : List Int} (h : SqL K F q (ns.map V.int)) : WkD K F (Itl K q) (ns.map D.int) where
  go := fun i H e hi => by
    have hw : i < (ns.map V.int).length := by simpa using hi
    exact ⟨_, _, e.sl h, List.getElem?_eq_getElem hw⟩
  yld := fun i F1 M H v H' d e g hd hy => by
    obtain ⟨rfl, hy⟩ := hy
    have hv := hy _ (g.ex.sl (e.sl h))
    obtain ⟨d', h1, h2⟩ := (rpl_ints (K := K) (F := F1) ns).getV hv
    rw [hd] at h1; cases h1
    exact ⟨F1, Ex.refl F1, g, h2⟩
  stop := fun i H e hi => ⟨_, e.sl h, by simpa using hi⟩
theorem wkT {K : PySem.W.Frag} {F : Hp} {q : Addr} {ws : List V} {xs : List D} (h : SqT K F q ws) (r : RpL K F ws xs) : WkD K F (Itt K q) xs where
  go := fun i H e hi => by
    have hw : i < ws.length := by rw [r.length]; exact hi
    exact ⟨ws, ws[i], e.st h, List.getElem?_eq_getElem hw⟩
  yld := fun i F1 M H v H' d e g hd hy => by
    obtain ⟨rfl, hy⟩ := hy
    have hv := hy ws (g.ex.st (e.st h))
    obtain ⟨d', h1, h2⟩ := r.getV hv
    rw [hd] at h1; cases h1
    exact ⟨F1, Ex.refl F1, g, h2.mono e⟩
  stop := fun i H e hi => ⟨ws, e.st h, by rw [r.length]; exact hi⟩
/-- the first steps of pi_list, pi_tup, at a value -/
theorem pie_list {pins : List (Addr × Obj)} {s : Shared} {σ : L2.St} {H : Hp} {R : It → Hp → Prop} {q : Addr} {xs : List V} (I : Inv X pins σ H s) (hq : SqL X.K H q xs) (h : R (Itl X.K q) H) : wpAny (model X.prog X.w) X.A (pyIter (.ref q)) (PIE X pins σ tg R) X.xe s := by
  obtain ⟨its, rv, p, hz⟩ := I.list hq
  refine wpAny_pyIter_list p.isList ?_
  refine ⟨s.heap.objs.size, [s.heap.objs.size], _, _, H, rfl, I.kept (t' := s.toks) fun b o e => Heap.get?_push_of_some _ e, turn_list q _, ⟨_, Heap.get?_push_size _ rfl, rfl, rfl⟩, fun b hb => ?_, h⟩
  have e : b = s.heap.objs.size := by simpa using hb
  subst e
  exact I.fpOk (Nat.le_refl _) (I.hok.fresh (Nat.le_refl _))
theorem pie_tup {pins : List (Addr × Obj)} {s : Shared} {σ : L2.St} {H : Hp} {R : It → Hp → Prop} {q : Addr} {xs : List V} (I : Inv X pins σ H s) (hq : SqT X.K H q xs) (h : R (Itt X.K q) H) : wpAny (model X.prog X.w) X.A (pyIter (.ref q)) (PIE X pins σ tg R) X.xe s := by
  obtain ⟨its, rv, p, hz⟩ := I.tuple hq
  refine wpAny_pyIter_tuple (show s.heap.IsTuple q its.toArray from p) ?_
  refine ⟨s.heap.objs.size, [s.heap.objs.size], _, _, H, rfl, I.kept (t' := s.toks) fun b o e => Heap.get?_push_of_some _ e, turn_tuple q _, ⟨_, Heap.get?_push_size _ rfl, rfl, rfl⟩, fun b hb => ?_, h⟩
  have e : b = s.heap.objs.size := by simpa using hb
  subst e
  exact I.fpOk (Nat.le_refl _) (I.hok.fresh (Nat.le_refl _))
theorem dpi_seq (h : DP Ω τ iter de) : DPI Ω τ tg iter (dSeqI de) := Hd.mk fun X ft F0 E tk F M H σ σ' R e0 g r hd pins s I => by
  refine thn (h.run X ft F0 E tk F M H σ σ' _ e0 g r hd pins s I) ?_
  rintro u s1 ⟨v, H1, I1, rv, F1, M1, y, e1, g1, r1, q⟩
  cases y <;> first | exact q.elim | skip
  case tup xs =>
    cases r1 with | tup hs hr =>
    cases rv
    exact pie_tup I1 (SqT.fz (hs.mono g1.ex)) ⟨F1, M1, xs, e1, g1, wkT (SqT.fz hs) hr, q⟩
  case lst xs =>
    cases r1 with | lst hs hr =>
    cases rv
    exact pie_list I1 (SqL.of (g1.ex _ _ hs)) ⟨F1, M1, xs, e1, g1, wkL hs hr, q⟩
  case scr ns =>
    cases r1 with | scr hs =>
    cases rv
    exact pie_list I1 (g1.ex.sl hs) ⟨F1, M1, _, e1, g1, wkS hs, q⟩
  case wtp xs =>
    cases r1 with | wtp hs hr =>
    cases rv
    exact pie_tup I1 (g1.ex.st hs) ⟨F1, M1, xs, e1, g1, wkT hs hr, q⟩
/-! ranges -/
def rangeD (lo : Int) (n : Nat) : List D := (List.range n).map fun i => .int (lo + (i : Nat))
theorem rangeD_length (lo : Int) (n : Nat) : (rangeD lo n).length = n := by simp [rangeD]
theorem rangeD_get {lo : Int} {n i : Nat} (h : i < n) : (rangeD lo n)[i]? = some (.int (lo + (i : Nat))) := by
  unfold rangeD
  rw [List.getElem?_map, List.getElem?_range h]; rfl
theorem wkR {K : PySem.W.Frag} {F : Hp} {lo : Int} {n : Nat} : WkD K F (Itr lo n) (rangeD lo n) where
  go := fun i H e hi => by rw [rangeD_length] at hi; exact hi
  yld := fun i F1 M H v H' d e g hd hy => by
    obtain ⟨rfl, rfl⟩ := hy
    have hi : i < n := by
      have := (List.getElem?_eq_some_iff.mp hd).1
      rwa [rangeD_length] at this
    rw [rangeD_get hi] at hd
    cases hd
    exact ⟨F1, Ex.refl F1, g, .int _⟩
  stop := fun i H e hi => by rw [rangeD_length] at hi; exact hi
def dRng1 (t : DA) : DI := fun σ M R E => t σ M (fun vs M1 => match vs with
  | [.int n] => (-4611686018427387904 ≤ n ∧ n < 4611686018427387904) ∧ R (rangeD 0 n.toNat) M1
  | _ => False) E
def dRng2 (t : DA) : DI := fun σ M R E => t σ M (fun vs M1 => match vs with
  | [.int lo, .int n] => (-4611686018427387904 ≤ lo ∧ lo < 4611686018427387904 ∧ -4611686018427387904 ≤ n ∧ n < 4611686018427387904) ∧ R (rangeD lo (n - lo).toNat) M1
  | _ => False) E
theorem dpi_range1 (S : ScOk τ.N vs gs τ.sc) (hm : Ω.mg "range" = none) (ha : DPA Ω τ [a] tl) (hg : ("range" : Str) ∈ gs := by decide) (hs : ∀ env, starEach [a] env = [(false, eval a env)] := by intro _; rfl) : DPI Ω τ tg (.Call (.Name "range" p) [a] [] pos) (dRng1 tl) := Hd.mk fun X ft F0 E tk F M H σ σ' R e0 g r hd => by
  refine wI_of (pi_range1 (fit_gl ft S hg) (by rw [ft.mg]; exact hm) pa_wA (hs _)) (wA_mono (ha.run X ft F0 E tk F M H σ σ' _ e0 g r hd) ?_)
  rintro ws H1 ⟨F1, M1, ys, e1, g1, r1, q⟩
  match ys, r1, q with
  | [.int n], .cons (.int _) .nil, ⟨⟨h1, h2⟩, q⟩ => exact ⟨n, rfl, h1, h2, F1, M1, _, e1, g1, wkR, q⟩
theorem dpi_range2 (S : ScOk τ.N vs gs τ.sc) (hm : Ω.mg "range" = none) (ha : DPA Ω τ [a, b] tl) (hg : ("range" : Str) ∈ gs := by decide) (hs : ∀ env, starEach [a, b] env = [(false, eval a env), (false, eval b env)] := by intro _; rfl) (hs2 : ∀ env, starEach [b] env = [(false, eval b env)] := by intro _; rfl) : DPI Ω τ tg (.Call (.Name "range" p) [a, b] [] pos) (dRng2 tl) := Hd.mk fun X ft F0 E tk F M H σ σ' R e0 g r hd => by
  refine wI_of (pi_range2 (fit_gl ft S hg) (by rw [ft.mg]; exact hm) pa_wA (hs _) (hs2 _)) (wA_mono (ha.run X ft F0 E tk F M H σ σ' _ e0 g r hd) ?_)
  rintro ws H1 ⟨F1, M1, ys, e1, g1, r1, q⟩
  match ys, r1, q with
  | [.int lo, .int n], .cons (.int _) (.cons (.int _) .nil), ⟨⟨h1, h2, h3, h4⟩, q⟩ => exact ⟨lo, n, rfl, ⟨h1, h2, h3, h4⟩, F1, M1, _, e1, g1, wkR, q⟩
/-! enumerate -/
def enumD (xs : List D) : List D := xs.zipIdx.map fun p => .wtp [.int (p.2 : Nat), p.1]
theorem enumD_length (xs : List D) : (enumD xs).length = xs.length := by simp [enumD]
theorem enumD_get {xs : List D} {i : Nat} {d : D} (h : xs[i]? = some d) : (enumD xs)[i]? = some (.wtp [.int (i : Nat), d]) := by
  unfold enumD
  rw [List.getElem?_map, List.getElem?_zipIdx, h]; simp
theorem enumD_of {xs : List D} {i : Nat} {d : D} (h : (enumD xs)[i]? = some d) : ∃ x, xs[i]? = some x ∧ d = .wtp [.int (i : Nat), x] := by
  have hi : i < xs.length := by
    have := (List.getElem?_eq_some_iff.mp h).1
    rwa [enumD_length] at this
  refine ⟨xs[i], List.getElem?_eq_getElem hi, ?_⟩
  rw [enumD_get (List.getElem?_eq_getElem hi)] at h
  exact (Option.some.inj h).symm
theorem new_pair {K : PySem.W.Frag} {F1 : Hp} {M : MH} {H : Hp} {T : Addr} {v w : V} {x y : D} (g : G K F1 M H) (hT : H T = none) (r1 : Rp K F1 v x) (r2 : Rp K F1 w y) :
    ∃ F2, Ex F1 F2 ∧ G K F2 M (upd H T (.tup [v, w])) ∧ Rp K F2 (.ref T) (.wtp [x, y]) := by
  obtain ⟨g1, e1⟩ := g.new hT (.tup [v, w])
  exact ⟨_, e1, g1, .wtp (SqT.of upd_same) (.cons (r1.mono e1) (.cons (r2.mono e1) .nil))⟩
theorem wkEL {K : PySem.W.Frag} {F : Hp} {q : Addr} {ws : List V} {xs : List D} (h : F q = some (.lst ws)) (r : RpL K F ws xs) : WkD K F (Ite K q) (enumD xs) where
  go := fun i H e hi => by
    rw [enumD_length] at hi
    have hw : i < ws.length := by rw [r.length]; exact hi
    exact ⟨ws, ws[i], SqL.of (e _ _ h), List.getElem?_eq_getElem hw⟩
  yld := fun i F1 M H v H' d e g hd hy => by
    obtain ⟨T, y, rfl, hT, rfl, hy⟩ := hy
    obtain ⟨x, hx, rfl⟩ := enumD_of hd
    have hv := hy ws (SqL.of (g.ex _ _ (e _ _ h)))
    obtain ⟨d', h1, h2⟩ := r.getV hv
    rw [hx] at h1; cases h1
    exact new_pair g hT (.int _) (h2.mono e)
  stop := fun i H e hi => ⟨ws, SqL.of (e _ _ h), by rw [r.length]; rw [enumD_length] at hi; exact hi⟩
theorem wkET {K : PySem.W.Frag} {F : Hp} {q : Addr} {ws : List V} {xs : List D} (h : SqT K F q ws) (r : RpL K F ws xs) : WkD K F (IteT K q) (enumD xs) where
  go := fun i H e hi => by
    rw [enumD_length] at hi
    have hw : i < ws.length := by rw [r.length]; exact hi
    exact ⟨ws, ws[i], e.st h, List.getElem?_eq_getElem hw⟩
  yld := fun i F1 M H v H' d e g hd hy => by
    obtain ⟨T, y, rfl, hT, rfl, hy⟩ := hy
    obtain ⟨x, hx, rfl⟩ := enumD_of hd
    have hv := hy ws (g.ex.st (e.st h))
    obtain ⟨d', h1, h2⟩ := r.getV hv
    rw [hx] at h1; cases h1
    exact new_pair g hT (.int _) (h2.mono e)
  stop := fun i H e hi => ⟨ws, e.st h, by rw [r.length]; rw [enumD_length] at hi; exact hi⟩
def dEnum (t : DA) : DI := fun σ M R E => t σ M (fun vs M1 => match vs with
  | [.lst xs] => R (enumD xs) M1
  | [.tup xs] => R (enumD xs) M1
  | _ => False) E
theorem dpi_enum (S : ScOk τ.N vs gs τ.sc) (hm : Ω.mg "enumerate" = none) (ha : DPA Ω τ [a] tl) (hg : ("enumerate" : Str) ∈ gs := by decide) (hs : ∀ env, starEach [a] env = [(false, eval a env)] := by intro _; rfl) :
    DPI Ω τ (.Tuple elts kk tpos) (.Call (.Name "enumerate" p) [a] [] pos) (dEnum tl) := Hd.mk fun X ft F0 E tk F M H σ σ' R e0 g r hd pins s I => by
  refine Call_ (ld_blt I (fit_gl ft S hg) (by rw [ft.mg]; exact hm) boot_enumerate (PyProof.Rows.callWith_type1 (thn ((ha.run X ft F0 E tk F M H σ σ' _ e0 g r hd) pos pins s I) ?_) (hs _) rfl))
  rintro us s1 ⟨ws, H1, I1, rv, F1, M1, ys, e1, g1, r1, q⟩
  match ys, r1, q with
  | [.lst xs], .cons (.lst hl hr) .nil, q =>
    rename_i q0 ws0
    match us, rv with
    | [_], .cons ru .nil =>
    cases ru
    have hq : SqL X.K H1 q0 ws0 := SqL.of (g1.ex _ _ hl)
    obtain ⟨its, rv, p', hz⟩ := I1.list hq
    refine call_enumerate_list p'.isList fun h' he hit hsz hk => wpAny_pyIter_enum he ?_
    have I2 : Inv X pins σ H1 { s1 with heap := h' } := I1.kept (t' := s1.toks) hk
    refine ⟨s1.heap.objs.size + 1, [s1.heap.objs.size + 1, s1.heap.objs.size], _, _, H1, rfl, I2, turn_enum q0 (s1.heap.objs.size + 1) s1.heap.objs.size, ⟨⟨.none, he⟩, hit, Nat.succ_ne_self _⟩, fun b hb => ?_, F1, M1, _, e1, g1, wkEL hl hr, q⟩
    have e' : b = s1.heap.objs.size + 1 ∨ b = s1.heap.objs.size := by simpa using hb
    have hle : s1.heap.objs.size ≤ b := by
      rcases e' with z | z
      · rw [z]; exact Nat.le_add_right _ _
      · rw [z]; exact Nat.le_refl _
    exact I1.fpOk hle (I1.hok.fresh hle)
  | [.tup xs], .cons (.tup hl hr) .nil, q =>
    rename_i q0 ws0
    match us, rv with
    | [_], .cons ru .nil =>
    cases ru
    have hq : SqT X.K H1 q0 ws0 := SqT.fz (hl.mono g1.ex)
    obtain ⟨its, rv, p', hz⟩ := I1.tuple hq
    have hlt : q0 < s1.heap.objs.size := p'.lt
    refine enum_begins1 (begins_tuple q0 its.toArray) p' fun h' he hit hsz hk => wpAny_pyIter_enum he ?_
    have I2 : Inv X pins σ H1 { s1 with heap := h' } := I1.kept (t' := s1.toks) hk
    refine ⟨s1.heap.objs.size + 1, [s1.heap.objs.size + 1, s1.heap.objs.size], _, _, H1, rfl, I2, turn_enumT q0 (s1.heap.objs.size + 1) s1.heap.objs.size (Nat.ne_of_lt hlt) (Nat.ne_of_lt (Nat.lt_succ_of_lt hlt)) its.toArray, ⟨⟨⟨.none, he⟩, ⟨_, hit, rfl, rfl⟩⟩, Nat.succ_ne_self _⟩, fun b hb => ?_, F1, M1, _, e1, g1, wkET (SqT.fz hl) hr, q⟩
    have e' : b = s1.heap.objs.size + 1 ∨ b = s1.heap.objs.size := by simpa using hb
    have hle : s1.heap.objs.size ≤ b := by
      rcases e' with z | z
      · rw [z]; exact Nat.le_add_right _ _
      · rw [z]; exact Nat.le_refl _
    exact I1.fpOk hle (I1.hok.fresh hle)

/-! ### for, while -/

/-- W tells what holds where r are left -/
def ForGo (gd : DG) (body : DS) (En : DEnds) (E : EK) (xs : List D) (σ : DSt) (M1 : MH) : Prop := ∃ W : List D → DSt → MH → Prop, W xs σ M1 ∧ (∀ σ M, W [] σ M → En.nx σ M) ∧
  ∀ x r σ M, W (x :: r) σ M → gd x σ M (fun σ2 M2 => body { En with nx := W r, ct := W r, bk := En.nx } E σ2 M2) E
def dFor (di : DI) (gd : DG) (body : DS) : DS := fun En E σ M => di σ M (fun xs M1 => ForGo gd body En E xs σ M1) E
theorem dps_for {is : List Nat} {di : DI} {gd : DG} (hi : DPI Ω τ tg iter di) (hg : DPG Ω τ is tg gd) (hb : DPSs Ω τ sts ds) (hc : τ.calm = true := by rfl) (hs : ∀ env x, foldedSetIterable iter env x = pure x := by intro _ _; rfl) : DPS Ω τ (.For tg iter sts [] pos) (dFor di gd ds) := Hd.mk fun X ft F0 E tk F M H σ σ' D e0 g r h => by
  refine wS_of (ps_for ft.po (ft.calm hc) pi_wI pg_wG pss_wSs (hs _)) (wI_mono (hi.run X ft F0 E tk F M H σ σ' _ e0 g r h) ?_)
  rintro J H1 ⟨F1, M1, xs, e1, g1, wk, W, w0, wn, ws⟩
  refine ⟨fun i m σ H => m = xs.length - i ∧ i ≤ xs.length ∧ LS X.K F1 (W (xs.drop i)) σ H, ⟨_, rfl, Nat.zero_le _, F1, M1, σ', Ex.refl F1, g1, r.mono e1, w0⟩, ?_⟩
  rintro i m σ2 H2 ⟨rfl, hi2, F2, M2, σ2', e2, g2, r2, w2⟩
  by_cases hlt : i < xs.length
  · refine .inr ⟨wk.go i H2 (e2.trans g2.ex) hlt, LS X.K F1 (W (xs.drop (i + 1))), fun σ3 H3 q => ⟨_, by omega, rfl, hlt, q⟩, fun v H3 hy => ?_⟩
    have hd : xs[i]? = some xs[i] := List.getElem?_eq_getElem hlt
    obtain ⟨F3, e3, g3, r3⟩ := wk.yld i F2 M2 H2 v H3 _ e2 g2 hd hy
    rw [List.drop_eq_getElem_cons hlt] at w2
    have e03 : Ex F0 F3 := ((e0.trans e1).trans e2).trans e3
    refine wG_mono (hg.run X ft F0 E tk F3 M2 H3 σ2 σ2' v _ _ e03 g3 (r2.mono e3) r3 (ws _ _ _ _ w2)) ?_
    rintro σ4 H4 ⟨_, F4, M4, σ4', e4, g4, r4, q⟩
    have e14 : Ex F1 F4 := (e2.trans e3).trans e4
    refine wSs_mono (hb.run X ft F0 E tk F4 M4 H4 σ4 σ4' _ (e03.trans e4) g4 r4 q) ⟨?_, ?_, ?_, ?_⟩
    · exact fun σ5 H5 z => z.back e14
    · exact fun v5 H5 z => LQ.back (e1.trans e14) z
    · exact fun σ5 H5 z => LS.back (e1.trans e14) z
    · exact fun σ5 H5 z => z.back e14
  · have e : i = xs.length := by omega
    subst e
    refine .inl ⟨wk.stop _ H2 (e2.trans g2.ex) (Nat.le_refl _), F2, M2, σ2', e1.trans e2, g2, r2, wn _ _ ?_⟩
    rw [List.drop_length] at w2
    exact w2
/-- W tells what holds between the turns, m falls -/
def dWhile (c : DT) (body : DS) : DS := fun D E σ M => ∃ W : Nat → DSt → MH → Prop, (∃ m, W m σ M) ∧ ∀ m σ M, W m σ M → c σ M (fun b M1 => (b = true → body { D with nx := fun σ M => ∃ m', m' < m ∧ W m' σ M, ct := fun σ M => ∃ m', m' < m ∧ W m' σ M, bk := D.nx } E σ M1) ∧ (b = false → D.nx σ M1)) E
theorem dps_while (hc : DPT Ω τ c ta) (hb : DPSs Ω τ sts ds) : DPS Ω τ (.While c sts [] pos) (dWhile ta ds) := Hd.mk fun X ft F0 E tk F M H σ σ' D e0 g r h => by
  obtain ⟨W, ⟨m0, w0⟩, turn⟩ := h
  refine wS_of (ps_while ft.po pt_wT pss_wSs) ⟨fun m σ H => LS X.K F (W m) σ H, ⟨m0, F, M, σ', Ex.refl F, g, r, w0⟩, ?_⟩
  rintro m σ1 H1 ⟨F1, M1, σ1', e1, g1, r1, w1⟩
  refine wT_mono (hc.run X ft F0 E tk F1 M1 H1 σ1 σ1' _ (e0.trans e1) g1 r1 (turn m _ _ w1)) ?_
  rintro k H2 ⟨F2, M2, e2, g2, q1, q2⟩
  have e12 := e1.trans e2
  cases k with
  | true =>
    refine iteT ⟨fun σ H => ∃ m', m' < m ∧ LS X.K F (W m') σ H, fun _ _ z => z, ?_⟩
    have back : ∀ σ H, LS X.K F2 (fun σ M => ∃ m', m' < m ∧ W m' σ M) σ H → ∃ m', m' < m ∧ LS X.K F (W m') σ H := fun σ H ⟨F3, M3, σ3, e3, g3, r3, m', hm, w⟩ => ⟨m', hm, F3, M3, σ3, e12.trans e3, g3, r3, w⟩
    refine wSs_mono (hb.run X ft F0 E tk F2 M2 H2 σ1 σ1' _ (e0.trans e12) g2 (r1.mono e2) (q1 rfl)) ⟨fun σ H z => back σ H z, fun v H z => LQ.back e12 z, fun σ H z => LS.back e12 z, fun σ H z => back σ H z⟩
  | false => exact iteF ⟨F2, M2, σ1', e12, g2, r1.mono e2, q2 rfl⟩
end
end DL

/-! The deep layer, part f: chains of comparisons, comprehensions. -/
namespace DL
open PySem PySem.Spec PyProof.Rows L2
section
variable {Ω : Wl} {τ : Sx} {X : Cx} {a b c e tg iter elt : Expr} {es rest ifs : List Expr} {da db dc de : DE} {ta tb dt : DT} {tl tr : DA} {pos p p2 tpos : Pos} {x : Str}

/-! ### a < b <= c .. -/
abbrev DH := D → DSt → MH → (Bool → MH → Prop) → EK → Prop
def DPC (Ω : Wl) (τ : Sx) (ops : List CmpOp) (es : List Expr) (d : DH) : Prop := Hd (∀ pos X, Fit Ω τ X → ∀ F0 E, TkD X F0 E → ∀ F M H σ σ' x x' Q, Ex F0 F → G X.K F M H → RpS X.K F σ σ' → Rp X.K F x x' → d x' σ' M Q E → ∀ pins s u, Inv X pins σ H s → RelV x u →
  wpAny (model X.prog X.w) X.A (compareChain pos u ops (evalEach es X.env)) (EP X pins σ (LQ X.K F fun y M => match y with
    | .bl b => Q b M
    | _ => False)) X.xe s ∧ wpAny (model X.prog X.w) X.A (testChain pos u ops (evalEach es X.env)) (TP X pins σ (LB X.K F Q)) X.xe s)
def dLast (o : Op2) (db : DE) : DH := fun x σ M Q E => db σ M (fun y M1 => o x y M1 fun z M2 => match z with
  | .bl b => Q b M2
  | _ => False) E
def dLink (o : Op2) (db : DE) (r : DH) : DH := fun x σ M Q E => db σ M (fun y M1 => o x y M1 fun z M2 => match z with
  | .bl b => (b = true → r y σ M2 Q E) ∧ (b = false → Q false M2)
  | _ => False) E
theorem dpc_last {op : CmpOp} {o : Op2} (ho : ∀ X, Fit Ω τ X → OpD X (compareOp op) o) (hb : DP Ω τ b db) : DPC Ω τ [op] [b] (dLast o db) := by
  refine ⟨?_⟩
  intro pos X ft F0 E tk F M H σ σ' x x' Q e0 g r rx h pins s u I ru
  have key : wpAny (model X.prog X.w) X.A (eval b X.env) (fun v s1 => wpAny (model X.prog X.w) X.A (compareOp op u v) (EP X pins σ (LQ X.K F fun y M => match y with
    | .bl b => Q b M
    | _ => False)) X.xe s1) X.xe s := by
    refine thn (hb.run X ft F0 E tk F M H σ σ' _ e0 g r h pins s I) ?_
    rintro v s1 ⟨y, H1, I1, rv, F1, M1, y', e1, g1, r1, q⟩
    exact wOp_mono (ho X ft F1 M1 H1 x y x' y' _ g1 (rx.mono e1) r1 q) (fun _ _ => LQ.back e1) pins s1 σ u v I1 ru rv
  refine ⟨chain_last key, test_last (thn key fun v s1 h1 => thn h1 ?_)⟩
  rintro w s2 ⟨z, H2, I2, rw', q2⟩
  obtain ⟨k, rfl, q3⟩ := LQ.test q2
  cases rw'
  exact wpAny_truthy_bool ⟨H2, I2, q3⟩
theorem dpc_link {op op' : CmpOp} {ops : List CmpOp} {o : Op2} {d : DH} (ho : ∀ X, Fit Ω τ X → OpD X (compareOp op) o) (hb : DP Ω τ b db) (hr : DPC Ω τ (op' :: ops) (c :: es) d) : DPC Ω τ (op :: op' :: ops) (b :: c :: es) (dLink o db d) := by
  refine ⟨?_⟩
  intro pos X ft F0 E tk F M H σ σ' x x' Q e0 g r rx h pins s u I ru
  have key : wpAny (model X.prog X.w) X.A (eval b X.env) (fun v s1 => wpAny (model X.prog X.w) X.A (compareOp op u v) (fun c' s2 => ∃ k, c' = .bool k ∧ ∃ F1 M1 H2 y y', Ex F F1 ∧ G X.K F1 M1 H2 ∧ Inv X pins σ H2 s2 ∧ RelV y v ∧ Rp X.K F1 y y' ∧ (k = true → d y' σ' M1 Q E) ∧ (k = false → Q false M1)) X.xe s1) X.xe s := by
    refine thn (hb.run X ft F0 E tk F M H σ σ' _ e0 g r h pins s I) ?_
    rintro v s1 ⟨y, H1, I1, rv, F1, M1, y', e1, g1, r1, q⟩
    refine thn (ho X ft F1 M1 H1 x y x' y' _ g1 (rx.mono e1) r1 q pins s1 σ u v I1 ru rv) ?_
    rintro w s2 ⟨z, H2, I2, rw', F2, M2, z', e2, g2, rz, q2⟩
    cases z' <;> first | exact q2.elim | skip
    rename_i k
    cases rz
    cases rw'
    exact ⟨k, rfl, F2, M2, H2, y, y', e1.trans e2, g2, I2, rv, r1.mono e2, q2.1, q2.2⟩
  refine ⟨chain_link (thn key fun v s1 h1 => thn h1 ?_), test_link (thn key fun v s1 h1 => thn h1 ?_)⟩
  · rintro c' s2 ⟨k, rfl, F1, M1, H2, y, y', e1, g1, I2, rv, ry, q1, q2⟩
    refine wpAny_truthy_bool ?_
    cases k with
    | true => exact thn (hr.run pos X ft F0 E tk F1 M1 H2 σ σ' y y' Q (e0.trans e1) g1 (r.mono e1) ry (q1 rfl) pins s2 v I2 rv).1 fun _ _ ⟨v', H', I', r', q⟩ => ⟨v', H', I', r', LQ.back e1 q⟩
    | false => exact ⟨.bl false, H2, I2, rfl, F1, M1, .bl false, e1, g1, .bl false, q2 rfl⟩
  · rintro c' s2 ⟨k, rfl, F1, M1, H2, y, y', e1, g1, I2, rv, ry, q1, q2⟩
    refine wpAny_truthy_bool ?_
    cases k with
    | true => exact thn (hr.run pos X ft F0 E tk F1 M1 H2 σ σ' y y' Q (e0.trans e1) g1 (r.mono e1) ry (q1 rfl) pins s2 v I2 rv).2 fun _ _ ⟨H', I', q⟩ => ⟨H', I', LB.back e1 q⟩
    | false => exact ⟨H2, I2, F1, M1, e1, g1, q2 rfl⟩
def dCh (da : DE) (d : DH) : DT := fun σ M Q E => da σ M (fun x M1 => d x σ M1 Q E) E
theorem dp_chain {op op' : CmpOp} {ops : List CmpOp} {d : DH} (ha : DP Ω τ a da) (hr : DPC Ω τ (op :: op' :: ops) (b :: c :: es) d) (hm : lastMarks (op :: op' :: ops) (b :: c :: es) = false := by with_unfolding_all rfl) :
    DP Ω τ (.Compare a (op :: op' :: ops) (b :: c :: es) pos) (asV (dCh da d)) := Hd.mk fun X ft F0 E tk F M H σ σ' Q e0 g r h pins s I => by
  refine Compare_chain (thn (ha.run X ft F0 E tk F M H σ σ' _ e0 g r h pins s I) ?_) hm
  rintro u s1 ⟨x, H1, I1, ru, F1, M1, x', e1, g1, r1, q⟩
  refine thn (hr.run pos X ft F0 E tk F1 M1 H1 σ σ' x x' _ (e0.trans e1) g1 (r.mono e1) r1 q pins s1 u I1 ru).1 ?_
  rintro w s2 ⟨v', H', I', r', F2, M2, y, e2, g2, r2, q2⟩
  cases y <;> first | exact q2.elim | skip
  exact ⟨v', H', I', r', F2, M2, _, e1.trans e2, g2, r2, q2⟩
theorem dpt_chain {op op' : CmpOp} {ops : List CmpOp} {d : DH} (ha : DP Ω τ a da) (hr : DPC Ω τ (op :: op' :: ops) (b :: c :: es) d) (hm : lastMarks (op :: op' :: ops) (b :: c :: es) = false := by with_unfolding_all rfl) :
    DPT Ω τ (.Compare a (op :: op' :: ops) (b :: c :: es) pos) (dCh da d) := Hd.mk fun X ft F0 E tk F M H σ σ' Q e0 g r h pins s I => by
  refine isTrue_chain (thn (ha.run X ft F0 E tk F M H σ σ' _ e0 g r h pins s I) ?_) hm
  rintro u s1 ⟨x, H1, I1, ru, F1, M1, x', e1, g1, r1, q⟩
  exact thn (hr.run pos X ft F0 E tk F1 M1 H1 σ σ' x x' _ (e0.trans e1) g1 (r.mono e1) r1 q pins s1 u I1 ru).2 fun _ _ ⟨H', I', q⟩ => ⟨H', I', LB.back e1 q⟩

/-! ### comprehensions -/
def noE : EK := fun _ _ _ => False
theorem tk_no {X : Cx} {F0 : Hp} : TkD X F0 noE := fun u s' x => by
  obtain ⟨a, B, sI, pins, σ, H, cls, d, e, I, nb, up, sky, na, os, ag, F, M, σ', er, _, _, _, _, h⟩ := x
  exact h.elim
/-- the static place of a comprehension's block -/
def Sx.blk (τ : Sx) (scope : Scope) : Sx := { τ with sc := relS scope τ.sc, own := fun x => (scope.names.lookup x == some .cell) || (scope.names.lookup x == some .local) }
theorem fit_blk (ft : Fit Ω τ X) (s : Shared) (H : Hp) (scope : Scope) (C : Addr) (cl : List (Str × Addr)) (fp : List Addr) : Fit Ω (τ.blk scope) (X.blk s H scope (compEnvC scope cl C X.env) fp) where
  P := ft.P
  w := ft.w
  K := ft.K
  mg := ft.mg
  base := ft.base
  N := ft.N
  sc := by
    show relabel scope X.env = relS scope τ.sc
    rw [← ft.sc]; rfl
  room := ft.room
  calm := ft.calm
  nd := ft.nd
  fn := fun x ho _ => by
    have ho' : ((scope.names.lookup x == some NameKind.cell) || (scope.names.lookup x == some NameKind.local)) = true := ho
    rw [Bool.or_eq_true] at ho'
    rcases ho' with h | h
    · exact .inl h
    · refine .inr ?_
      have hl : scope.names.lookup x = some .local := by
        cases q : scope.names.lookup x with
        | none => rw [q] at h; cases h
        | some k => rw [q] at h; cases k <;> first | rfl | cases h
      show (relS scope X.env.scope).names.lookup x = some .local
      exact lookup_relS_keep (by decide) hl
  po := PassesOwn.never
  gd := ft.gd
def wTs (X : Cx) (ifs : List Expr) : TT := fun σ H Q => ∀ pins s, Inv X pins σ H s → wpAny (model X.prog X.w) X.A (forIn ifs true fun c r => if r = true then do let ok ← isTrue c X.env (eval c X.env); pure (ForInStep.yield ok) else pure (ForInStep.yield r)) (TP X pins σ Q) X.xe s
theorem pts_wTs : PTs X ifs (wTs X ifs) := ⟨fun pins s _ _ _ I h => h pins s I⟩
def DPTs (Ω : Wl) (τ : Sx) (ifs : List Expr) (d : DT) : Prop := Hd (∀ X, Fit Ω τ X → ∀ F0 E, TkD X F0 E → ∀ F M H σ σ' Q, Ex F0 F → G X.K F M H → RpS X.K F σ σ' → d σ' M Q E → wTs X ifs σ H (LB X.K F Q))
def dYes : DT := fun _ M Q _ => Q true M
theorem dpts_nil : DPTs Ω τ [] dYes := Hd.mk fun X ft F0 E tk F M H σ σ' Q e0 g r h pins s I => pts_nil.run pins s σ H _ I ⟨F, M, Ex.refl F, g, h⟩
theorem dpts_one (h : DPT Ω τ c ta) : DPTs Ω τ [c] ta := Hd.mk fun X ft F0 E tk F M H σ σ' Q e0 g r hd pins s I => (pts_one pt_wT).run pins s σ H _ I (h.run X ft F0 E tk F M H σ σ' Q e0 g r hd)
def wipeD (σ : DSt) : List Nat → DSt
  | [] => σ
  | v :: vs => (wipeD σ vs).set v none
theorem RpS.setN {K : PySem.W.Frag} {F : Hp} {σ : L2.St} {σ' : DSt} (r : RpS K F σ σ') (i : Nat) : RpS K F (σ.set i none) (σ'.set i none) := r.set i (v := none) (d := none) trivial
theorem RpS.wipe {K : PySem.W.Frag} {F : Hp} {σ : L2.St} {σ' : DSt} (r : RpS K F σ σ') : ∀ vs : List Nat, RpS K F (wipe σ vs) (wipeD σ' vs)
  | [] => r
  | v :: vs => (RpS.wipe r vs).setN v
theorem wipe_get (σ : L2.St) (j : Nat) : ∀ vs : List Nat, (wipe σ vs)[j]? = if j ∈ vs then (if j < σ.length then some none else none) else σ[j]?
  | [] => by simp [wipe]
  | v :: vs => by
    unfold wipe
    rw [List.getElem?_set, wipe_length, wipe_get σ j vs]
    by_cases h : v = j
    · subst h; simp
    · rw [if_neg h]
      have : (j ∈ v :: vs) ↔ j ∈ vs := by simp [Ne.symm h]
      simp only [this]
theorem wipe_wipe (σ : L2.St) (vs : List Nat) : wipe (wipe σ vs) vs = wipe σ vs := by
  apply List.ext_getElem?
  intro j
  rw [wipe_get, wipe_get, wipe_length]
  split <;> rfl
theorem wipe_kept {σ σ2 : L2.St} {vs is : List Nat} (k : Kept is (wipe σ vs) σ2) (h : ∀ i ∈ is, i ∈ vs) : wipe σ2 vs = wipe σ vs := by
  apply List.ext_getElem?
  intro j
  rw [wipe_get, wipe_get, k.1, wipe_length]
  by_cases hj : j ∈ vs
  · rw [if_pos hj, if_pos hj]
  · rw [if_neg hj, if_neg hj, k.2 j fun z => hj (h j z), wipe_get, if_neg hj]
/-- W tells what holds where r are left; what is made so far is the list at p -/
def LcGo (gd : DG) (dt : DT) (de : DE) (vs : List Nat) (σ : DSt) (Q : DQ) (xs : List D) (M1 : MH) : Prop := ∀ p, M1 p = none → ∃ W : List D → MH → Prop, W xs (M1.put p (.lst [])) ∧ (∀ M2, W [] M2 → ∃ acc, M2 p = some (.lst acc) ∧ Q (.lst acc) (M2.del p)) ∧
  ∀ x r M2, W (x :: r) M2 → gd x (wipeD σ vs) M2 (fun σ2 M3 => dt σ2 M3 (fun k M4 => (k = true → de σ2 M4 (fun y M5 => ∃ acc, M5 p = some (.lst acc) ∧ lenOk (acc.length + 1) ∧ W r (M5.put p (.lst (acc ++ [y])))) noE) ∧ (k = false → W r M4)) noE) noE
def dLc (di : DI) (gd : DG) (dt : DT) (de : DE) (vs : List Nat) : DE := fun σ M Q E => di σ M (fun xs M1 => LcGo gd dt de vs σ Q xs M1) E
theorem g_unput {K : PySem.W.Frag} {F H : Hp} {M : MH} {p : Addr} {acc : List D} (g : G K F M H) (h : M p = some (.lst acc)) {Q : DQ} (q : Q (.lst acc) (M.del p)) : LQ K F Q (.ref p) H := by
  obtain ⟨h3, ws, h4, h5⟩ := g.mo _ _ h
  have ex : Ex F (upd F p (.lst ws)) := Ex.new h3
  refine ⟨upd F p (.lst ws), M.del p, .lst acc, ex, ⟨fun b o q => ?_, fun b o q => ?_⟩, .lst upd_same (h5.mono ex), q⟩
  · by_cases hb : b = p
    · subst hb; rw [upd_same] at q; cases q; exact h4
    · rw [upd_ne hb] at q; exact g.ex _ _ q
  · have hb : b ≠ p := fun z => by subst z; unfold MH.del at q; rw [if_pos rfl] at q; cases q
    unfold MH.del at q
    rw [if_neg hb] at q
    obtain ⟨k1, k2⟩ := g.mo b o q
    exact ⟨by rw [upd_ne hb]; exact k1, k2.mono ex rfl⟩
def bG (X : Cx) (scope : Scope) (tg : Expr) : TG := fun v σ H Q => ∀ s H0 C cl fp, wG (X.blk s H0 scope (compEnvC scope cl C X.env) fp) tg v σ H Q
def bT (X : Cx) (scope : Scope) (ifs : List Expr) : TT := fun σ H Q => ∀ s H0 C cl fp, wTs (X.blk s H0 scope (compEnvC scope cl C X.env) fp) ifs σ H Q
def bE (X : Cx) (scope : Scope) (elt : Expr) : TE := fun σ H Q => ∀ s H0 C cl fp, wE (X.blk s H0 scope (compEnvC scope cl C X.env) fp) elt σ H Q
theorem dlc_t {scope : Scope} {is : List Nat} {di : DI} {gd : DG} (own : List (Str × Nat)) (hok : blkC τ.N τ.sc scope own = true) (hi : DPI Ω τ tg iter di) (hg : DPG Ω (τ.blk scope) is tg gd) (ht : DPTs Ω (τ.blk scope) ifs dt) (he : DP Ω (τ.blk scope) elt de)
    (hv : ∀ i ∈ is, i ∈ own.map (·.2) := by decide) (ft : Fit Ω τ X) {F0 : Hp} {E : EK} (tk : TkD X F0 E) {F : Hp} {M : MH} {H : Hp} {σ : L2.St} {σ' : DSt} {Q : DQ} {T : VK} (e0 : Ex F0 F) (g : G X.K F M H) (r : RpS X.K F σ σ') (h : dLc di gd dt de (own.map (·.2)) σ' M Q E) (hT : ∀ v H, LQ X.K F Q v H → T v H) :
    tLc (wI X tg iter) (bG X scope tg) (bT X scope ifs) (bE X scope elt) (own.map (·.2)) σ H T := by
  refine wI_mono (hi.run X ft F0 E tk F M H σ σ' _ e0 g r h) ?_
  rintro J H1 ⟨F1, M1, xs, e1, g1, wk, hp⟩
  intro p hpn
  obtain ⟨hF1, hM1⟩ := g1.fresh hpn
  obtain ⟨W, w0, wn, ws⟩ := hp p hM1
  have g0 : G X.K F1 (M1.put p (.lst [])) (upd H1 p (.lst [])) := g1.newM hpn (o := .lst []) (u := .lst []) ⟨[], upd_same, .nil⟩
  refine ⟨fun i m H => m = xs.length - i ∧ i ≤ xs.length ∧ ∃ F2 M2, Ex F1 F2 ∧ G X.K F2 M2 H ∧ W (xs.drop i) M2, ⟨_, rfl, Nat.zero_le _, F1, _, Ex.refl F1, g0, w0⟩, ?_⟩
  rintro i m H2 ⟨rfl, hi2, F2, M2, e2, g2, w2⟩
  have e02 : Ex F0 F2 := (e0.trans e1).trans e2
  by_cases hlt : i < xs.length
  · refine .inr ⟨wk.go i H2 (e2.trans g2.ex) hlt, fun H => i + 1 ≤ xs.length ∧ ∃ F3 M3, Ex F1 F3 ∧ G X.K F3 M3 H ∧ W (xs.drop (i + 1)) M3, fun H' q => ⟨_, by omega, rfl, q⟩, fun v H3 hy => ?_⟩
    have hd : xs[i]? = some xs[i] := List.getElem?_eq_getElem hlt
    obtain ⟨F3, e3, g3, r3⟩ := wk.yld i F2 M2 H2 v H3 _ e2 g2 hd hy
    rw [List.drop_eq_getElem_cons hlt] at w2
    intro s H0 C cl fp
    have e03 : Ex F0 F3 := e02.trans e3
    have e13 : Ex F1 F3 := e2.trans e3
    refine wG_mono (hg.run _ (fit_blk ft s H0 scope C cl fp) F0 noE tk_no F3 M2 H3 _ _ v _ _ e03 g3 ((r.mono (e1.trans e13)).wipe _) r3 (ws _ _ _ w2)) ?_
    rintro σ4 H4 ⟨k4, F4, M4, σ4', e4, g4, r4, q⟩
    refine ⟨wipe_kept k4 hv, fun s H0 C cl fp => ?_⟩
    have bt := ht.run _ (fit_blk ft s H0 scope C cl fp) F0 noE tk_no F4 M4 H4 σ4 σ4' _ (e03.trans e4) g4 r4 q
    refine fun pins s1 I1 => thn (bt pins s1 I1) ?_
    rintro k s2 ⟨H5, I5, F5, M5, e5, g5, q1, q2⟩
    refine ⟨H5, I5, ?_⟩
    have e15 : Ex F1 F5 := (e13.trans e4).trans e5
    cases k with
    | false => exact iteF ⟨hlt, F5, M5, e15, g5, q2 rfl⟩
    | true =>
      refine iteT fun s H0 C cl fp => ?_
      refine wE_mono (he.run _ (fit_blk ft s H0 scope C cl fp) F0 noE tk_no F5 M5 H5 σ4 σ4' _ ((e0.trans e1).trans e15) g5 (r4.mono e5) (q1 rfl)) ?_
      rintro y H6 ⟨F6, M6, y', e6, g6, r6, acc, h6, hl, q6⟩
      obtain ⟨hF, wsv, h7, h8⟩ := g6.mo _ _ h6
      refine ⟨wsv, h7, by rw [h8.length]; exact Nat.lt_of_lt_of_le (Nat.lt_succ_self _) hl.sz, hlt, F6, _, e15.trans e6, g6.set h6 (o := .lst (wsv ++ [y])) (u := .lst (acc ++ [y'])) ⟨_, upd_same, h8.snoc r6⟩, q6⟩
  · have e : i = xs.length := by omega
    subst e
    rw [List.drop_length] at w2
    obtain ⟨acc, h6, q6⟩ := wn _ w2
    exact .inl ⟨wk.stop _ H2 (e2.trans g2.ex) (Nat.le_refl _), hT _ _ (LQ.back (e1.trans e2) (g_unput g2 h6 q6))⟩

theorem dp_lc {scope : Scope} {is : List Nat} {di : DI} {gd : DG} (own : List (Str × Nat)) (hok : blkC τ.N τ.sc scope own = true) (hi : DPI Ω τ tg iter di) (hg : DPG Ω (τ.blk scope) is tg gd) (ht : DPTs Ω (τ.blk scope) ifs dt) (he : DP Ω (τ.blk scope) elt de)
    (hv : ∀ i ∈ is, i ∈ own.map (·.2) := by decide) (hc : τ.calm = true := by rfl) (hs : ∀ env x, foldedSetIterable iter env x = pure x := by intro _ _; rfl) : DP Ω τ (.ListComp elt [⟨tg, iter, ifs, 0⟩] scope pos) (dLc di gd dt de (own.map (·.2))) := Hd.mk fun X ft F0 E tk F M H σ σ' Q e0 g r h =>
  wE_of (pe_lc (ft.calm hc) (by rw [ft.N]; exact ft.nd) pi_wI (blkOk_by (by rw [ft.N, ft.sc]; exact hok))
    (fun s H0 C cl fp => ⟨fun pins s1 σ1 H1 v u Q1 I1 rv q => q s H0 C cl fp pins s1 u I1 rv⟩) (fun s H0 C cl fp => ⟨fun pins s1 σ1 H1 Q1 I1 q => q s H0 C cl fp pins s1 I1⟩) (fun s H0 C cl fp => ⟨fun pins s1 σ1 H1 Q1 I1 q => q s H0 C cl fp pins s1 I1⟩) (hs _)) (dlc_t own hok hi hg ht he hv ft tk e0 g r h fun _ _ z => z)
/-- name = [..] on one line -/
theorem dps_setLc {ls : List Nat} {y : Str} {py spos : Pos} (L : StOk τ.N ls τ.sc τ.own) (i : Nat) {scope : Scope} {is : List Nat} {di : DI} {gd : DG} (own : List (Str × Nat)) (hok : blkC τ.N τ.sc scope own = true) (hi : DPI Ω τ tg iter di) (hg : DPG Ω (τ.blk scope) is tg gd) (ht : DPTs Ω (τ.blk scope) ifs dt) (he : DP Ω (τ.blk scope) elt de)
    (hv : ∀ i ∈ is, i ∈ own.map (·.2) := by decide) (hN : τ.N[i]? = some y := by rfl) (hy : τ.sc.names.lookup y = some .local := by decide +kernel) (hl : (py.line == pos.line) = true := by rfl)
    (hk : τ.sc.kind = .function := by rfl) (hf : (scope.names.any fun (n, k) => n == y && (k == .local || k == .cell)) = false := by decide +kernel) (hc : τ.calm = true := by rfl) (hs : ∀ env x, foldedSetIterable iter env x = pure x := by intro _ _; rfl) :
    DPS Ω τ (.Assign [.Name y py] (.ListComp elt [⟨tg, iter, ifs, 0⟩] scope pos) spos) (dSet i (dLc di gd dt de (own.map (·.2)))) := Hd.mk fun X ft F0 E tk F M H σ σ' D e0 g r h => by
  refine wS_of (ps_setLc (i := i) (ft.calm hc) (by rw [ft.N]; exact ft.nd) (by rw [ft.N]; exact hN) (by rw [ft.sc]; exact hy) (sw_true (by rw [ft.sc]; exact hk) (by rw [ft.sc]; exact hy) hl hf) pi_wI (blkOk_by (by rw [ft.N, ft.sc]; exact hok))
    (fun s H0 C cl fp => ⟨fun pins s1 σ1 H1 v u Q1 I1 rv q => q s H0 C cl fp pins s1 u I1 rv⟩) (fun s H0 C cl fp => ⟨fun pins s1 σ1 H1 Q1 I1 q => q s H0 C cl fp pins s1 I1⟩) (fun s H0 C cl fp => ⟨fun pins s1 σ1 H1 Q1 I1 q => q s H0 C cl fp pins s1 I1⟩) (hs _))
    (dlc_t own hok hi hg ht he hv ft tk e0 g r h ?_)
  rintro v H1 ⟨F1, M1, d, e1, g1, r1, q⟩
  exact ⟨F1, M1, _, e1, g1, (r.mono e1).set1 i r1, q⟩
end
end DL

/-! The deep layer, part g: defs and their calls, by data. -/
namespace DL
open PySem PySem.Spec PyProof.Rows L2

/-- a def's promise by data: the arguments, what changes, the wanted end, the wanted exception -/
abbrev DSp := List D → MH → DQ → (Er → MH → Prop) → Prop
def lift (K : PySem.W.Frag) (n : Nat) (sp : DSp) : Sp := fun vs H Q E => ∃ F M ds Qd Ed, G K F M H ∧ RpL K F vs ds ∧ ds.length = n ∧ sp ds M Qd Ed ∧
  (∀ y M' v H' F', Ex F F' → G K F' M' H' → Rp K F' v y → Qd y M' → Q v H') ∧ (∀ er M' cls d H' F', Ex F F' → G K F' M' H' → ErOk K F' cls d er → Ed er M' → E cls d H')
/-- a promise where no guard stands around (a repr asks for that) -/
structure FnG (P : Program) (w : World) (K : PySem.W.Frag) (mg : Str → Option Value) (base : Heap) (CX : CXT) (k : Nat) (f : Addr) (fd : FuncData) (ps : List Str) (sp : Sp) : Prop where
  size : ∀ ws H Q E, sp ws H Q E → ws.length = ps.length
  go : ∀ (A : Around) (out : List Env) (t : Shared) (H : Hp) (ag : Args) (us : List Value) (ws : List V) (Q : VK) (E : XK), Room k A → A.guards = some [] → Env0 P w K mg base A out t H → BindsTo t fd ag (ps.zip us) → Vals ws us → sp ws H Q E →
    codeAny (model P w) A (.call (.ref f) ag) (CR CX out P w H t Q E) t
theorem FnG.mono {P : Program} {w : World} {K : PySem.W.Frag} {mg : Str → Option Value} {base : Heap} {CX : CXT} {j k : Nat} {f : Addr} {fd : FuncData} {ps : List Str} {sp : Sp} (F : FnG P w K mg base CX j f fd ps sp) (h : j ≤ k) : FnG P w K mg base CX k f fd ps sp :=
  ⟨F.size, fun A out t H ag us ws Q E r => F.go A out t H ag us ws Q E (r.mono h)⟩
theorem FnG.imp {P : Program} {w : World} {K : PySem.W.Frag} {mg : Str → Option Value} {base : Heap} {CX : CXT} {k : Nat} {f : Addr} {fd : FuncData} {ps : List Str} {sp sp' : Sp} (F : FnG P w K mg base CX k f fd ps sp) (h : ∀ ws H Q E, sp' ws H Q E → sp ws H Q E) : FnG P w K mg base CX k f fd ps sp' :=
  ⟨fun ws H Q E q => F.size ws H Q E (h _ _ _ _ q), fun A out t H ag us ws Q E r g e b v q => F.go A out t H ag us ws Q E r g e b v (h _ _ _ _ q)⟩
/-- a def by its body -/
theorem fnG_of {CX : CXT} {P : Program} {w : World} {K : PySem.W.Frag} {mg : Str → Option Value} {base : Heap} {k : Nat} {f : Addr} {nm qu : Str} {par : Arguments} {body : List Stmt} {sc : Scope} {d1 d2 d3 d4 d5 d6 cls0 : Value} {an dd : Option Addr}
    {sl : Array (Option Value)} {N ps : List Str} {sp : Sp} (hK : K.lookup f = some ⟨cls0, dd, .func (PySem.W.fnOf nm qu par body sc d1 d2 d3 d4 an d5 d6), sl⟩) (hcode : PySem.W.codeIn K d5 qu = true) (S : FnScope N ps sc)
    (size : ∀ ws H Q E, sp ws H Q E → ws.length = ps.length)
    (hb : ∀ (A : Around) (out : List Env) (t : Shared) (H : Hp) (ws : List V) (Q : VK) (E : XK), A.guards = some [] → Room k (A.deeper (envOfC qu sc t.heap.objs.size f d5)) → sp ws H Q E →
      ∃ r, PSs (cxOf CX P w K mg base N qu sc f d5 A out t H E) body r ∧ r { nx := fun _ H' => Q .non H', rt := Q } (L2.start N ws) H) :
    FnG P w K mg base CX (k + 1) f (PySem.W.fnOf nm qu par body sc d1 d2 d3 d4 an d5 d6) ps sp := by
  refine ⟨size, fun A out t H ag us ws Q E room gd e0 bnd rv hs => ?_⟩
  have inK : K.In t.heap := e0.mod.kin.keeps fun b o z => (e0.bs b o z).1
  have kinds : ∀ y ∈ ps.zip us, sc.names.lookup y.1 = some .local ∨ (sc.names.lookup y.1 = some .cell ∧ ((cellsFrom (t.heap.objs.size + 1) sc.names []).lookup y.1).isSome = true) := by
    rintro ⟨n, v⟩ hy
    exact (S.par n (List.of_mem_zip hy).1).imp id fun q => ⟨q, PySem.W.cellsFrom_some _ _ _ (.inl q)⟩
  refine codeAny_call_function room.depth (inK _ _ hK) rfl S.co S.gen rfl (PySem.W.codeRec_of inK hcode) (bnd _ _ _ _ ?_)
  refine wpAny_newFunctionEnv_cells S.kind kinds fun ev hev t1 x => ?_
  subst hev
  refine ⟨(e0.mod.nolimit.keeps fun b o z => (e0.bs b o z).1).keeps x.toInCall.keep, codeAny_func ?_⟩
  obtain ⟨r, hr, q⟩ := hb A out t H ws Q E gd (room.deeper _) hs
  have I : Inv (cxOf CX P w K mg base N qu sc f d5 A out t H E) [] (L2.start N ws) H t1 := inv_start S room.hd e0 (size _ _ _ _ hs) rv x
  refine wpAny_mono (hr.run [] t1 (L2.start N ws) H _ I q) (fun fl t2 z => ?_) fun _ _ z => z
  cases fl with
  | next => exact let ⟨_, H2, J, q2⟩ := z; ⟨V.non, H2, J.os, J.bare, J.base, J.hok, rfl, q2⟩
  | ret u => exact let ⟨v, _, H2, J, rv2, q2⟩ := z; ⟨v, H2, J.os, J.bare, J.base, J.hok, rv2, q2⟩
  | brk => exact z.elim fun _ z => z.elim fun _ z => z.2.elim
  | cont => exact z.elim fun _ z => z.elim fun _ z => z.2.elim
/-- the callee runs -/
theorem run_fnG {X : Cx} {CX : CXT} {k : Nat} {f : Addr} {fd : FuncData} {ps : List Str} {sp : Sp} {E : L2.St → XK} {pins : List (Addr × Obj)} {σ : L2.St} {H : Hp} {s : Shared} {Q : VK} {us : List Value} {ag : Args} {ws : List V} (F : FnG X.prog X.w X.K X.mg X.base CX k f fd ps sp) (room : Room k X.A) (gd : X.A.guards = some []) (bnd : BindsTo s fd ag (ps.zip us))
    (pass : PassesAt CX X σ (E σ)) (I : Inv X pins σ H s) (rv : Vals ws us) (h : sp ws H Q (E σ)) : codeAny (model X.prog X.w) X.A (.call (.ref f) ag) (fun r s' => match r with
      | .ok (.ret u) => EP X pins σ Q u s'
      | .ok _ => False
      | .error e => X.xe e s') s := by
  refine codeAny_mono (F.go X.A X.stack s H ag us ws Q (E σ) room gd I.env0 bnd rv h) ?_
  rintro (e | fl) t z
  · exact pass pins H s e t I z
  · cases fl <;> first | exact I.after z | exact False.elim z
/-- the def at f with object fd keeps its promise -/
abbrev Okd (Ω : Wl) (f : Addr) (fd : FuncData) (k : Nat) (ps : List Str) (sp : DSp) : Prop := FnG Ω.P Ω.w Ω.K Ω.mg Ω.base (L2N.CX Ω.P Ω.w) k f fd ps (lift Ω.K ps.length sp)
/-- a def of the module, by its name -/
def Cal (Ω : Wl) (x : Str) (k : Nat) (ps : List Str) (sp : DSp) : Prop := ∃ f fd, Okd Ω f fd k ps sp ∧ Ω.mg x = some (.ref f) ∧ PySem.W.keepIn Ω.K (.ref f) = true ∧ Binds Ω.K fd ps []
/-- where a def stands -/
def Std (Ω : Wl) (x : Str) (ps : List Str) (st : Stmt) : Prop := ∃ f fd, Fun Ω.K x x st f fd ∧ Ω.mg x = some (.ref f) ∧ Binds Ω.K fd ps []

def dstart (N : List Str) (ds : List D) : DSt := ds.map some ++ List.replicate (N.length - ds.length) none
theorem rps_none {K : PySem.W.Frag} {F : Hp} : ∀ n : Nat, RpS K F (List.replicate n none) (List.replicate n none)
  | 0 => .nil
  | n + 1 => .cons (show RpO K F none none from trivial) (rps_none n)
theorem rps_start {K : PySem.W.Frag} {F : Hp} {N : List Str} {vs : List V} {ds : List D} (r : RpL K F vs ds) : RpS K F (L2.start N vs) (dstart N ds) := by
  unfold L2.start dstart
  rw [r.length]
  generalize N.length - ds.length = n
  induction vs generalizing ds with
  | nil => cases r; exact rps_none n
  | cons v vs ih => cases r with | cons h r => exact .cons (show RpO K F (some v) (some _) from h) (ih r)

/-- a def's static place -/
def Sx.fn (N : List Str) (sc : Scope) (k : Nat) : Sx := ⟨N, sc, k, true, fun _ => true⟩
/-- less is told of what changes -/
def MH.Le (M' M : MH) : Prop := ∀ a o, M' a = some o → M a = some o
theorem MH.Le.refl {M : MH} : MH.Le M M := fun _ _ h => h
theorem MH.Le.trans {M1 M2 M3 : MH} (a : MH.Le M1 M2) (b : MH.Le M2 M3) : MH.Le M1 M3 := fun x o h => b x o (a x o h)
theorem MH.Le.put {M1 M2 : MH} (h : MH.Le M1 M2) {a : Addr} {o : MO} (ha : M1 a = none) : MH.Le M1 (M2.put a o) := fun x u q => by
  rw [MH.put_ne (fun e => by rw [e, ha] at q; cases q)]; exact h x u q
theorem MH.Le.put2 {M1 M2 : MH} (h : MH.Le M1 M2) {a : Addr} {o : MO} : MH.Le (M1.put a o) (M2.put a o) := fun x u q => by
  by_cases hx : x = a
  · subst hx; rw [MH.put_same] at q ⊢; exact q
  · rw [MH.put_ne hx] at q ⊢; exact h x u q
theorem MH.Le.del {M1 M2 : MH} (h : MH.Le M1 M2) {a : Addr} (ha : M1 a = none) : MH.Le M1 (M2.del a) := fun x u q => by
  unfold MH.del
  rw [if_neg (fun e => by rw [e, ha] at q; cases q)]; exact h x u q
abbrev ends (Q : DQ) : DEnds := { nx := fun _ M => ∃ M', MH.Le M' M ∧ Q .non M', rt := fun v M => ∃ M', MH.Le M' M ∧ Q v M', bk := fun _ _ => False, ct := fun _ _ => False }
section
variable {Ω : Wl} {τ : Sx} {X : Cx} {a b c e o tg iter elt : Expr} {es rest ifs : List Expr} {da db dc de : DE} {ta tb dt : DT} {tl tr : DA} {pos p p2 apos : Pos} {x m : Str} {vs : List Nat} {gs : List Str} {f : Addr} {C : Str} {fd : FuncData} {k : Nat} {ps : List Str} {sp : DSp} {st : Stmt} {N : List Str} {d : DS} {qual : Str}
theorem okd_mk {P : Program} {w : World} {K : PySem.W.Frag} {mg : Str → Option Value} {base : Heap} (F : Fun K x qual st f fd) (S : FnScope N ps (defScope st)) (hb : DPSs ⟨P, w, K, mg, base⟩ (Sx.fn N (defScope st) k) (defBody st) d)
    (h : ∀ ds M Q E, ds.length = ps.length → sp ds M Q E → d (ends Q) (fun er _ M => E er M) (dstart N ds) M) : Okd ⟨P, w, K, mg, base⟩ f fd (k + 1) ps sp := by
  obtain ⟨oc, od, kV, doc, pm, an, cdv, ct, osl, rfl, lk, hcd⟩ := F.ex
  refine fnG_of lk hcd S (fun vs H Q E h => ?_) fun A outer s H vs Q E gd hr hsp => ?_
  · obtain ⟨F1, M, ds, Qd, Ed, g, r, hl, _⟩ := h
    exact r.length.trans hl
  · obtain ⟨F1, M, ds, Qd, Ed, g, r, hl, hs, hq, he⟩ := hsp
    generalize hX : cxOf (L2N.CX P w) P w K mg base N qual (defScope st) f cdv A outer s H E = X
    have xP : X.prog = P := by rw [← hX]; rfl
    have xw : X.w = w := by rw [← hX]; rfl
    have xK : X.K = K := by rw [← hX]; rfl
    have fit : Fit ⟨P, w, K, mg, base⟩ (Sx.fn N (defScope st) k) X := by
      rw [← hX]
      exact ⟨rfl, rfl, rfl, rfl, rfl, rfl, rfl, hr, fun _ => rfl, S.nd, fun _ _ _ => .inl rfl, passes_of rfl, gd⟩
    have tk : TkD X F1 (fun er _ M => Ed er M) := by
      have t0 : L2N.Takes X (fun cls d _ H => E cls d H) := by
        rw [← hX]
        exact L2N.takes_of rfl rfl rfl rfl
      refine t0.imp fun cls d σ H ⟨F2, M2, σ', er, e2, g2, _, ok, q⟩ => ?_
      rw [xK] at g2 ok
      exact he er M2 cls d H F2 e2 g2 ok q
    refine ⟨_, pss_wSs, wSs_mono (hb.run X fit F1 _ tk F1 M H (L2.start N vs) (dstart N ds) (ends Qd) (Ex.refl F1) (by rw [xK]; exact g) (by rw [xK]; exact rps_start r) (h ds M Qd Ed hl hs)) ⟨?_, ?_, ?_, ?_⟩⟩
    · rintro σ2 H2 ⟨F2, M2, σ', e2, g2, _, q⟩
      rw [xK] at g2
      obtain ⟨M3, le, q⟩ := q
      exact hq .non M3 .non H2 F2 e2 (g2.less le) .non q
    · rintro v H2 ⟨F2, M2, y, e2, g2, rv, q⟩
      rw [xK] at g2 rv
      obtain ⟨M3, le, q⟩ := q
      exact hq y M3 v H2 F2 e2 (g2.less le) rv q
    · rintro σ2 H2 ⟨_, _, _, _, _, _, q⟩
      exact q.elim
    · rintro σ2 H2 ⟨_, _, _, _, _, _, q⟩
      exact q.elim
theorem cal_mk (h0 : Std Ω x ps st) (S : FnScope N ps (defScope st)) (hb : DPSs Ω (Sx.fn N (defScope st) k) (defBody st) d) (h : ∀ ds M Q E, ds.length = ps.length → sp ds M Q E → d (ends Q) (fun er _ M => E er M) (dstart N ds) M) : Cal Ω x (k + 1) ps sp := by
  obtain ⟨f, fd, F, hm, b⟩ := h0
  exact ⟨f, fd, okd_mk F S hb h, hm, F.kp, b⟩
theorem Cal.imp {sp' : DSp} (c : Cal Ω x k ps sp) (h : ∀ ds M Q E, ds.length = ps.length → sp' ds M Q E → sp ds M Q E) : Cal Ω x k ps sp' := by
  obtain ⟨f, fd, F, r⟩ := c
  exact ⟨f, fd, F.imp fun vs H Q E ⟨F1, M, ds, Qd, Ed, g, r, hl, hs, hq, he⟩ => ⟨F1, M, ds, Qd, Ed, g, r, hl, h _ _ _ _ hl hs, hq, he⟩, r⟩
theorem Cal.mono {j : Nat} (c : Cal Ω x j ps sp) (h : j ≤ k) : Cal Ω x k ps sp := by
  obtain ⟨f, fd, F, r⟩ := c
  exact ⟨f, fd, F.mono h, r⟩

/-! ### calls -/
theorem fit_ok (ft : Fit Ω τ X) (F : Okd Ω f fd k ps sp) : FnG X.prog X.w X.K X.mg X.base (L2N.CX X.prog X.w) k f fd ps (lift X.K ps.length sp) := by
  rw [ft.P, ft.w, ft.K, ft.mg, ft.base]; exact F
/-- the call of what was looked up, the arguments laid -/
theorem run_okd (ft : Fit Ω τ X) (F : Okd Ω f fd k ps sp) (hk : k ≤ τ.k) (hb : Binds Ω.K fd ps []) {F0 : Hp} {E : EK} (tk : TkD X F0 E) {pins : List (Addr × Obj)} {σ : L2.St} {H : Hp} {s : Shared} {Q : VK} {us : List Value} {ws : List V} (I : Inv X pins σ H s) (rv : Vals ws us)
    (h : lift X.K ps.length sp ws H Q (WE (LX X.K F0 E) σ)) : wpAny (model X.prog X.w) X.A (call (.ref f) us) (EP X pins σ Q) X.xe s := by
  have hl : us.length = ps.length := rv.length.symm.trans ((fit_ok ft F).size _ _ _ _ h)
  have b := hb s us (by rw [← ft.K]; exact I.kIn) (by rw [List.append_nil]; exact hl)
  rw [List.append_nil] at b
  refine wpAny_call (codeAny_mono (run_fnG (E := WE (LX X.K F0 E)) (fit_ok ft F) (ft.room.mono hk) ft.gd b (L2N.passAt tk σ) I rv h) ?_)
  rintro (e | fl) t z
  · exact z
  · cases fl <;> first | exact z | exact False.elim z
/-- the wish of a call is met -/
theorem lift_of {K : PySem.W.Frag} {F0 F M} {H : Hp} {σ : L2.St} {σ' : DSt} {vs : List V} {ds : List D} {Q : DQ} {E : EK} {n : Nat} (e0 : Ex F0 F) (g : G K F M H) (rs : RpS K F σ σ') (r : RpL K F vs ds) (hl : ds.length = n) (h : sp ds M Q fun er M2 => E er σ' M2) :
    lift K n sp vs H (LQ K F Q) (WE (LX K F0 E) σ) :=
  ⟨F, M, ds, Q, _, g, r, hl, h, fun y M' v H' F' e g' rv q => ⟨F', M', y, e, g', rv, q⟩, fun er M' cls d H' F' e g' ok q => ⟨F', M', σ', er, e0.trans e, g', rs.mono e, ok, q⟩⟩
def dCall (n : Nat) (sp : DSp) (t : DA) : DE := fun σ M Q E => t σ M (fun ds M1 => ds.length = n ∧ sp ds M1 Q fun er M2 => E er σ M2) E
theorem dp_call (c : Cal Ω x k ps sp) (S : ScOk τ.N vs gs τ.sc) (ha : DPA Ω τ (e :: es) tl) (hg : x ∈ gs := by decide) (hk : k ≤ τ.k := by decide) (hdb : (x == ("__debug__" : Str)) = false := by decide)
    (he : ∀ env, starEach (e :: es) env = (false, eval e env) :: starEach es env := by intro _; rfl) (hpl : ∀ env, (backTo pos (starEach es env)).any (·.1) = false := by intro _; rfl) : DP Ω τ (.Call (.Name x p) (e :: es) [] pos) (dCall ps.length sp tl) := Hd.mk fun X ft F0 E tk F M H σ σ' Q e0 g r h pins s I => by
  obtain ⟨f, fd, F1, hm, hkp, hb⟩ := c
  refine wpAny_Call_Name_kw (ld_glob I (fit_gl ft S hg) (by rw [ft.mg]; exact hm) ?_ hdb)
  refine PySem.W.callWith_K (h₀ := X.base) I.ok.mod.kin (by rw [ft.K]; exact hkp) (thn (ha.run X ft F0 E tk F M H σ σ' _ e0 g r h pos pins s I) ?_) (he _) (hpl _)
  rintro us s1 ⟨vs, H1, I1, rv, F2, M2, ds, e2, g2, r2, hl, q⟩
  refine ⟨I1.kIn, thn (run_okd ft F1 hk hb tk I1 rv (lift_of (e0.trans e2) g2 (r.mono e2) r2 hl q)) ?_⟩
  rintro u s2 ⟨v, H2, I2, rv2, q2⟩
  exact ⟨v, H2, I2, rv2, LQ.back e2 q2⟩
def dCall0 (sp : DSp) : DE := fun σ M Q E => sp [] M Q fun er M2 => E er σ M2
theorem dp_call0 (c : Cal Ω x k [] sp) (S : ScOk τ.N vs gs τ.sc) (hg : x ∈ gs := by decide) (hk : k ≤ τ.k := by decide) (hdb : (x == ("__debug__" : Str)) = false := by decide) : DP Ω τ (.Call (.Name x p) [] [] pos) (dCall0 sp) := Hd.mk fun X ft F0 E tk F M H σ σ' Q e0 g r h pins s I => by
  obtain ⟨f, fd, F1, hm, hkp, hb⟩ := c
  refine wpAny_Call_Name_kw (ld_glob I (fit_gl ft S hg) (by rw [ft.mg]; exact hm) ?_ hdb)
  exact PySem.W.callWith_K0 I.kIn (by rw [ft.K]; exact hkp) (run_okd ft F1 hk hb tk (us := []) (ws := []) I .nil (lift_of e0 g r .nil rfl h))

/-! ### instances: fields, methods, properties -/
/-- the instance that a value is: one that stands still, or one that may change -/
def insD (C : Str) : D → MH → (List Str → List D → Prop) → Prop
  | .obj C' ns fs, _, R => C' = C ∧ R ns fs
  | .ref a, M, R => ∃ ns fs, M a = some (.ins C ns fs) ∧ R ns fs
  | _, _, _ => False
theorem insD_ok {K : PySem.W.Frag} {F : Hp} {M : MH} {H : Hp} {v : V} {y : D} {R : List Str → List D → Prop} (g : G K F M H) (r : Rp K F v y) (h : insD C y M R) : ∃ q dx fvs ns fs, v = .ref q ∧ H q = some (.ins (clsA K C) dx fvs) ∧ fvs.map (·.1) = ns ∧ RpL K F (fvs.map (·.2)) fs ∧ R ns fs := by
  cases y <;> first | exact h.elim | skip
  case obj C' ns fs =>
    obtain ⟨rfl, h⟩ := h
    cases r with | obj ho hk hr => exact ⟨_, _, _, ns, fs, rfl, g.ex _ _ ho, hk, hr, h⟩
  case ref q =>
    obtain ⟨ns, fs, h1, h2⟩ := h
    cases r
    obtain ⟨_, dx, fvs, h3, h4, h5⟩ := g.mo _ _ h1
    exact ⟨q, dx, fvs, ns, fs, rfl, h3, h4, h5, h2⟩
def fldOf : List Str → List D → Str → Option D
  | n :: ns, f :: fs, x => if x == n then some f else fldOf ns fs x
  | _, _, _ => none
theorem fld_look {K : PySem.W.Frag} {F : Hp} {f : Str} {y : D} : ∀ {fvs : List (Str × V)} {ns : List Str} {fs : List D}, fvs.map (·.1) = ns → RpL K F (fvs.map (·.2)) fs → fldOf ns fs f = some y → ∃ v, fvs.lookup f = some v ∧ Rp K F v y
  | [], _, _, rfl, r, h => by cases r; cases h
  | (n, v) :: fvs, _, _, rfl, r, h => by
    cases r with | cons rv rr =>
    have h' : (if f == n then some _ else fldOf (fvs.map (·.1)) _ f) = some y := h
    by_cases c : (f == n) = true
    · rw [if_pos c] at h'
      cases h'
      exact ⟨v, by rw [List.lookup_cons, c], rv⟩
    · rw [if_neg c] at h'
      obtain ⟨w, h1, h2⟩ := fld_look rfl rr h'
      refine ⟨w, ?_, h2⟩
      rw [List.lookup_cons]
      have c' : (f == n) = false := by cases q : (f == n) <;> first | rfl | exact absurd q c
      rw [c']; exact h1
theorem fld_none {f : Str} : ∀ {fvs : List (Str × V)} {ns : List Str}, fvs.map (·.1) = ns → ns.contains f = false → fvs.lookup f = none
  | [], _, _, _ => rfl
  | (n, v) :: fvs, _, rfl, h => by
    have h' : (List.contains (n :: fvs.map (·.1)) f) = false := h
    rw [List.contains_cons, Bool.or_eq_false_iff] at h'
    rw [List.lookup_cons, h'.1]
    exact fld_none rfl h'.2
def dFld (C : Str) (f : Str) (de : DE) : DE := fun σ M Q E => de σ M (fun x M1 => insD C x M1 fun ns fs => ∃ y, fldOf ns fs f = some y ∧ Q y M1) E
theorem dp_fld (hC : Cls Ω.K (clsA Ω.K C)) (hn : NoAttr Ω.K (clsA Ω.K C) m) (he : DP Ω τ e de) (hb : ∀ env, attributeBase e m env (eval e env) = eval e env := by intro _; rfl) : DP Ω τ (.Attribute e m pos) (dFld C m de) := Hd.mk fun X ft F0 E tk F M H σ σ' Q e0 g r h => by
  refine wE_of (pe_fld pe_wE (hb _)) (wE_mono (he.run X ft F0 E tk F M H σ σ' _ e0 g r h) ?_)
  rintro v H1 ⟨F1, M1, y, e1, g1, r1, q⟩
  obtain ⟨q0, dx, fvs, ns, fs, rfl, h1, h2, h3, z, h4, h5⟩ := insD_ok g1 r1 q
  obtain ⟨w, h6, h7⟩ := fld_look h2 h3 h4
  exact ⟨q0, _, dx, fvs, w, rfl, h1, by rw [ft.K]; exact hC, by rw [ft.K]; exact hn, h6, F1, M1, z, e1, g1, h7, h5⟩
/-- a method of a class -/
def CalM (Ω : Wl) (C : Str) (m : Str) (k : Nat) (ps : List Str) (sp : DSp) : Prop := ∃ f fd, Okd Ω f fd k ps sp ∧ Meth Ω.K (clsA Ω.K C) m f ∧ Binds Ω.K fd ps []
def StdM (Ω : Wl) (C : Str) (m qual : Str) (ps : List Str) (st : Stmt) : Prop := ∃ f fd, Fun Ω.K m qual st f fd ∧ Meth Ω.K (clsA Ω.K C) m f ∧ Binds Ω.K fd ps []
theorem calM_mk (h0 : StdM Ω C m qual ps st) (S : FnScope N ps (defScope st)) (hb : DPSs Ω (Sx.fn N (defScope st) k) (defBody st) d) (h : ∀ ds M Q E, ds.length = ps.length → sp ds M Q E → d (ends Q) (fun er _ M => E er M) (dstart N ds) M) : CalM Ω C m (k + 1) ps sp := by
  obtain ⟨f, fd, F, hm, b⟩ := h0
  exact ⟨f, fd, okd_mk F S hb h, hm, b⟩
def dMeth (C : Str) (m : Str) (n : Nat) (sp : DSp) (de : DE) (t : DA) : DE := fun σ M Q E => de σ M (fun x M1 => insD C x M1 fun ns _ => ns.contains m = false ∧ t σ M1 (fun ds M2 => ds.length + 1 = n ∧ sp (x :: ds) M2 Q fun er M3 => E er σ M3) E) E
theorem dp_meth (c : CalM Ω C m k ps sp) (hC : Cls Ω.K (clsA Ω.K C)) (ho : DP Ω τ o de) (ha : DPA Ω τ (e :: es) tl) (hk : k ≤ τ.k := by decide) (hst : ∀ env, starEach (e :: es) env = (false, eval e env) :: starEach es env := by intro _; rfl) (hpl : ∀ env, (backTo pos (starEach es env)).any (·.1) = false := by intro _; rfl)
    (ht : ∀ env, ∃ pl, eval (.Call (.Attribute o m apos) (e :: es) [] pos) env = (do
      let ov ← eval o env
      standAt apos.atName
      let (f, first) ← holding [ov] (getMethod ov m pl)
      callWith pos f first (backTo pos (starEach (e :: es) env)) (backToKw pos (keywordEach [] env))) := by intro _; exact ⟨_, rfl⟩) :
    DP Ω τ (.Call (.Attribute o m apos) (e :: es) [] pos) (dMeth C m ps.length sp de tl) := Hd.mk fun X ft F0 E tk F M H σ σ' Q e0 g r h pins s I => by
  obtain ⟨f, fd, F1, hm, hb⟩ := c
  obtain ⟨pl, ht⟩ := ht X.env
  refine PySem.W.methodCall_KW (pl := pl) (thn (ho.run X ft F0 E tk F M H σ σ' _ e0 g r h pins s I) ?_) ht
  rintro u s1 ⟨v, H1, I1, rv, F2, M1, y, e1, g1, r1, q⟩
  obtain ⟨q0, dx, fvs, ns, fs, rfl, h1, h2, h3, h4, h5⟩ := insD_ok g1 r1 q
  obtain rfl : u = Value.ref q0 := rv
  have hm' : Meth X.K (clsA X.K C) m f := by rw [ft.K]; exact hm
  refine getmeth_ok I1 h1 (by rw [ft.K]; exact hC) hm' (fld_none h2 h4) ?_
  refine PySem.W.callWith_K (first := [.ref q0]) (h₀ := X.base) I.ok.mod.kin hm'.kp (thn (ha.run X ft F0 E tk F2 M1 H1 σ σ' _ (e0.trans e1) g1 (r.mono e1) h5 pos pins s1 I1) ?_) (hst _) (hpl _)
  rintro us s2 ⟨vs, H2, I2, rv2, F3, M2, ds, e2, g2, r2, hl, q2⟩
  refine ⟨I2.kIn, thn (run_okd ft F1 hk hb tk (us := .ref q0 :: us) (ws := .ref q0 :: vs) I2 (.cons rfl rv2) (lift_of ((e0.trans e1).trans e2) g2 (r.mono (e1.trans e2)) (.cons (r1.mono e2) r2) hl q2)) ?_⟩
  rintro u s3 ⟨v, H3, I3, rv3, q3⟩
  exact ⟨v, H3, I3, rv3, LQ.back (e1.trans e2) q3⟩
def dMeth0 (C : Str) (m : Str) (sp : DSp) (de : DE) : DE := fun σ M Q E => de σ M (fun x M1 => insD C x M1 fun ns _ => ns.contains m = false ∧ sp [x] M1 Q fun er M3 => E er σ M3) E
theorem dp_meth0 (c : CalM Ω C m k ps sp) (hC : Cls Ω.K (clsA Ω.K C)) (ho : DP Ω τ o de) (hps : ps.length = 1 := by rfl) (hk : k ≤ τ.k := by decide)
    (ht : ∀ env, ∃ pl, eval (.Call (.Attribute o m apos) [] [] pos) env = (do
      let ov ← eval o env
      standAt apos.atName
      let (f, first) ← holding [ov] (getMethod ov m pl)
      callWith pos f first (backTo pos (starEach [] env)) (backToKw pos (keywordEach [] env))) := by intro _; exact ⟨_, rfl⟩) :
    DP Ω τ (.Call (.Attribute o m apos) [] [] pos) (dMeth0 C m sp de) := Hd.mk fun X ft F0 E tk F M H σ σ' Q e0 g r h pins s I => by
  obtain ⟨f, fd, F1, hm, hb⟩ := c
  obtain ⟨pl, ht⟩ := ht X.env
  refine PySem.W.methodCall_KW (pl := pl) (thn (ho.run X ft F0 E tk F M H σ σ' _ e0 g r h pins s I) ?_) ht
  rintro u s1 ⟨v, H1, I1, rv, F2, M1, y, e1, g1, r1, q⟩
  obtain ⟨q0, dx, fvs, ns, fs, rfl, h1, h2, h3, h4, h5⟩ := insD_ok g1 r1 q
  obtain rfl : u = Value.ref q0 := rv
  have hm' : Meth X.K (clsA X.K C) m f := by rw [ft.K]; exact hm
  refine getmeth_ok I1 h1 (by rw [ft.K]; exact hC) hm' (fld_none h2 h4) ?_
  refine PySem.W.callWith_K0 (first := [.ref q0]) I1.kIn hm'.kp (thn (run_okd ft F1 hk hb tk (us := [.ref q0]) (ws := [.ref q0]) I1 (.cons rfl .nil) (lift_of (e0.trans e1) g1 (r.mono e1) (.cons r1 .nil) hps.symm h5)) ?_)
  rintro u s3 ⟨v, H3, I3, rv3, q3⟩
  exact ⟨v, H3, I3, rv3, LQ.back e1 q3⟩
/-- o.f = e of an instance that may change -/
def putFs : List Str → List D → Str → D → List Str × List D
  | n :: ns, f :: fs, x, y => if n = x then (n :: ns, y :: fs) else let r := putFs ns fs x y; (n :: r.1, f :: r.2)
  | [], _, x, y => ([x], [y])
  | ns, [], _, _ => (ns, [])
theorem putFs_ok {K : PySem.W.Frag} {F : Hp} {f : Str} {v : V} {y : D} (rv : Rp K F v y) : ∀ {fvs : List (Str × V)} {ns : List Str} {fs : List D}, fvs.map (·.1) = ns → RpL K F (fvs.map (·.2)) fs → (putF f v fvs).map (·.1) = (putFs ns fs f y).1 ∧ RpL K F ((putF f v fvs).map (·.2)) (putFs ns fs f y).2
  | [], _, _, rfl, r => by cases r; exact ⟨rfl, .cons rv .nil⟩
  | (n, w) :: fvs, _, _, rfl, r => by
    cases r with | cons rw' rr =>
    rename_i d ds
    obtain ⟨h1, h2⟩ := putFs_ok (f := f) rv (fvs := fvs) rfl rr
    show List.map (·.1) (if n = f then (n, v) :: fvs else (n, w) :: putF f v fvs) = (if n = f then (n :: fvs.map (·.1), y :: ds) else (n :: (putFs (fvs.map (·.1)) ds f y).1, d :: (putFs (fvs.map (·.1)) ds f y).2)).1 ∧ _
    show _ ∧ RpL K F (List.map (·.2) (if n = f then (n, v) :: fvs else (n, w) :: putF f v fvs)) (if n = f then (n :: fvs.map (·.1), y :: ds) else (n :: (putFs (fvs.map (·.1)) ds f y).1, d :: (putFs (fvs.map (·.1)) ds f y).2)).2
    by_cases c : n = f
    · rw [if_pos c, if_pos c]
      exact ⟨rfl, .cons rv rr⟩
    · rw [if_neg c, if_neg c]
      exact ⟨by rw [List.map_cons, h1], .cons rw' h2⟩
def dsFld (C : Str) (f : Str) (dv de : DE) : DS := fun D E σ M => dv σ M (fun y M1 => de σ M1 (fun x M2 => match x with
  | .ref a => ∃ ns fs, M2 a = some (.ins C ns fs) ∧ ns.length < 900 ∧ D.nx σ (M2.put a (.ins C (putFs ns fs f y).1 (putFs ns fs f y).2))
  | _ => False) E) E
theorem dps_fld {value : Expr} {pos' : Pos} {dv : DE} (hC : Cls Ω.K (clsA Ω.K C)) (hn : NoAttr Ω.K (clsA Ω.K C) m) (hv : DP Ω τ value dv) (ho : DP Ω τ o de) (hs : ∀ env, swapsWith value (some (.Attribute o m pos')) pos.line env = pure false := by intro _; rfl) : DPS Ω τ (.Assign [.Attribute o m pos'] value pos) (dsFld C m dv de) := Hd.mk fun X ft F0 E tk F M H σ σ' D e0 g r h => by
  refine wS_of (ps_fld pe_wE pe_wE (hs _)) (go2 hv ho ft tk e0 g r h ?_)
  intro F' M' H' v x y' x' e' g' rv rx q
  cases x' <;> first | exact q.elim | skip
  obtain ⟨ns, fs, h1, h2, h3⟩ := q
  cases rx
  obtain ⟨h4, dx, fvs, h5, h6, h7⟩ := g'.mo _ _ h1
  obtain ⟨h8, h9⟩ := putFs_ok rv h6 h7
  have hlen : fvs.length = ns.length := by rw [← h6, List.length_map]
  exact ⟨_, _, dx, fvs, rfl, h5, by rw [ft.K]; exact hC, by rw [ft.K]; exact hn, by omega, F', _, σ', e', g'.set h1 (o := .ins (clsA X.K C) dx (putF m v fvs)) (u := .ins C _ _) ⟨dx, _, upd_same, h8, h9⟩, r.mono e', h3⟩
/-- an instance that changed is from now on one that stands still -/
def frzO (x : D) (M : MH) (Q : DQ) : Prop := match x with
  | .ref a => ∃ C ns fs, M a = some (.ins C ns fs) ∧ Q (.obj C ns fs) (M.del a)
  | _ => False
theorem frzO_ok {K : PySem.W.Frag} {F H : Hp} {M : MH} {v : V} {y : D} {Q : DQ} (g : G K F M H) (r : Rp K F v y) (h : frzO y M Q) : LQ K F Q v H := by
  cases y <;> first | exact h.elim | skip
  rename_i b
  obtain ⟨C, ns, fs, h1, h2⟩ := h
  cases r
  obtain ⟨h3, dx, fvs, h4, h5, h6⟩ := g.mo _ _ h1
  have ex : Ex F (upd F b (.ins (clsA K C) dx fvs)) := Ex.new h3
  refine ⟨upd F b (.ins (clsA K C) dx fvs), M.del b, .obj C ns fs, ex, ⟨fun p o q => ?_, fun p o q => ?_⟩, .obj upd_same h5 (h6.mono ex), h2⟩
  · by_cases hb : p = b
    · subst hb; rw [upd_same] at q; cases q; exact h4
    · rw [upd_ne hb] at q; exact g.ex _ _ q
  · have hb : p ≠ b := fun z => by subst z; unfold MH.del at q; rw [if_pos rfl] at q; cases q
    unfold MH.del at q
    rw [if_neg hb] at q
    obtain ⟨k1, k2⟩ := g.mo p o q
    exact ⟨by rw [upd_ne hb]; exact k1, k2.mono ex rfl⟩
def dFrzO (de : DE) : DE := fun σ M Q E => de σ M (fun x M1 => frzO x M1 Q) E
theorem dp_frzO (h : DP Ω τ e de) : DP Ω τ e (dFrzO de) := Hd.mk fun X ft F0 E tk F M H σ σ' Q e0 g r hd =>
  wE_mono (h.run X ft F0 E tk F M H σ σ' _ e0 g r hd) fun v H1 ⟨F1, M1, y, e1, g1, r1, q⟩ => LQ.back e1 (frzO_ok g1 r1 q)
end
end DL

/-! The deep layer, part h: the built-in functions, subscripts, slices, in. -/
namespace DL
open PySem PySem.Spec PyProof.Rows L2
section
variable {Ω : Wl} {τ : Sx} {X : Cx} {a b c e o tg iter elt : Expr} {es rest ifs : List Expr} {da db dc de : DE} {ta tb dt : DT} {tl tr : DA} {pos p p2 apos : Pos} {x m : Str} {vs : List Nat} {gs : List Str} {id T : String}

/-! ### a built-in function by data -/
abbrev OpB := List D → MH → DQ → Prop
def wC (X : Cx) (f : Value) : List V → Hp → VK → Prop := fun xs H Q => ∀ pins s σ us, Inv X pins σ H s → Vals xs us → wpAny (model X.prog X.w) X.A (call f us) (EP X pins σ Q) X.xe s
theorem callR_w {f : Value} : CallR X f (wC X f) := fun pins s σ H xs us Q I r h => h pins s σ us I r
theorem wC_of {f : Value} {r : List V → Hp → VK → Prop} (o : CallR X f r) {xs : List V} {H : Hp} {Q : VK} (h : r xs H Q) : wC X f xs H Q := fun pins s σ us I r => o pins s σ H xs us Q I r h
theorem wC_mono {f : Value} {xs : List V} {H : Hp} {Q Q' : VK} (h : wC X f xs H Q) (k : ∀ v H', Q v H' → Q' v H') : wC X f xs H Q' := fun pins s σ us I r =>
  thn (h pins s σ us I r) fun _ _ ⟨v', H', I', r, q⟩ => ⟨v', H', I', r, k v' H' q⟩
def CallB (X : Cx) (f : Value) (o : OpB) : Prop := ∀ F M H xs ys Q, G X.K F M H → RpL X.K F xs ys → o ys M Q → wC X f xs H (LQ X.K F Q)
def dCB (o : OpB) (t : DA) : DE := fun σ M Q E => t σ M (fun ys M1 => o ys M1 Q) E
theorem dp_callB {ob : OpB} (S : ScOk τ.N vs gs τ.sc) (hm : Ω.mg x = none) (hc : ∀ X, Fit Ω τ X → CallB X (.builtin id) ob) (hv : bootBuiltins x = some (.builtin id)) (ha : DPA Ω τ (e :: es) tl) (hg : x ∈ gs := by decide) (hn : x ≠ "__name__" := by decide) (hdb : (x == ("__debug__" : Str)) = false := by decide)
    (he : ∀ env, starEach (e :: es) env = (false, eval e env) :: starEach es env := by intro _; rfl) (hpl : ∀ env, (backTo pos (starEach es env)).any (·.1) = false := by intro _; rfl) : DP Ω τ (.Call (.Name x p) (e :: es) [] pos) (dCB ob tl) := Hd.mk fun X ft F0 E tk F M H σ σ' Q e0 g r h => by
  refine wE_of (pe_callB callR_w (fit_gl ft S hg) (by rw [ft.mg]; exact hm) hv pa_wA hn hdb (he _) (hpl _)) (wA_mono (ha.run X ft F0 E tk F M H σ σ' _ e0 g r h) ?_)
  rintro ws H1 ⟨F1, M1, ys, e1, g1, r1, q⟩
  exact wC_mono (hc X ft F1 M1 H1 ws ys Q g1 r1 q) fun _ _ => LQ.back e1
theorem dp_callT {ob : OpB} (S : ScOk τ.N vs gs τ.sc) (hm : Ω.mg x = none) (hc : ∀ X, Fit Ω τ X → CallB X (.type T) ob) (hv : bootBuiltins x = some (.type T)) (ha : DPA Ω τ (e :: es) tl) (hg : x ∈ gs := by decide) (hn : x ≠ "__name__" := by decide) (hdb : (x == ("__debug__" : Str)) = false := by decide)
    (he : ∀ env, starEach (e :: es) env = (false, eval e env) :: starEach es env := by intro _; rfl) (hpl : ∀ env, (backTo pos (starEach es env)).any (·.1) = false := by intro _; rfl) : DP Ω τ (.Call (.Name x p) (e :: es) [] pos) (dCB ob tl) := Hd.mk fun X ft F0 E tk F M H σ σ' Q e0 g r h => by
  refine wE_of (pe_callTy callR_w (fit_gl ft S hg) (by rw [ft.mg]; exact hm) hv pa_wA hn hdb (he _) (hpl _)) (wA_mono (ha.run X ft F0 E tk F M H σ σ' _ e0 g r h) ?_)
  rintro ws H1 ⟨F1, M1, ys, e1, g1, r1, q⟩
  exact wC_mono (hc X ft F1 M1 H1 ws ys Q g1 r1 q) fun _ _ => LQ.back e1

theorem rpl1 {K : PySem.W.Frag} {F : Hp} {ws : List V} {d : D} (r : RpL K F ws [d]) : ∃ v, ws = [v] ∧ Rp K F v d := by
  cases r with | cons h t => cases t; exact ⟨_, rfl, h⟩
theorem rpl2 {K : PySem.W.Frag} {F : Hp} {ws : List V} {d d' : D} (r : RpL K F ws [d, d']) : ∃ v v', ws = [v, v'] ∧ Rp K F v d ∧ Rp K F v' d' := by
  cases r with | cons h t => cases t with | cons h2 t2 => cases t2; exact ⟨_, _, rfl, h, h2⟩
theorem rpl_int {K : PySem.W.Frag} {F : Hp} : ∀ {ns : List Int} {ws : List V}, RpL K F ws (ns.map D.int) → ws = ns.map V.int
  | [], _, r => by cases r; rfl
  | n :: ns, _, r => by
    rw [List.map_cons] at r
    cases r with | cons h t =>
    cases h
    rw [rpl_int t, List.map_cons]
theorem rpl_bl {K : PySem.W.Frag} {F : Hp} : ∀ {ns : List Bool} {ws : List V}, RpL K F ws (ns.map D.bl) → ws = ns.map V.bl
  | [], _, r => by cases r; rfl
  | n :: ns, _, r => by
    rw [List.map_cons] at r
    cases r with | cons h t =>
    cases h
    rw [rpl_bl t, List.map_cons]
theorem rpl_str {K : PySem.W.Frag} {F : Hp} : ∀ {ns : List Str} {ws : List V}, RpL K F ws (ns.map D.str) → ws = ns.map V.str
  | [], _, r => by cases r; rfl
  | n :: ns, _, r => by
    rw [List.map_cons] at r
    cases r with | cons h t =>
    cases h
    rw [rpl_str t, List.map_cons]
/-- one argument -/
def ob1 (f : D → MH → DQ → Prop) : OpB := fun ys M Q => match ys with
  | [d] => f d M Q
  | _ => False
theorem callB1 {f : Value} {o : D → MH → DQ → Prop} (h : ∀ F M H v d Q, G X.K F M H → Rp X.K F v d → o d M Q → wC X f [v] H (LQ X.K F Q)) : CallB X f (ob1 o) := by
  intro F M H ws ys Q g r q
  match ys, r, q with
  | [d], r, q =>
    obtain ⟨v, rfl, h1⟩ := rpl1 r
    exact h F M H v d Q g h1 q
def ob2 (f : D → D → MH → DQ → Prop) : OpB := fun ys M Q => match ys with
  | [d, d'] => f d d' M Q
  | _ => False
theorem callB2 {f : Value} {o : D → D → MH → DQ → Prop} (h : ∀ F M H v v' d d' Q, G X.K F M H → Rp X.K F v d → Rp X.K F v' d' → o d d' M Q → wC X f [v, v'] H (LQ X.K F Q)) : CallB X f (ob2 o) := by
  intro F M H ws ys Q g r q
  match ys, r, q with
  | [d, d'], r, q =>
    obtain ⟨v, v', rfl, h1, h2⟩ := rpl2 r
    exact h F M H v v' d d' Q g h1 h2 q
/-- an int argument -/
def oI (f : Int → MH → DQ → Prop) : D → MH → DQ → Prop := fun d M Q => match d with
  | .int i => f i M Q
  | _ => False
def lenM : Option MO → Option Nat
  | some (.lst xs) => some xs.length
  | some (.dk ks _) => some ks.length
  | _ => none
def lenO : D → MH → DQ → Prop := fun d M Q => match d with
  | .str z => lenOk z.length ∧ Q (.int z.length) M
  | .ref a => ∃ n : Nat, lenM (M a) = some n ∧ Q (.int n) M
  | d => seqD d M fun xs => Q (.int xs.length) M
theorem cb_len : CallB X (.builtin "len") (ob1 lenO) := callB1 fun F M H v d Q g r q => by
  have key : seqD d M (fun xs => Q (.int xs.length) M) → wC X (.builtin "len") [v] H (LQ X.K F Q) := fun q => by
    obtain ⟨p, ws, xs, rfl, h1, h2, h3⟩ := seqD_ok g r q
    refine wC_of call_len_seq ⟨p, ws, rfl, h1.symm, ?_⟩
    rw [h2.length]
    exact .here g (.int _) h3
  cases d
  case str z => cases r; exact wC_of call_len_str ⟨z, rfl, q.1.sz, .here g (.int _) q.2⟩
  case ref a =>
    obtain ⟨n, h1, q⟩ := q
    cases hM : M a with
    | none => rw [hM] at h1; cases h1
    | some o =>
      rw [hM] at h1
      cases o with
      | lst xs =>
        cases h1
        exact key ⟨xs, hM, q⟩
      | dk ks xs =>
        cases h1
        cases r
        obtain ⟨h2, kvs, h3, rfl, h4⟩ := g.mo _ _ hM
        refine wC_of call_lenD ⟨a, kvs, rfl, h3, ?_⟩
        rw [List.length_map] at q
        exact .here g (.int _) q
      | _ => cases h1
  all_goals exact key q
theorem cb_abs : CallB X (.builtin "abs") (ob1 (oI fun i M Q => Q (.int (if i < 0 then -i else i)) M)) := callB1 fun F M H v d Q g r q => by
  cases d <;> first | exact q.elim | skip
  cases r
  exact wC_of call_abs ⟨_, rfl, .here g (.int _) q⟩
def intO : D → MH → DQ → Prop := fun d M Q => match d with
  | .int i => Q (.int i) M
  | .bl b => Q (.int (if b then 1 else 0)) M
  | _ => False
theorem cb_int : CallB X (.type "int") (ob1 intO) := callB1 fun F M H v d Q g r q => by
  cases d <;> first | exact q.elim | skip
  · cases r; exact wC_of call_int1 (.inr ⟨_, rfl, .here g (.int _) q⟩)
  · cases r; exact wC_of call_int1 (.inl ⟨_, rfl, .here g (.int _) q⟩)
def ii2 (f : Int → Int → MH → DQ → Prop) : D → D → MH → DQ → Prop := fun d d' M Q => match d, d' with
  | .int i, .int j => f i j M Q
  | _, _ => False
theorem cb_max2 (ft : Fit Ω τ X) (hc : τ.calm = true) : CallB X (.builtin "max") (ob2 (ii2 fun i j M Q => Q (.int (if j > i then j else i)) M)) := callB2 fun F M H v v' d d' Q g r r' q => by
  cases d <;> first | exact q.elim | skip
  cases d' <;> first | exact q.elim | skip
  cases r; cases r'
  exact wC_of (call_max2 (ft.calm hc)) ⟨_, _, rfl, .here g (.int _) q⟩
theorem cb_min2 (ft : Fit Ω τ X) (hc : τ.calm = true) : CallB X (.builtin "min") (ob2 (ii2 fun i j M Q => Q (.int (if j < i then j else i)) M)) := callB2 fun F M H v v' d d' Q g r r' q => by
  cases d <;> first | exact q.elim | skip
  cases d' <;> first | exact q.elim | skip
  cases r; cases r'
  exact wC_of (call_min2 (ft.calm hc)) ⟨_, _, rfl, .here g (.int _) q⟩
theorem cb_divmod : CallB X (.builtin "divmod") (ob2 (ii2 fun i j M Q => CDiv i j ∧ Q (.wtp [.int (i / j), .int (i % j)]) M)) := callB2 fun F M H v v' d d' Q g r r' q => by
  cases d <;> first | exact q.elim | skip
  cases d' <;> first | exact q.elim | skip
  cases r; cases r'
  exact wC_of call_divmod ⟨_, _, rfl, q.1, fun p hp => rp_wtpN g hp (.cons (.int _) (.cons (.int _) .nil)) q.2⟩
/-- tuple(..), list(..) of what stands or changes -/
theorem cb_tuple : CallB X (.type "tuple") (ob1 fun d M Q => match d with
    | .tup xs => Q (.tup xs) M
    | d => lstD d M fun xs => Q (.tup xs) M) := callB1 fun F M H v d Q g r q => by
  have key : lstD d M (fun xs => Q (.tup xs) M) → wC X (.type "tuple") [v] H (LQ X.K F Q) := fun q => by
    obtain ⟨p, ws, xs, rfl, h1, h2, h3⟩ := lstD_ok g r q
    exact wC_of call_tupF ⟨p, ws, rfl, .inl ⟨SqL.of h1, fun l _ hl => rp_tupN g hl h2 h3⟩⟩
  cases d
  case tup xs =>
    cases r with | tup hs hr =>
    exact wC_of call_tupF ⟨_, _, rfl, .inr ⟨SqT.fz (hs.mono g.ex), .here g (.tup hs hr) q⟩⟩
  all_goals exact key q
theorem cb_list : CallB X (.type "list") (ob1 fun d M Q => seqD d M fun xs => Q (.lst xs) M) := callB1 fun F M H v d Q g r q => by
  obtain ⟨p, ws, xs, rfl, h1, h2, h3⟩ := seqD_ok g r q
  exact wC_of call_list_of ⟨p, ws, rfl, h1.symm, fun l hl => rp_lstN g hl h2 h3⟩
theorem cb_listM : CallB X (.type "list") (ob1 fun d M Q => seqD d M fun xs => ∀ p, M p = none → Q (.ref p) (M.put p (.lst xs))) := callB1 fun F M H v d Q g r q => by
  obtain ⟨p, ws, xs, rfl, h1, h2, h3⟩ := seqD_ok g r q
  exact wC_of call_list_of ⟨p, ws, rfl, h1.symm, fun l hl => rp_lstM g hl h2 h3⟩
theorem seqL_ok {K : PySem.W.Frag} {F : Hp} {M : MH} {H : Hp} {v : V} {d : D} {R : List D → Prop} (g : G K F M H) (r : Rp K F v d) (h : lstD d M R) : ∃ p ws xs, v = .ref p ∧ SqL K H p ws ∧ RpL K F ws xs ∧ R xs := by
  obtain ⟨p, ws, xs, h1, h2, h3, h4⟩ := lstD_ok g r h
  exact ⟨p, ws, xs, h1, SqL.of h2, h3, h4⟩
def intsO (f : List Int → MH → DQ → Prop) : D → MH → DQ → Prop := fun d M Q => lstD d M fun xs => ∃ ns : List Int, xs = ns.map D.int ∧ f ns M Q
def blsO (f : List Bool → MH → DQ → Prop) : D → MH → DQ → Prop := fun d M Q => lstD d M fun xs => ∃ ns : List Bool, xs = ns.map D.bl ∧ f ns M Q
def strsO (f : List Str → MH → DQ → Prop) : D → MH → DQ → Prop := fun d M Q => lstD d M fun xs => ∃ ns : List Str, xs = ns.map D.str ∧ f ns M Q
/-- sum, of a list or a tuple of ints -/
def sumO : D → MH → DQ → Prop := fun d M Q => match d with
  | .tup xs => ∃ ns : List Int, xs = ns.map D.int ∧ Q (.int ns.sum) M
  | d => intsO (fun ns M Q => Q (.int ns.sum) M) d M Q
theorem cb_sum (ft : Fit Ω τ X) (hc : τ.calm = true) : CallB X (.builtin "sum") (ob1 sumO) := callB1 fun F M H v d Q g r q => by
  have key : intsO (fun ns M Q => Q (.int ns.sum) M) d M Q → wC X (.builtin "sum") [v] H (LQ X.K F Q) := fun q => by
    obtain ⟨p, ws, xs, rfl, h1, h2, ns, rfl, h3⟩ := seqL_ok g r q
    rw [rpl_int h2] at h1
    exact wC_of (cr_sum (ft.calm hc)) ⟨p, ns, rfl, h1, .here g (.int _) h3⟩
  cases d
  case tup xs =>
    obtain ⟨ns, rfl, h3⟩ := q
    cases r with | tup hs hr =>
    rename_i q0 ws
    have hs' := SqT.fz (K := X.K) (hs.mono g.ex)
    rw [rpl_int hr] at hs'
    intro pins s σ us I rv
    obtain ⟨its, rv2, hl, _⟩ := I.tuple hs'
    rw [Vals.ref1 rv]
    have hi := rv2.ints
    obtain ⟨ys, hx⟩ := hi.allInts.items
    have hn : numsOf its.toArray.toList = ns := by rw [show its.toArray.toList = its from rfl, hi.numsOf]
    rw [hx] at hl hn
    rw [nums_intItems] at hn
    refine PySem.W.ktm_sumG (I.ok.hd (ft.calm hc)) (show s.heap.IsTuple q0 (intItems ys) from hl) fun h' tk t' hk => ?_
    refine ⟨.int _, H, I.kept hk, ⟨t', ?_⟩, .here g (.int _) h3⟩
    rw [preSum_eq, List.take_of_length_le (by simp), hn]
  all_goals exact key q
theorem cb_maxL (ft : Fit Ω τ X) (hc : τ.calm = true) : CallB X (.builtin "max") (ob1 (intsO fun ns M Q => 0 < ns.length ∧ ∀ m, m ∈ ns → (∀ y, y ∈ ns → y ≤ m) → Q (.int m) M)) := callB1 fun F M H v d Q g r q => by
  obtain ⟨p, ws, xs, rfl, h1, h2, ns, rfl, h3, h4⟩ := seqL_ok g r q
  rw [rpl_int h2] at h1
  exact wC_of (cr_max (ft.calm hc)) ⟨p, ns, rfl, h1, h3, fun m h5 h6 => .here g (.int _) (h4 m h5 h6)⟩
theorem cb_minLold (ft : Fit Ω τ X) (hc : τ.calm = true) : CallB X (.builtin "min") (ob1 (intsO fun ns M Q => 0 < ns.length ∧ ∀ m, m ∈ ns → (∀ y, y ∈ ns → m ≤ y) → Q (.int m) M)) := callB1 fun F M H v d Q g r q => by
  obtain ⟨p, ws, xs, rfl, h1, h2, ns, rfl, h3, h4⟩ := seqL_ok g r q
  rw [rpl_int h2] at h1
  exact wC_of (cr_min (ft.calm hc)) ⟨p, ns, rfl, h1, h3, fun m h5 h6 => .here g (.int _) (h4 m h5 h6)⟩
theorem cb_minL (ft : Fit Ω τ X) (hc : τ.calm = true) : CallB X (.builtin "min") (ob1 fun d M Q => match d with
    | .tup xs => ∃ ns : List Int, xs = ns.map D.int ∧ 0 < ns.length ∧ ∀ m, m ∈ ns → (∀ y, y ∈ ns → m ≤ y) → Q (.int m) M
    | d => intsO (fun ns M Q => 0 < ns.length ∧ ∀ m, m ∈ ns → (∀ y, y ∈ ns → m ≤ y) → Q (.int m) M) d M Q) := callB1 fun F M H v d Q g r q => by
  have lists : intsO (fun ns M Q => 0 < ns.length ∧ ∀ m, m ∈ ns → (∀ y, y ∈ ns → m ≤ y) → Q (.int m) M) d M Q → wC X (.builtin "min") [v] H (LQ X.K F Q) := fun q => by
    obtain ⟨p, ws, xs, rfl, h1, h2, ns, rfl, h3, h4⟩ := seqL_ok g r q
    rw [rpl_int h2] at h1
    exact wC_of (cr_min (ft.calm hc)) ⟨p, ns, rfl, h1, h3, fun m h5 h6 => .here g (.int _) (h4 m h5 h6)⟩
  cases d
  case tup xs =>
    obtain ⟨ns, rfl, h3, h4⟩ := q
    cases r with | tup hs hr =>
    rename_i q0 ws
    have hs' := SqT.fz (K := X.K) (hs.mono g.ex)
    rw [rpl_int hr] at hs'
    match ns, h3, h4, hs' with
    | n :: ns, _, h4, hs' =>
      have all : ∀ ms : List Int, DpAll X.K H (ms.map V.int) (ms.map PyData.int) := fun ms => by
        induction ms with
        | nil => exact .nil
        | cons m ms ih => exact .cons (.int m) ih
      have alike : PySem.W.AlikeAll (PyData.int n :: ns.map PyData.int) := by
        rw [← List.map_cons (f := PyData.int)]
        refine ⟨fun x hx y hy => ?_, fun x hx => ?_⟩
        · obtain ⟨a, _, rfl⟩ := List.mem_map.mp hx
          obtain ⟨b, _, rfl⟩ := List.mem_map.mp hy
          simp [PySem.W.alike]
        · obtain ⟨a, _, rfl⟩ := List.mem_map.mp hx
          simp
      intro pins s σ us I rv
      obtain ⟨its, rv2, hl, _⟩ := I.tuple hs'
      rw [Vals.ref1 rv]
      obtain ⟨as, rd⟩ := Dp.readsAll I _ _ its (all (n :: ns)) rv2
      have hd : PyData.depthAll (PyData.int n :: ns.map PyData.int) ≤ 1 := by
        rw [← List.map_cons (f := PyData.int)]
        generalize n :: ns = ms
        induction ms with
        | nil => simp [PyData.depthAll]
        | cons m ms ih => simp [PyData.depthAll, PyData.depth] at ih ⊢; omega
      refine PySem.W.min_tuple_data (I.ok.hd (ft.calm hc)) (show s.heap.IsTuple q0 its.toArray from hl) (show ReadsAll s.heap its.toArray.toList (PyData.int n :: ns.map PyData.int) as from rd) alike (by have := ft.room.units; omega) ?_
      intro i v h' tk bs hv rd2 hk
      rw [PySem.W.minD_ints] at rd2
      have hmin : ∀ (ns : List Int) (n : Int), ns.foldl min n ∈ n :: ns ∧ ∀ y ∈ n :: ns, ns.foldl min n ≤ y := by
        intro ns
        induction ns with
        | nil => intro n; simp
        | cons a ns ih =>
          intro n
          obtain ⟨i1, i2⟩ := ih (min n a)
          rw [List.foldl_cons]
          refine ⟨?_, ?_⟩
          · rcases List.mem_cons.mp i1 with h | h
            · rw [h]
              rcases Int.min_def n a ▸ (by split <;> simp : (if n ≤ a then n else a) = n ∨ (if n ≤ a then n else a) = a) with h | h <;> rw [h] <;> simp
            · simp [h]
          · intro y hy
            have h0 := i2 (min n a) List.mem_cons_self
            rcases List.mem_cons.mp hy with rfl | hy
            · exact Int.le_trans h0 (Int.min_le_left _ _)
            · rcases List.mem_cons.mp hy with rfl | hy
              · exact Int.le_trans h0 (Int.min_le_right _ _)
              · exact i2 y (List.mem_cons_of_mem _ hy)
      have rvv : ∃ t, v = Value.int (ns.foldl min n) t := by
        cases rd2
        exact ⟨_, rfl⟩
      exact ⟨.int (ns.foldl min n), H, I.kept hk, rvv, .here g (.int _) (h4 _ (hmin ns n).1 (hmin ns n).2)⟩
  all_goals exact lists q
theorem cb_any (ft : Fit Ω τ X) (hc : τ.calm = true) : CallB X (.builtin "any") (ob1 (blsO fun bs M Q => Q (.bl (bs.any _root_.id)) M)) := callB1 fun F M H v d Q g r q => by
  obtain ⟨p, ws, xs, rfl, h1, h2, ns, rfl, h3⟩ := seqL_ok g r q
  rw [rpl_bl h2] at h1
  exact wC_of (cr_any (ft.calm hc)) ⟨p, ns, rfl, h1, .here g (.bl _) h3⟩
theorem cb_all (ft : Fit Ω τ X) (hc : τ.calm = true) : CallB X (.builtin "all") (ob1 (blsO fun bs M Q => Q (.bl (bs.all _root_.id)) M)) := callB1 fun F M H v d Q g r q => by
  obtain ⟨p, ws, xs, rfl, h1, h2, ns, rfl, h3⟩ := seqL_ok g r q
  rw [rpl_bl h2] at h1
  exact wC_of (cr_all (ft.calm hc)) ⟨p, ns, rfl, h1, .here g (.bl _) h3⟩
theorem cb_sortedS : CallB X (.builtin "sorted") (ob1 (strsO fun xs M Q => xs.length < 64 ∧ ∀ ys : List Str, ys.Perm xs → sortedS ys = true → Q (.lst (ys.map D.str)) M)) := callB1 fun F M H v d Q g r q => by
  obtain ⟨p, ws, xs, rfl, h1, h2, ns, rfl, h3, h4⟩ := seqL_ok g r q
  rw [rpl_str h2] at h1
  refine wC_of cr_sortedS ⟨p, ns, rfl, h1, h3, fun ys p h5 h6 hp => rp_lstN g hp ?_ (h4 ys h5 h6)⟩
  clear h4 h6 h5
  induction ys with
  | nil => exact .nil
  | cons y ys ih => exact .cons (.str y) ih
theorem cb_sortedI : CallB X (.builtin "sorted") (ob1 (intsO fun xs M Q => xs.length < 64 ∧ ∀ ys : List Int, ys.Perm xs → ys.Pairwise (· ≤ ·) → Q (.lst (ys.map D.int)) M)) := callB1 fun F M H v d Q g r q => by
  obtain ⟨p, ws, xs, rfl, h1, h2, ns, rfl, h3, h4⟩ := seqL_ok g r q
  rw [rpl_int h2] at h1
  exact wC_of cr_sorted ⟨p, ns, rfl, h1, h3, fun ys p h5 h6 hp => rp_lstN g hp (rpl_ints ys) (h4 ys h5 h6)⟩
theorem cb_strI : CallB X (.type "str") (ob1 (oI fun i M Q => i.natAbs.log2 < 1920 ∧ Q (.str (toString i)) M)) := callB1 fun F M H v d Q g r q => by
  cases d <;> first | exact q.elim | skip
  cases r
  exact wC_of call_str_int ⟨_, rfl, q.1, .here g (.str _) q.2⟩
/-- repr of data -/
def showB : D → Bool := fun d => d.py.showable && !d.py.hasDict && decide (d.py.shown.length ≤ 16000000)
def reprO : D → MH → DQ → Prop := fun d M Q => datD d M fun d => okN 50 d ∧ showB d = true ∧ Q (.str d.py.shown) M
theorem cb_repr (ft : Fit Ω τ X) : CallB X (.builtin "repr") (ob1 reprO) := callB1 fun F M H v d Q g r q => by
  obtain ⟨_, F1, _, e1, d1, r1, ok, hb, q⟩ := datD_ok g r q
  have dp := rp_dp e1 50 _ _ ok r1
  unfold showB at hb
  rw [Bool.and_eq_true, Bool.and_eq_true, decide_eq_true_eq] at hb
  obtain ⟨⟨b1, b2⟩, b3⟩ := hb
  have b2' : d1.py.hasDict = false := by simpa using b2
  have hz : d1.py.shown.length ≤ sizeLine := Nat.le_trans b3 (by decide)
  intro pins s σ us I rv
  obtain ⟨u, rfl, ru⟩ := rv.one
  have dep : d1.py.depth ≤ 50 := (okN_lay 50 d1 ok).2
  have fin : ∀ h' t tk, (∀ b o, s.heap.get? b = some o → h'.get? b = some o) → EP X pins σ (LQ X.K F Q) (.str d1.py.shown t) { s with heap := h', toks := tk } := fun h' t tk hk =>
    ⟨.str _, H, I.kept hk, ⟨t, rfl⟩, .here g (.str _) q⟩
  have refs : ∀ a0, u = Value.ref a0 → wpAny (model X.prog X.w) X.A (call (.builtin "repr") [u]) (EP X pins σ (LQ X.K F Q)) X.xe s := fun a0 hu => by
    subst hu
    obtain ⟨as, rd⟩ := Dp.reads I d1.py v _ dp ru
    exact repr_of_reads' rd b1 (PyData.noDict_hsm b2') ft.gd (by have := ft.room.units; omega) (fun _ _ z => z) fin hz
  have keep : ∀ b o, s.heap.get? b = some o → s.heap.get? b = some o := fun _ _ z => z
  cases d1
  case non => cases r1; cases (show u = Value.none from ru); exact PySem.P.repr_of_none (fin s.heap _ _ keep)
  case bl bb =>
    cases r1
    cases (show u = Value.bool bb from ru)
    exact PySem.P.repr_of_bool (by cases bb <;> exact fin s.heap _ _ keep)
  case int i =>
    cases r1
    obtain ⟨t, rfl⟩ := (show ∃ t, u = Value.int i t from ru)
    refine PySem.P.repr_of_int (of_decide_eq_true (by simpa [D.py, PyData.showable] using b1)) ?_
    have z := fin s.heap s.toks (s.toks + 1) keep
    simpa [D.py, PyData.shown] using z
  case str y =>
    cases r1
    obtain ⟨t, rfl⟩ := (show ∃ t, u = Value.str y t from ru)
    refine PySem.P.repr_of_str ?_ (by simpa [D.py, PyData.shown] using hz)
    have z := fin s.heap s.toks (s.toks + 1) keep
    simpa [D.py, PyData.shown] using z
  case tup xs => cases r1 with | tup hs hr => exact refs _ ru
  case lst xs => cases r1 with | lst hs hr => exact refs _ ru
  all_goals exact absurd ok (by simp [okN])
end
end DL

/-! The deep layer, part i: isinstance, in, subscripts, slices, methods of lists, keywords. -/
namespace DL
open PySem PySem.Spec PyProof.Rows L2
section
variable {Ω : Wl} {τ : Sx} {X : Cx} {a b c e o tg iter elt : Expr} {es rest ifs : List Expr} {da db dc de : DE} {ta tb dt : DT} {tl tr : DA} {pos p p2 apos : Pos} {x m : Str} {vs : List Nat} {gs : List Str} {id T : String}

/-! ### isinstance(e, T), T a built-in type -/
def tyNm : D → Option String
  | .non => some "NoneType"
  | .bl _ => some "bool"
  | .int _ => some "int"
  | .str _ => some "str"
  | .tup _ => some "tuple"
  | .lst _ => some "list"
  | _ => none
def tyNms : List String := ["NoneType", "bool", "int", "str", "tuple", "list"]
def tySub (a b : String) : Bool := a == b || (a == "bool" && b == "int")
theorem kit_tbl : ∀ a ∈ tyNms, ∀ b ∈ ["bool", "int", "str", "tuple", "list"], kitB a b = some (tySub a b) := by decide +kernel
theorem tyNm_mem {d : D} {t : String} (h : tyNm d = some t) : t ∈ tyNms := by
  cases d <;> first | (cases h; done) | (cases h; decide)
theorem tyX_of {K : PySem.W.Frag} {F : Hp} {M : MH} {H : Hp} {v : V} {d : D} {t : String} (g : G K F M H) (r : Rp K F v d) (h : tyNm d = some t) : TyX K H v (.type t) ∨ ∃ a ys, v = .ref a ∧ SqT K H a ys ∧ Value.type t = .type "tuple" := by
  cases d <;> first | (cases h; done) | skip
  · cases h; cases r; exact .inl (.base .non)
  · cases h; cases r; exact .inl (.base (.bl _))
  · cases h; cases r; exact .inl (.base (.int _))
  · cases h; cases r; exact .inl (.base (.str _))
  · cases h; cases r with | tup hs hr => exact .inr ⟨_, _, rfl, SqT.fz (hs.mono g.ex), rfl⟩
  · cases h; cases r with | lst hs hr => exact .inl (.base (.lst (g.ex _ _ hs)))
def dIsi (T : String) (de : DE) : DE := fun σ M Q E => de σ M (fun d M1 => ∃ t, tyNm d = some t ∧ Q (.bl (tySub t T)) M1) E
theorem dp_isi (S : ScOk τ.N vs gs τ.sc) (T : String) (hm : Ω.mg "isinstance" = none) (hmT : Ω.mg x = none) (hv : bootBuiltins x = some (.type T)) (he : DP Ω τ e de) (hT : T ∈ ["bool", "int", "str", "tuple", "list"] := by decide) (hg : ("isinstance" : Str) ∈ gs := by decide) (hgT : x ∈ gs := by decide)
    (hn : x ≠ "__name__" := by decide) (hdb : (x == ("__debug__" : Str)) = false := by decide) (hs : ∀ env, starEach [e, .Name x p2] env = [(false, eval e env), (false, eval (.Name x p2) env)] := by intro _; rfl) : DP Ω τ (.Call (.Name "isinstance" p) [e, .Name x p2] [] pos) (dIsi T de) := Hd.mk fun X ft F0 E tk F M H σ σ' Q e0 g r h => by
  have hN : PE X (.Name x p2) (tC (.ty T)) := pe_bltn (fit_gl ft S hgT) (by rw [ft.mg]; exact hmT) hv rfl hn hdb
  refine wE_of (pe_callB call_isiF (fit_gl ft S hg) (by rw [ft.mg]; exact hm) boot_isinstance (pa_cons pe_wE (pa_cons hN pa_nil (by rfl)) (by rw [hs]; rfl)) (by decide) (by decide) (by rw [hs]; rfl) (by rfl)) ?_
  refine wE_mono (he.run X ft F0 E tk F M H σ σ' _ e0 g r h) ?_
  rintro v H1 ⟨F1, M1, d, e1, g1, r1, t, ht, q⟩
  exact ⟨v, .ty T, _, _, _, rfl, .ty T, tyX_of g1 r1 ht, kit_ty (kit_tbl t (tyNm_mem ht) T hT), F1, M1, _, e1, g1, .bl _, q⟩

/-! ### in, not in -/
def inVal : D → D → D
  | .lst xs, x => .bl (xs.any fun z => eqD z x)
  | .tup xs, x => .bl (xs.any fun z => eqD z x)
  | _, _ => .non
def inOk (x y : D) : Prop := match y with
  | .lst xs => okN 50 x ∧ okN 50 (.lst xs)
  | .tup xs => okN 50 x ∧ okN 50 (.tup xs)
  | _ => False
def inAny (neg : Bool) (xs : List D) (x : D) : D := .bl (if neg then !xs.any fun z => eqD z x else xs.any fun z => eqD z x)
def inOp (neg : Bool) : Op2 := fun x y M Q => match y with
  | .str z => match x with
    | .str u => ∃ c, u = ⟨#[c]⟩ ∧ Q (.bl (if neg then !decide (c ∈ z.cps.toList) else decide (c ∈ z.cps.toList))) M
    | _ => False
  | .scr _ => False
  | y => seqD y M fun xs => okN 50 x ∧ okN 50 (.lst xs) ∧ Q (inAny neg xs x) M
theorem any_py (xs : List D) (x : D) (h : okN 50 (.lst xs)) (hx : okN 50 x) : (D.pyL xs).any (fun z => PyData.eqv z x.py) = xs.any fun z => eqD z x := by
  have h' : ∀ z ∈ xs, okN 49 z := by simpa [okN] using h
  rw [pyL_map, List.any_map]
  clear h
  induction xs with
  | nil => rfl
  | cons z xs ih =>
    rw [List.any_cons, List.any_cons, ih fun y hy => h' y (List.mem_cons_of_mem _ hy)]
    congr 1
    show PyData.eqv z.py x.py = eqD z x
    have up : ∀ (n : Nat) (d : D), okN n d → okN (n + 1) d := by
      intro n
      induction n with
      | zero =>
        intro d hd
        rcases hd.cases with rfl | ⟨_, rfl⟩ | ⟨_, rfl⟩ | ⟨_, rfl, hx⟩ | ⟨_, _, hm, _⟩ | ⟨_, _, hm, _⟩ <;> first | (cases hm; done) | (simp [okN]; done) | simpa [okN] using hx
      | succ n ih =>
        intro d hd
        rcases hd.cases with rfl | ⟨_, rfl⟩ | ⟨_, rfl⟩ | ⟨_, rfl, hx⟩ | ⟨m, ys, hm, rfl, hx⟩ | ⟨m, ys, hm, rfl, hx⟩
        · simp [okN]
        · simp [okN]
        · simp [okN]
        · simpa [okN] using hx
        · cases hm; simpa [okN] using fun y hy => ih y (hx y hy)
        · cases hm; simpa [okN] using fun y hy => ih y (hx y hy)
    exact eqD_py 50 z x (up 49 z (h' z List.mem_cons_self)) hx
theorem in_seq (ft : Fit Ω τ X) {F : Hp} {M : MH} {H : Hp} {x y : V} {x' y' : D} {Q : DQ} (neg : Bool) (g : G X.K F M H) (rx : Rp X.K F x x') (ry : Rp X.K F y y') (h : seqD y' M fun xs => okN 50 x' ∧ okN 50 (.lst xs) ∧ Q (inAny neg xs x') M) :
    wOp X (compareOp (if neg then .NotIn else .In)) x y H (LQ X.K F Q) := by
  obtain ⟨p, ws, xs, rfl, h1, h2, ox, ol, q⟩ := seqD_ok g ry h
  have dx := rp_dp g.ex 50 _ _ ox rx
  have hu : X.A.units + 65 < cLine := by have := ft.room.un; omega
  have da : DpAll X.K H ws (D.pyL xs) := by
    have ol' : ∀ z ∈ xs, okN 49 z := by simpa [okN] using ol
    clear ol h1 q dx ry h
    induction xs generalizing ws with
    | nil => cases h2; simp only [D.pyL]; exact .nil
    | cons z zs ih =>
      cases h2 with | cons h3 h4 =>
      simp only [D.pyL]
      exact .cons (rp_dp g.ex 49 z _ (ol' z List.mem_cons_self) h3) (ih _ h4 fun y hy => ol' y (List.mem_cons_of_mem _ hy))
  have sx := okN_shaped ox
  have sl : SeqAt.shaped (.list (D.pyL xs)) = true := by simpa [D.py] using okN_shaped ol
  have st : SeqAt.shaped (.tuple (D.pyL xs)) = true := by
    have lay := okN_lay 50 (.lst xs) ol
    simp only [D.py, PyData.canLay0, PyData.depth] at lay
    unfold SeqAt.shaped
    simp only [PyData.canLay0, PyData.depth, lay.1, Bool.true_and]
    exact decide_eq_true (by omega)
  have fin : LQ X.K F Q (.bl (if neg then !(D.pyL xs).any (fun z => PyData.eqv z x'.py) else (D.pyL xs).any fun z => PyData.eqv z x'.py)) H := by
    rw [any_py xs x' ol ox]
    exact .here g (.bl _) q
  rcases h1 with h1 | h1
  · intro pins s σ v u I rv ru
    obtain ⟨as, r1⟩ := Dp.reads I _ x v dx rv
    obtain ⟨bs, r2⟩ := Dp.reads I (.tuple (D.pyL xs)) (.ref p) u (.tup h1 da) ru
    cases neg with
    | false => exact SeqAt.in_tuple_reads r2 r1 (SeqAt.canLay_of_shaped st) (SeqAt.canLay_of_shaped sx) (room_in_shaped sx hu) ⟨.bl _, H, I, rfl, fin⟩
    | true => exact SeqAt.notIn_tuple_reads r2 r1 (SeqAt.canLay_of_shaped st) (SeqAt.canLay_of_shaped sx) (room_in_shaped sx hu) ⟨.bl _, H, I, rfl, fin⟩
  · cases neg with
    | false => exact wOp_of (op_inD hu) ⟨_, _, dx, .lst h1 da, sx, sl, fin⟩
    | true => exact wOp_of (op_notInD hu) ⟨_, _, dx, .lst h1 da, sx, sl, fin⟩
theorem opD_in' (ft : Fit Ω τ X) (neg : Bool) : OpD X (compareOp (if neg then .NotIn else .In)) (inOp neg) := by
  intro F M H x y x' y' Q g rx ry h
  cases y'
  case str z =>
    cases x' <;> first | exact h.elim | skip
    obtain ⟨c, rfl, q⟩ := h
    cases rx; cases ry
    cases neg with
    | false => exact wOp_of op_in_sign ⟨c, z, rfl, rfl, .here g (.bl _) q⟩
    | true => exact wOp_of op_notIn_sign ⟨c, z, rfl, rfl, .here g (.bl _) q⟩
  case scr => exact h.elim
  all_goals exact in_seq ft neg g rx ry h
theorem opD_in (ft : Fit Ω τ X) : OpD X (compareOp .In) (inOp false) := opD_in' ft false
theorem opD_notIn (ft : Fit Ω τ X) : OpD X (compareOp .NotIn) (inOp true) := opD_in' ft true

/-! ### subscripts -/
theorem rpl_atI {K : PySem.W.Frag} {F : Hp} {ws : List V} {ds : List D} {i : Int} {d : D} (r : RpL K F ws ds) (h : atI ds i = some d) : ∃ v, atI ws i = some v ∧ Rp K F v d := by
  unfold atI at h ⊢
  rw [r.length]
  cases hj : ixN ds.length i with
  | none => rw [hj] at h; cases h
  | some j =>
    rw [hj] at h
    exact r.get h
def ixOp : Op2 := fun x y M Q => match y with
  | .int i => match x with
    | .str z => lenOk z.length ∧ ∃ c, atI z.cps.toList i = some c ∧ Q (.str ⟨#[c]⟩) M
    | x => seqD x M fun xs => ∃ d, atI xs i = some d ∧ Q d M
  | _ => False
theorem dp_ix (ha : DP Ω τ a da) (hb : DP Ω τ b db) (hs : PlainIx b := by intro _ _; rfl) : DP Ω τ (.Subscript a b pos) (dOp ixOp da db) := Hd.mk fun X ft F0 E tk F M H σ σ' Q e0 g r h => by
  refine wE_of (pe_ix ix_seq pe_wE pe_wE hs) (go2 ha hb ft tk e0 g r h ?_)
  intro F' M' H' x y x' y' e' g' rx ry q
  cases y' <;> first | exact q.elim | skip
  cases ry
  rename_i i
  have seq : seqD x' M' (fun xs => ∃ d, atI xs i = some d ∧ Q d M') → rIx X.K x (.int i) H' (LQ X.K F Q) := fun q => by
    obtain ⟨p, ws, xs, rfl, h1, h2, d, h3, h4⟩ := seqD_ok g' rx q
    obtain ⟨v, h5, h6⟩ := rpl_atI h2 h3
    rcases h1 with h1 | h1
    · exact .inr (.inl ⟨p, ws, i, v, rfl, rfl, h1, h5, F', M', d, e', g', h6, h4⟩)
    · exact .inl ⟨p, ws, i, v, rfl, rfl, h1, h5, F', M', d, e', g', h6, h4⟩
  cases x'
  case str z =>
    cases rx
    obtain ⟨hl, c, h1, h2⟩ := q
    exact .inr (.inr ⟨z, i, c, rfl, rfl, hl.sz, h1, F', M', _, e', g', .str _, h2⟩)
  all_goals exact seq q

/-! ### slices -/
def DPO (Ω : Wl) (τ : Sx) (oe : Option Expr) (d : DSt → MH → (Option Int → MH → Prop) → EK → Prop) : Prop := Hd (∀ X, Fit Ω τ X → ∀ F0 E, TkD X F0 E → ∀ F M H σ σ' Q, Ex F0 F → G X.K F M H → RpS X.K F σ σ' → d σ' M Q E →
  ∃ t, PO X oe t ∧ t σ H (fun i H1 => ∃ F1 M1, Ex F F1 ∧ G X.K F1 M1 H1 ∧ Q i M1))
def dNoP : DSt → MH → (Option Int → MH → Prop) → EK → Prop := fun _ M Q _ => Q none M
def dPart (d : DE) : DSt → MH → (Option Int → MH → Prop) → EK → Prop := fun σ M Q E => d σ M (fun x M1 => match x with
  | .int i => Q (some i) M1
  | _ => False) E
theorem dpo_none : DPO Ω τ none dNoP := Hd.mk fun X ft F0 E tk F M H σ σ' Q e0 g r h => ⟨_, po_none, F, M, Ex.refl F, g, h⟩
theorem dpo_some (he : DP Ω τ e de) : DPO Ω τ (some e) (dPart de) := Hd.mk fun X ft F0 E tk F M H σ σ' Q e0 g r h => by
  refine ⟨_, po_some pe_wE, wE_mono (he.run X ft F0 E tk F M H σ σ' _ e0 g r h) ?_⟩
  rintro v H1 ⟨F1, M1, y, e1, g1, r1, q⟩
  cases y <;> first | exact q.elim | skip
  cases r1
  exact ⟨_, rfl, F1, M1, e1, g1, q⟩
/-- the items between lo and hi -/
def cutD {α : Type} (xs : List α) (lo hi : Option Int) : List α := (xs.drop (HT.sIx xs.length 0 lo)).take (HT.sIx xs.length xs.length hi - HT.sIx xs.length 0 lo)
theorem RpL.cut {K : PySem.W.Frag} {F : Hp} {ws : List V} {ds : List D} (r : RpL K F ws ds) (lo hi : Option Int) : RpL K F (cutV ws lo hi) (cutD ds lo hi) := by
  unfold cutV cutD
  rw [r.length]
  exact (r.drop _).take _
def slOp (x : D) (lo hi : Option Int) (M : MH) (Q : DQ) : Prop := match x with
  | .str z => lenOk z.length ∧ Q (.str (Txt.slice z lo hi)) M
  | .tup xs => Q (.tup (cutD xs lo hi)) M
  | .scr ns => Q (.lst ((cutD ns lo hi).map D.int)) M
  | x => lstD x M fun xs => Q (.lst (cutD xs lo hi)) M
end
end DL

/-! The deep layer, part j: slices, methods of lists, keywords. -/
namespace DL
open PySem PySem.Spec PyProof.Rows L2
section
variable {Ω : Wl} {τ : Sx} {X : Cx} {a b c e o tg iter elt : Expr} {es rest ifs : List Expr} {da db dc de : DE} {ta tb dt : DT} {tl tr tk : DA} {pos p p2 apos : Pos} {x m : Str} {vs : List Nat} {gs : List Str} {id T : String}

def wO (X : Cx) (oe : Option Expr) : TO := fun σ H Q => ∀ pins s, Inv X pins σ H s → wpAny (model X.prog X.w) X.A (evalPart oe X.env) (fun u s' => ∃ i H', Inv X pins σ H' s' ∧ IsPart u i ∧ Q i H') X.xe s
theorem po_wO {oe : Option Expr} : PO X oe (wO X oe) := ⟨fun pins s _ _ _ I h => h pins s I⟩
abbrev DO := DSt → MH → (Option Int → MH → Prop) → EK → Prop
theorem dpo_w {oe : Option Expr} {d : DO} (h : DPO Ω τ oe d) (ft : Fit Ω τ X) {F0 : Hp} {E : EK} (tk : TkD X F0 E) {F : Hp} {M : MH} {H : Hp} {σ : L2.St} {σ' : DSt} {Q : Option Int → MH → Prop} (e0 : Ex F0 F) (g : G X.K F M H) (r : RpS X.K F σ σ') (q : d σ' M Q E) :
    wO X oe σ H fun i H1 => ∃ F1 M1, Ex F F1 ∧ G X.K F1 M1 H1 ∧ Q i M1 := fun pins s I => by
  obtain ⟨t, h1, h2⟩ := h.run X ft F0 E tk F M H σ σ' Q e0 g r q
  exact h1.run pins s σ H _ I h2
theorem wO_mono {oe : Option Expr} {σ : L2.St} {H : Hp} {Q Q' : Option Int → Hp → Prop} (h : wO X oe σ H Q) (k : ∀ i H, Q i H → Q' i H) : wO X oe σ H Q' := fun pins s I =>
  thn (h pins s I) fun _ _ ⟨i, H', I', r, q⟩ => ⟨i, H', I', r, k i H' q⟩
def dSl (de : DE) (dl dh : DO) : DE := fun σ M Q E => de σ M (fun x M1 => dl σ M1 (fun l M2 => dh σ M2 (fun u M3 => slOp x l u M3 Q) E) E) E
theorem cutV_ints (ns : List Int) (lo hi : Option Int) : cutV (ns.map V.int) lo hi = (cutD ns lo hi).map V.int := by
  unfold cutV cutD
  rw [List.length_map, List.map_take, List.map_drop]
theorem dp_slice {lo hi : Option Expr} {dl dh : DO} (he : DP Ω τ e de) (hl : DPO Ω τ lo dl) (hh : DPO Ω τ hi dh) : DP Ω τ (.Subscript e (.Slice lo hi none p2) pos) (dSl de dl dh) := Hd.mk fun X ft F0 E tk F M H σ σ' Q e0 g r h => by
  refine wE_of (pe_slice (sl_list.or (sl_tupF.or C8.sl_txt)) pe_wE po_wO po_wO) (wE_mono (he.run X ft F0 E tk F M H σ σ' _ e0 g r h) ?_)
  rintro v H1 ⟨F1, M1, y, e1, g1, r1, q⟩
  refine wO_mono (dpo_w hl ft tk (e0.trans e1) g1 (r.mono e1) q) ?_
  rintro l H2 ⟨F2, M2, e2, g2, q2⟩
  clear q
  refine wO_mono (dpo_w hh ft tk ((e0.trans e1).trans e2) g2 (r.mono (e1.trans e2)) q2) ?_
  rintro u H3 ⟨F3, M3, e3, g3, q⟩
  clear q2
  have r3 := r1.mono (e2.trans e3)
  have e13 := (e1.trans e2).trans e3
  have lists : lstD y M3 (fun xs => Q (.lst (cutD xs l u)) M3) → rSlL X.K v l u H3 (LQ X.K F Q) := fun q => by
    obtain ⟨p, ws, xs, rfl, h1, h2, h3⟩ := lstD_ok g3 r3 q
    exact ⟨p, ws, rfl, SqL.of h1, fun p hp => (rp_lstN g3 hp (h2.cut l u) h3).back e13⟩
  cases y
  case str z =>
    cases r3
    exact .inr (.inr ⟨z, rfl, q.1.sz, F3, M3, _, e13, g3, .str _, q.2⟩)
  case tup xs =>
    cases r3 with | tup hs hr =>
    refine .inr (.inl ⟨_, _, rfl, SqT.fz (hs.mono g3.ex), fun hw => ?_, fun p _ hp => (rp_tupN g3 hp (hr.cut l u) q).back e13⟩)
    refine ⟨F3, M3, .tup xs, e13, g3, .tup hs hr, ?_⟩
    have q' : Q (.tup (cutD xs l u)) M3 := q
    unfold cutD at q'
    rw [← hr.length, hw.1, hw.2, List.drop_zero, hr.length, Nat.sub_zero, List.take_length] at q'
    exact q'
  case scr ns =>
    cases r3 with | scr hs =>
    refine .inl ⟨_, _, rfl, g3.ex.sl hs, fun p hp => ?_⟩
    rw [cutV_ints]
    exact (rp_lstN g3 hp (rpl_ints _) q).back e13
  all_goals exact .inl (lists q)
/-- xs[::-1] of a list -/
def dRev (de : DE) : DE := fun σ M Q E => de σ M (fun x M1 => match x with
  | .str _ => False
  | x => lstD x M1 fun xs => Q (.lst xs.reverse) M1) E
theorem dp_rev {k : Nat} {p1 p3 : Pos} (he : DP Ω τ e de) : DP Ω τ (.Subscript e (.Slice none none (some (.UnaryOp .USub (.Constant (.int 1) k p1) p2)) p3) pos) (dRev de) := Hd.mk fun X ft F0 E tk F M H σ σ' Q e0 g r h => by
  refine wE_of (pe_revL pe_wE) (wE_mono (he.run X ft F0 E tk F M H σ σ' _ e0 g r h) ?_)
  rintro v H1 ⟨F1, M1, y, e1, g1, r1, q⟩
  have q : lstD y M1 fun xs => Q (.lst xs.reverse) M1 := by cases y <;> first | exact q | exact q.elim
  obtain ⟨p, ws, xs, rfl, h1, h2, h3⟩ := lstD_ok g1 r1 q
  exact ⟨p, ws, rfl, SqL.of h1, fun p hp => (rp_lstN g1 hp h2.reverse h3).back e1⟩

/-! ### methods of the built-in types by data -/
abbrev OpM := D → List D → MH → DQ → Prop
def wM (X : Cx) (id : String) : V → List V → Hp → VK → Prop := fun x xs H Q => ∀ pins s σ v us, Inv X pins σ H s → RelV x v → Vals xs us → wpAny (model X.prog X.w) X.A (call (.builtin id) (v :: us)) (EP X pins σ Q) X.xe s
theorem mtR_w : MtR X id (wM X id) := fun pins s σ H x xs v us Q I rx r h => h pins s σ v us I rx r
theorem wM_of {r : V → List V → Hp → VK → Prop} (o : MtR X id r) {x : V} {xs : List V} {H : Hp} {Q : VK} (h : r x xs H Q) : wM X id x xs H Q := fun pins s σ v us I rx rv => o pins s σ H x xs v us Q I rx rv h
theorem wM_mono {x : V} {xs : List V} {H : Hp} {Q Q' : VK} (h : wM X id x xs H Q) (k : ∀ v H', Q v H' → Q' v H') : wM X id x xs H Q' := fun pins s σ v us I rx rv =>
  thn (h pins s σ v us I rx rv) fun _ _ ⟨v', H', I', r, q⟩ => ⟨v', H', I', r, k v' H' q⟩
def MethB (X : Cx) (id : String) (ob : OpM) : Prop := ∀ F M H x x' xs ys Q, G X.K F M H → Rp X.K F x x' → RpL X.K F xs ys → ob x' ys M Q → wM X id x xs H (LQ X.K F Q)
/-- of that type now: a text, a list, a tuple, a dict -/
def moTy : Option MO → Option String
  | some (.lst _) => some "list"
  | some (.dk _ _) => some "dict"
  | some (.dt _ _) => some "dict"
  | _ => none
def tyD (T : String) (x : D) (M : MH) : Prop := match x with
  | .str _ => T = "str"
  | .lst _ => T = "list"
  | .tup _ => False
  | .ref a => moTy (M a) = some T
  | _ => False
theorem tyD_V {K : PySem.W.Frag} {F : Hp} {M : MH} {H : Hp} {v : V} {d : D} (g : G K F M H) (r : Rp K F v d) (h : tyD T d M) : tyV K T v H := by
  cases d <;> first | exact h.elim | skip
  case str z => cases r; exact h
  case lst xs => cases r with | lst hs hr => exact .inl ⟨h, _, SqL.of (g.ex _ _ hs)⟩
  case ref a =>
    cases r
    have h : moTy (M a) = some T := h
    cases hM : M a with
    | none => rw [hM] at h; cases h
    | some o =>
      rw [hM] at h
      cases o with
      | lst xs =>
        cases h
        obtain ⟨_, ws, h1, _⟩ := g.mo _ _ hM
        exact .inl ⟨rfl, ws, SqL.of h1⟩
      | dk ks xs =>
        cases h
        obtain ⟨_, kvs, h1, _⟩ := g.mo _ _ hM
        exact .inr (.inr (.inl ⟨rfl, .inl ⟨kvs, h1⟩⟩))
      | dt ks xs =>
        cases h
        obtain ⟨_, kvs, h1, _⟩ := g.mo _ _ hM
        exact .inr (.inr (.inl ⟨rfl, .inr ⟨kvs, h1⟩⟩))
      | ins _ _ _ => cases h
def dBM (T : String) (ob : OpM) (de : DE) (t : DA) : DE := fun σ M Q E => de σ M (fun x M1 => tyD T x M1 ∧ t σ M1 (fun ys M2 => ob x ys M2 Q) E) E
theorem dp_bm {ob : OpM} {cpos : Pos} (pa : PlainAttrs T) (slot : Slot T m id) (hty : typeOf (.builtin id) = pure (.type "method_descriptor")) (hm : ∀ X, Fit Ω τ X → MethB X id ob) (ho : DP Ω τ o de) (ha : DPA Ω τ (e :: es) tl)
    (hbase : ∀ env, attributeBase o m env (eval o env) = eval o env := by intro _; rfl)
    (hfew : ∀ env, ((backTo cpos (starEach (e :: es) env)).all (fun x => !x.1) && (backToKw cpos (keywordEach [] env)).all (fun x => x.1.isSome) && decide ((e :: es).length + ([] : List Keyword).length + (if ([] : List Keyword).isEmpty then 0 else 1) < 30)) = true := by intro _; rfl)
    (hline : (apos.endLine == cpos.line) = true := by rfl) (hs : ∀ env, starEach (e :: es) env = (false, eval e env) :: starEach es env := by intro _; rfl) (hplain : ∀ env, (backTo cpos (starEach es env)).any (·.1) = false := by intro _; rfl) :
    DP Ω τ (.Call (.Attribute o m apos) (e :: es) [] cpos) (dBM T ob de tl) := Hd.mk fun X ft F0 E tk F M H σ σ' Q e0 g r h => by
  refine wE_of (pe_bm pa slot hty mtR_w pe_wE pa_wA (hbase _) (hfew _) hline (hs _) (hplain _)) (wE_mono (ho.run X ft F0 E tk F M H σ σ' _ e0 g r h) ?_)
  rintro v H1 ⟨F1, M1, y, e1, g1, r1, ty, q⟩
  refine ⟨tyD_V g1 r1 ty, wA_mono (ha.run X ft F0 E tk F1 M1 H1 σ σ' _ (e0.trans e1) g1 (r.mono e1) q) ?_⟩
  rintro ws H2 ⟨F2, M2, ys, e2, g2, r2, q2⟩
  exact wM_mono (hm X ft F2 M2 H2 v y ws ys Q g2 (r1.mono e2) r2 q2) fun _ _ => LQ.back (e1.trans e2)
def dBM0 (T : String) (ob : OpM) (de : DE) : DE := fun σ M Q E => de σ M (fun x M1 => tyD T x M1 ∧ ob x [] M1 Q) E
theorem dp_bm0 {ob : OpM} {cpos : Pos} (pa : PlainAttrs T) (slot : Slot T m id) (hty : typeOf (.builtin id) = pure (.type "method_descriptor")) (hm : ∀ X, Fit Ω τ X → MethB X id ob) (ho : DP Ω τ o de)
    (hbase : ∀ env, attributeBase o m env (eval o env) = eval o env := by intro _; rfl) (hline : (apos.endLine == cpos.line) = true := by rfl) : DP Ω τ (.Call (.Attribute o m apos) [] [] cpos) (dBM0 T ob de) := Hd.mk fun X ft F0 E tk F M H σ σ' Q e0 g r h => by
  refine wE_of (pe_bm0 pa slot hty mtR_w pe_wE (hbase _) hline) (wE_mono (ho.run X ft F0 E tk F M H σ σ' _ e0 g r h) ?_)
  rintro v H1 ⟨F1, M1, y, e1, g1, r1, ty, q⟩
  exact ⟨tyD_V g1 r1 ty, wM_mono (hm X ft F1 M1 H1 v y [] [] Q g1 r1 .nil q) fun _ _ => LQ.back e1⟩
/-- a changing list -/
def refL (f : Addr → List D → List D → MH → DQ → Prop) : OpM := fun x ys M Q => match x with
  | .ref a => ∃ xs, M a = some (.lst xs) ∧ f a xs ys M Q
  | _ => False
theorem mb_refL {f : Addr → List D → List D → MH → DQ → Prop} (h : ∀ F M H a xs ws zs ys Q, G X.K F M H → M a = some (.lst xs) → H a = some (.lst ws) → RpL X.K F ws xs → RpL X.K F zs ys → f a xs ys M Q → wM X id (.ref a) zs H (LQ X.K F Q)) : MethB X id (refL f) := by
  intro F M H x x' zs ys Q g rx rz q
  cases x' <;> first | exact q.elim | skip
  cases rx
  obtain ⟨xs, h1, q⟩ := q
  obtain ⟨h2, ws, h3, h4⟩ := g.mo _ _ h1
  exact h F M H _ xs ws zs ys Q g h1 h3 h4 rz q
theorem g_setL {K : PySem.W.Frag} {F : Hp} {M : MH} {H : Hp} {a : Addr} {xs xs' : List D} {ws' : List V} (g : G K F M H) (h : M a = some (.lst xs)) (r : RpL K F ws' xs') : G K F (M.put a (.lst xs')) (upd H a (.lst ws')) := g.set h ⟨_, upd_same, r⟩
theorem mb_append : MethB X "list.append" (refL fun a xs ys M Q => match ys with
    | [y] => lenOk xs.length ∧ Q .non (M.put a (.lst (xs ++ [y])))
    | _ => False) := mb_refL fun F M H a xs ws zs ys Q g h1 h2 h3 r q => by
  match ys, r, q with
  | [y], r, ⟨hl, q⟩ =>
    obtain ⟨z, rfl, rz⟩ := rpl1 r
    exact wM_of (show MtR X "list.append" rAppend from mt_append) ⟨a, ws, z, rfl, rfl, h2, by rw [h3.length]; exact hl.lt, F, _, _, Ex.refl F, g_setL g h1 (h3.snoc rz), .non, q⟩
theorem mb_pop : MethB X "list.pop" (refL fun a xs ys M Q => match ys with
    | [] => ∃ y, xs[xs.length - 1]? = some y ∧ Q y (M.put a (.lst xs.dropLast))
    | [.int i] => ∃ k y, (-(2 ^ 63) ≤ i ∧ i < 2 ^ 63) ∧ ixN xs.length i = some k ∧ xs[k]? = some y ∧ Q y (M.put a (.lst (xs.eraseIdx k)))
    | _ => False) := mb_refL fun F M H a xs ws zs ys Q g h1 h2 h3 r q => by
  match ys, r, q with
  | [], r, ⟨y, hy, q⟩ =>
    cases r
    obtain ⟨v, hv, rv⟩ := h3.get hy
    exact wM_of (show MtR X "list.pop" rPop from mt_pop) ⟨a, ws, v, rfl, rfl, h2, by rw [h3.length]; exact hv, F, _, _, Ex.refl F, g_setL g h1 h3.dropLast, rv, q⟩
  | [.int i], r, ⟨k, y, hb, hk, hy, q⟩ =>
    obtain ⟨z, rfl, rz⟩ := rpl1 r
    cases rz
    obtain ⟨v, hv, rv⟩ := h3.get hy
    exact wM_of (show MtR X "list.pop" rPopAt from mt_popAt) ⟨a, ws, i, k, v, rfl, rfl, h2, hb.1, hb.2, by rw [h3.length]; exact (ixN_seq hk).1, hv, F, _, _, Ex.refl F, g_setL g h1 (h3.eraseIdx k), rv, q⟩
/-- xs.extend(ys), ys a list that stands still -/
theorem mb_extend : MethB X "list.extend" (refL fun a xs ys M Q => match ys with
    | [.lst zs] => lenOk (xs.length + zs.length) ∧ Q .non (M.put a (.lst (xs ++ zs)))
    | _ => False) := mb_refL fun F M H a xs ws zs ys Q g h1 h2 h3 r q => by
  match ys, r, q with
  | [.lst us], r, ⟨hl, q⟩ =>
    obtain ⟨z, rfl, rz⟩ := rpl1 r
    cases rz with | lst hs hr =>
    exact wM_of (show MtR X "list.extend" rExtend from mt_extend) ⟨a, _, ws, _, rfl, rfl, h2, g.ex _ _ hs, by rw [h3.length, hr.length]; exact hl.sz, F, _, _, Ex.refl F, g_setL g h1 (h3.append hr), .non, q⟩

/-! ### calls with keywords -/
def wK (X : Cx) (kws : List Keyword) : TA := fun σ H Q => ∀ pos pins s, Inv X pins σ H s → wpAny (model X.prog X.w) X.A (evalAll ((backToKw pos (keywordEach kws X.env)).map (·.2))) (AP X pins σ Q) X.xe s
theorem pk_wK {kws : List Keyword} : PK X kws (wK X kws) := ⟨fun pos pins s _ _ _ I h => h pos pins s I⟩
def DPK (Ω : Wl) (τ : Sx) (kws : List Keyword) (d : DA) : Prop := Hd (∀ X, Fit Ω τ X → ∀ F0 E, TkD X F0 E → ∀ F M H σ σ' Q, Ex F0 F → G X.K F M H → RpS X.K F σ σ' → d σ' M Q E → wK X kws σ H (LA X.K F Q))
theorem wK_mono {kws : List Keyword} {σ : L2.St} {H : Hp} {Q Q' : List V → Hp → Prop} (h : wK X kws σ H Q) (k : ∀ v H', Q v H' → Q' v H') : wK X kws σ H Q' := fun pos pins s I =>
  thn (h pos pins s I) fun _ _ ⟨v, H', I', r, q⟩ => ⟨v, H', I', r, k v H' q⟩
theorem dpk_nil : DPK Ω τ [] dNil := Hd.mk fun X ft F0 E tk F M H σ σ' Q e0 g r h => fun pos pins s I => pk_nil.run pos pins s σ H _ I ⟨F, M, [], Ex.refl F, g, .nil, h⟩
theorem dpk_cons {nm : Option Str} {kpos : Pos} {kws : List Keyword} (ha : DP Ω τ e de) (hr : DPK Ω τ kws tr) : DPK Ω τ (⟨nm, e, kpos⟩ :: kws) (dCons de tr) := Hd.mk fun X ft F0 E tk F M H σ σ' Q e0 g r h => by
  intro pos pins s I
  refine (pk_cons (pe_wE (e := e)) (pk_wK (kws := kws))).run pos pins s σ H _ I (wE_mono (ha.run X ft F0 E tk F M H σ σ' _ e0 g r h) ?_)
  rintro v H1 ⟨F1, M1, y, e1, g1, r1, q1⟩
  refine wK_mono (hr.run X ft F0 E tk F1 M1 H1 σ σ' _ (e0.trans e1) g1 (r.mono e1) q1) ?_
  rintro ws H2 ⟨F2, M2, ys, e2, g2, r2, q2⟩
  exact ⟨F2, M2, y :: ys, e1.trans e2, g2, .cons (r1.mono e2) r2, q2⟩
/-- f by name, for keywords: the def's object also tells how keywords bind -/
def CalK (Ω : Wl) (x : Str) (k : Nat) (ps ks : List Str) (g : List Value → List Value → List Value) (gV : List V → List V → List V) (sp : DSp) : Prop := ∃ f fd, Okd Ω f fd k ps sp ∧ Ω.mg x = some (.ref f) ∧ PySem.W.keepIn Ω.K (.ref f) = true ∧ KBinds Ω.K fd ps ks g gV
end
end DL

/-! The deep layer, part k: keywords, constants of the module, the law's call. -/
namespace DL
open PySem PySem.Spec PyProof.Rows L2
section
variable {Ω : Wl} {τ : Sx} {X : Cx} {a b c e o tg iter elt : Expr} {es rest ifs : List Expr} {da db dc de : DE} {ta tb dt : DT} {tl tr tk : DA} {pos p p2 apos : Pos} {x m : Str} {vs : List Nat} {gs : List Str} {id T : String} {f C : Addr} {fd : FuncData} {k : Nat} {ps ks : List Str} {sp : DSp} {st : Stmt} {N : List Str} {d : DS} {qual : Str}

/-! ### keywords -/
def pick {α : Type} (ix : List Nat) (l : List α) : List α := ix.filterMap fun i => l[i]?
theorem pick_vals {ix : List Nat} {ws : List V} {us : List Value} (r : Vals ws us) : Vals (pick ix ws) (pick ix us) := by
  induction ix with
  | nil => exact .nil
  | cons i ix ih =>
    unfold pick
    rw [List.filterMap_cons, List.filterMap_cons]
    cases h : ws[i]? with
    | none =>
      have h2 : us[i]? = none := by
        rw [List.getElem?_eq_none_iff] at h ⊢
        rw [← r.length]; exact h
      rw [h2]; exact ih
    | some v =>
      obtain ⟨u, h2, h3⟩ := r.get h
      rw [h2]
      exact .cons h3 ih
theorem pick_rpl {K : PySem.W.Frag} {F : Hp} {ix : List Nat} {ws : List V} {ds : List D} (r : RpL K F ws ds) : RpL K F (pick ix ws) (pick ix ds) := by
  induction ix with
  | nil => exact .nil
  | cons i ix ih =>
    unfold pick
    rw [List.filterMap_cons, List.filterMap_cons]
    cases h : ws[i]? with
    | none =>
      have h2 : ds[i]? = none := by
        rw [List.getElem?_eq_none_iff] at h ⊢
        rw [← r.length]; exact h
      rw [h2]; exact ih
    | some v =>
      obtain ⟨u, h2, h3⟩ := r.getV h
      rw [h2]
      exact .cons h3 ih
/-- f by name, n arguments by place, ks by name -/
def CalN (Ω : Wl) (x : Str) (k : Nat) (ps : List Str) (n : Nat) (ks : List Str) (ix : List Nat) (sp : DSp) : Prop := ∃ f fd, Okd Ω f fd k ps sp ∧ Ω.mg x = some (.ref f) ∧ PySem.W.keepIn Ω.K (.ref f) = true ∧
  ∀ (s : Shared) (us ws : List Value), us.length = n → ws.length = ks.length → BindsTo s fd ⟨us, ks.zip ws⟩ (ps.zip (pick ix (us ++ ws)))
theorem calN_mk {n : Nat} {ix : List Nat} (h0 : Std Ω x ps st) (c : ∀ f fd, Fun Ω.K x x st f fd → Okd Ω f fd k ps sp)
    (hb : ∀ (kV doc pm : Value) (an : Option Addr) (cdv ct : Value) (us ws : List Value), us.length = n → ws.length = ks.length → bindArgs (PySem.W.fnOf x x (defArgs st) (defBody st) (defScope st) .none kV doc pm an cdv ct) ⟨us, ks.zip ws⟩ = pure (ps.zip (pick ix (us ++ ws)))) : CalN Ω x k ps n ks ix sp := by
  obtain ⟨f, fd, F, hm, b⟩ := h0
  refine ⟨f, fd, c f fd F, hm, F.kp, fun s us ws h1 h2 => ?_⟩
  obtain ⟨oc, od, kV, doc, pm, an, cdv, ct, osl, rfl, lk, hcd⟩ := F.ex
  exact .of_eq (hb kV doc pm an cdv ct us ws h1 h2)
theorem run_okdA (ft : Fit Ω τ X) (F : Okd Ω f fd k ps sp) (hk : k ≤ τ.k) {F0 : Hp} {E : EK} (tk : TkD X F0 E) {pins : List (Addr × Obj)} {σ : L2.St} {H : Hp} {s : Shared} {Q : VK} {us vs : List Value} {kv : List (Str × Value)} {ws : List V} (bnd : BindsTo s fd ⟨vs, kv⟩ (ps.zip us)) (I : Inv X pins σ H s) (rv : Vals ws us)
    (h : lift X.K ps.length sp ws H Q (WE (LX X.K F0 E) σ)) : wpAny (model X.prog X.w) X.A (call (.ref f) vs kv) (EP X pins σ Q) X.xe s := by
  refine wpAny_call (codeAny_mono (run_fnG (E := WE (LX X.K F0 E)) (fit_ok ft F) (ft.room.mono hk) ft.gd bnd (L2N.passAt tk σ) I rv h) ?_)
  rintro (e | fl) t z
  · exact z
  · cases fl <;> first | exact z | exact False.elim z
def dCallN (ix : List Nat) (n m np : Nat) (sp : DSp) (t u : DA) : DE := fun σ M Q E => t σ M (fun ds M1 => u σ M1 (fun es M2 => ds.length = n ∧ es.length = m ∧ (pick ix (ds ++ es)).length = np ∧ sp (pick ix (ds ++ es)) M2 Q fun er M3 => E er σ M3) E) E
theorem RpS.mono2 {K : PySem.W.Frag} {F F1 F2 : Hp} {σ : L2.St} {σ' : DSt} (r : RpS K F σ σ') (a : Ex F F1) (b : Ex F1 F2) : RpS K F2 σ σ' := r.mono (a.trans b)
theorem dp_callN0 {kws : List Keyword} {ix : List Nat} (c : CalN Ω x k ps 0 ks ix sp) (S : ScOk τ.N vs gs τ.sc) (hkw : DPK Ω τ kws tl) (hg : x ∈ gs := by decide) (hk : k ≤ τ.k := by decide) (hdb : (x == ("__debug__" : Str)) = false := by decide)
    (hall : ∀ env, (backToKw pos (keywordEach kws env)).all (·.1.isSome) = true := by intro _; rfl) (hks : ∀ env, (backToKw pos (keywordEach kws env)).filterMap (·.1) = ks := by intro _; rfl)
    (hpl : ∀ env, ((backTo pos (starEach [] env)).any (·.1) || (backToKw pos (keywordEach kws env)).any (·.1.isNone)) = false := by intro _; rfl) :
    DP Ω τ (.Call (.Name x p) [] kws pos) (dCallN ix 0 ks.length ps.length sp dNil tl) := Hd.mk fun X ft F0 E tk F M H σ σ' Q e0 g r h pins s I => by
  obtain ⟨f, fd, F1, hm, hkp, hb⟩ := c
  refine wpAny_Call_Name_kw (ld_glob I (fit_gl ft S hg) (by rw [ft.mg]; exact hm) ?_ hdb)
  refine PySem.W.callWith_KW0 (h₀ := X.base) I.ok.mod.kin (by rw [ft.K]; exact hkp) (hall _) (thn (hkw.run X ft F0 E tk F M H σ σ' _ e0 g r h pos pins s I) ?_) (hpl _)
  rintro us s1 ⟨ws, H1, I1, rv, F2, M2, ds, e2, g2, r2, -, h1, h2, q⟩
  rw [hks]
  have hl : us.length = ks.length := by rw [← rv.length, r2.length]; exact h1
  refine ⟨I1.kIn, thn (run_okdA (us := pick ix us) (ws := pick ix ws) ft F1 hk tk (hb s1 [] us rfl hl) I1 (pick_vals rv) (lift_of (e0.trans e2) g2 (r.mono e2) (pick_rpl r2) h2 q)) ?_⟩
  rintro u s2 ⟨v, H2, I2, rv2, q2⟩
  exact ⟨v, H2, I2, rv2, LQ.back e2 q2⟩
theorem dp_callN {kws : List Keyword} {n : Nat} {ix : List Nat} (c : CalN Ω x k ps n ks ix sp) (S : ScOk τ.N vs gs τ.sc) (ha : DPA Ω τ (e :: es) tr) (hkw : DPK Ω τ kws tl) (hg : x ∈ gs := by decide) (hk : k ≤ τ.k := by decide) (hdb : (x == ("__debug__" : Str)) = false := by decide)
    (hall : ∀ env, (backToKw pos (keywordEach kws env)).all (·.1.isSome) = true := by intro _; rfl) (hks : ∀ env, (backToKw pos (keywordEach kws env)).filterMap (·.1) = ks := by intro _; rfl)
    (he : ∀ env, starEach (e :: es) env = (false, eval e env) :: starEach es env := by intro _; rfl)
    (hpl : ∀ env, ((backTo pos (starEach (e :: es) env)).any (·.1) || (backToKw pos (keywordEach kws env)).any (·.1.isNone)) = false := by intro _; rfl) :
    DP Ω τ (.Call (.Name x p) (e :: es) kws pos) (dCallN ix n ks.length ps.length sp tr tl) := Hd.mk fun X ft F0 E tk F M H σ σ' Q e0 g r h pins s I => by
  obtain ⟨f, fd, F1, hm, hkp, hb⟩ := c
  refine wpAny_Call_Name_kw (ld_glob I (fit_gl ft S hg) (by rw [ft.mg]; exact hm) ?_ hdb)
  refine PySem.W.callWith_KW (h₀ := X.base) I.ok.mod.kin (by rw [ft.K]; exact hkp) (hall _) (thn (ha.run X ft F0 E tk F M H σ σ' _ e0 g r h pos pins s I) ?_) (hpl _) (he _)
  rintro vs0 s0 ⟨ws0, H0, I0, rv0, F3, M3, ds0, e3, g3, r3, q3⟩
  refine thn (hkw.run X ft F0 E tk F3 M3 H0 σ σ' _ (e0.trans e3) g3 (r.mono e3) q3 pos pins s0 I0) ?_
  rintro us s1 ⟨ws, H1, I1, rv, F2, M2, ds, e2, g2, r2, h0, h1, h2, q⟩
  rw [hks]
  have hl : us.length = ks.length := by rw [← rv.length, r2.length]; exact h1
  have hl0 : vs0.length = n := by rw [← rv0.length, r3.length]; exact h0
  have e32 := e3.trans e2
  refine ⟨I1.kIn, thn (run_okdA (us := pick ix (vs0 ++ us)) (ws := pick ix (ws0 ++ ws)) ft F1 hk tk (hb s1 vs0 us hl0 hl) I1 (pick_vals (rv0.append rv)) (lift_of (e0.trans e32) g2 (r.mono e32) (pick_rpl ((r3.mono e2).append r2)) h2 q)) ?_⟩
  rintro u s2 ⟨v, H2, I2, rv2, q2⟩
  exact ⟨v, H2, I2, rv2, LQ.back e32 q2⟩

/-! ### constants of the module -/
def Ini (Ω : Wl) (x : Str) (v : V) : Prop := ∃ u, Ω.mg x = some u ∧ RelV v u
theorem dp_gint {i : Int} (S : ScOk τ.N vs gs τ.sc) (h : Ini Ω x (.int i)) (hg : x ∈ gs := by decide) (hd : (x == ("__debug__" : Str)) = false := by decide) : DP Ω τ (.Name x pos) (dC (.int i)) :=
  let ⟨_, h1, h2⟩ := h
  dp_glob S h1 h2 (fun _ => .int i) hg hd
theorem dp_gstr {z : Str} (S : ScOk τ.N vs gs τ.sc) (h : Ini Ω x (.str z)) (hg : x ∈ gs := by decide) (hd : (x == ("__debug__" : Str)) = false := by decide) : DP Ω τ (.Name x pos) (dC (.str z)) :=
  let ⟨_, h1, h2⟩ := h
  dp_glob S h1 h2 (fun _ => .str z) hg hd

/-! ### comprehensions whose turns change nothing -/
theorem lc_map {gd : DG} {de : DE} {vs : List Nat} {σ : DSt} {Q : DQ} {xs : List D} {M : MH} (val : D → D) (hl : lenOk xs.length)
    (h : ∀ p acc x C, M p = none → x ∈ xs → C (val x) (M.put p (.lst acc)) → gd x (wipeD σ vs) (M.put p (.lst acc)) (fun σ2 M3 => de σ2 M3 C noE) noE) (q : Q (.lst (xs.map val)) M) : LcGo gd dYes de vs σ Q xs M := by
  intro p hp
  refine ⟨fun r M2 => ∃ n, n ≤ xs.length ∧ r = xs.drop n ∧ M2 = M.put p (.lst ((xs.take n).map val)), ⟨0, Nat.zero_le _, by simp, by simp⟩, ?_, ?_⟩
  · rintro M2 ⟨n, hn, hr, rfl⟩
    have : n = xs.length := by
      have := congrArg List.length hr
      simp at this; omega
    subst this
    refine ⟨_, MH.put_same, ?_⟩
    rw [MH.del_put hp, List.take_length]; exact q
  · rintro x r M2 ⟨n, hn, hr, rfl⟩
    have hlt : n < xs.length := by
      rcases Nat.lt_or_ge n xs.length with h | h
      · exact h
      · rw [List.drop_eq_nil_of_le h] at hr; cases hr
    rw [List.drop_eq_getElem_cons hlt] at hr
    cases hr
    have key := h p ((xs.take n).map val) xs[n] (fun y M5 => ∃ acc, M5 p = some (.lst acc) ∧ lenOk (acc.length + 1) ∧ ∃ k, k ≤ xs.length ∧ xs.drop (n + 1) = xs.drop k ∧ M5.put p (.lst (acc ++ [y])) = M.put p (.lst ((xs.take k).map val))) hp (List.getElem_mem hlt) (by
      refine ⟨_, MH.put_same, ?_, n + 1, hlt, rfl, ?_⟩
      · simp only [List.length_map, List.length_take]
        unfold lenOk at hl ⊢; omega
      · rw [MH.put_put, List.take_succ_eq_append_getElem hlt, List.map_append]; rfl)
    show gd xs[n] (wipeD σ vs) _ (fun σ2 M3 => (true = true → de σ2 M3 _ noE) ∧ (true = false → _)) noE
    have e : (fun (σ2 : DSt) (M3 : MH) => (true = true → de σ2 M3 (fun y M5 => ∃ acc, M5 p = some (.lst acc) ∧ lenOk (acc.length + 1) ∧ ∃ k, k ≤ xs.length ∧ xs.drop (n + 1) = xs.drop k ∧ M5.put p (.lst (acc ++ [y])) = M.put p (.lst ((xs.take k).map val))) noE) ∧ (true = false → ∃ k, k ≤ xs.length ∧ xs.drop (n + 1) = xs.drop k ∧ M3 = M.put p (.lst ((xs.take k).map val)))) = fun σ2 M3 => de σ2 M3 (fun y M5 => ∃ acc, M5 p = some (.lst acc) ∧ lenOk (acc.length + 1) ∧ ∃ k, k ≤ xs.length ∧ xs.drop (n + 1) = xs.drop k ∧ M5.put p (.lst (acc ++ [y])) = M.put p (.lst ((xs.take k).map val))) noE := by
      funext σ2 M3
      simp
    rw [e]; exact key
theorem lc_filter {gd : DG} {dt : DT} {de : DE} {vs : List Nat} {σ : DSt} {Q : DQ} {xs : List D} {M : MH} (keep : D → Bool) (val : D → D) (hl : lenOk xs.length)
    (h : ∀ p acc x (C : DQ) (Nn : MH → Prop), M p = none → x ∈ xs → (keep x = true → C (val x) (M.put p (.lst acc))) → (keep x = false → Nn (M.put p (.lst acc))) → gd x (wipeD σ vs) (M.put p (.lst acc)) (fun σ2 M3 => dt σ2 M3 (fun k M4 => (k = true → de σ2 M4 C noE) ∧ (k = false → Nn M4)) noE) noE)
    (q : Q (.lst ((xs.filter keep).map val)) M) : LcGo gd dt de vs σ Q xs M := by
  intro p hp
  refine ⟨fun r M2 => ∃ n, n ≤ xs.length ∧ r = xs.drop n ∧ M2 = M.put p (.lst (((xs.take n).filter keep).map val)), ⟨0, Nat.zero_le _, by simp, by simp⟩, ?_, ?_⟩
  · rintro M2 ⟨n, hn, hr, rfl⟩
    have : n = xs.length := by
      have := congrArg List.length hr
      simp at this; omega
    subst this
    refine ⟨_, MH.put_same, ?_⟩
    rw [MH.del_put hp, List.take_length]; exact q
  · rintro x r M2 ⟨n, hn, hr, rfl⟩
    have hlt : n < xs.length := by
      rcases Nat.lt_or_ge n xs.length with h | h
      · exact h
      · rw [List.drop_eq_nil_of_le h] at hr; cases hr
    rw [List.drop_eq_getElem_cons hlt] at hr
    cases hr
    refine h p _ xs[n] _ _ hp (List.getElem_mem hlt) (fun hk => ?_) fun hk => ⟨n + 1, hlt, rfl, ?_⟩
    · refine ⟨_, MH.put_same, ?_, n + 1, hlt, rfl, ?_⟩
      · have := List.length_filter_le keep (xs.take n)
        simp only [List.length_map, List.length_take] at this ⊢
        unfold lenOk at hl ⊢; omega
      · rw [MH.put_put, List.take_succ_eq_append_getElem hlt, List.filter_append, List.map_append]
        simp [hk]
    · rw [List.take_succ_eq_append_getElem hlt, List.filter_append]
      simp [hk]
end

/-! ### the law's call -/
theorem callG {P : Program} {w : World} {K : PySem.W.Frag} {mg mb : Str → Option Value} {CX : CXT} {k : Nat} {fa l : Addr} {fd : FuncData} {x : Str} {sp : Sp} {t : Shared} {us : List Value} {ns : List Int}
    (inK : K.In t.heap) (hm : t.heap.Ns mainGlobals mg) (hb : t.heap.Ns builtinsNs mb) (hbb : ∀ x : Str, x ≠ "__name__" → mb x = bootBuiltins x) (nl : t.heap.NoLimit) (gn : t.gens = #[])
    (hl : t.heap.get? l = some { cls := .type "list", data := .seq us.toArray }) (inx : IntsAre us ns) (few : ns.length ≤ sizeLine) (room : Room k callerA)
    (F : ∀ base : Heap, K.In base → base.Ns mainGlobals mg → FnG P w K mg base CX k fa fd [x] sp) (bnd : ∀ (s : Shared) (u : Value), BindsTo s fd ⟨[u], []⟩ [(x, u)])
    (want : ∀ H : Hp, Only H → SqL K H l (ns.map V.int) → sp [.ref l] H (fun v _ => v = .bl true) fun _ _ _ => False)
    (noX : ∀ H e s', CX [] H t (fun _ _ _ => False) e s' → False) :
    codeAny (model P w) callerA (.call (.ref fa) ⟨[.ref l], []⟩) (fun r s' => r = .ok (.ret (.bool true)) ∧ OldK t.heap s'.heap ∧ s'.os = t.os ∧ AllBare s'.gens) t := by
  have vv := vals_ints inx
  have ll := inx.length
  have main : ∀ H : Hp, Only H → SqL K H l (ns.map V.int) → HOk P w H t.heap → (∀ b, H b ≠ none → b = l) → (H l ≠ none → K.lookup l = none) →
      codeAny (model P w) callerA (.call (.ref fa) ⟨[.ref l], []⟩) (fun r s' => r = .ok (.ret (.bool true)) ∧ OldK t.heap s'.heap ∧ s'.os = t.os ∧ AllBare s'.gens) t := by
    intro H only sq ok one free
    have dicts : ∀ {b : Addr} {o : Obj} {es : Array DictEntry} {ep : Nat}, t.heap.get? b = some o → o.data = .dict es ep → H b = none := by
      intro b o es ep z zd
      by_cases q : H b = none
      · exact q
      · obtain rfl := one b q
        rw [hl] at z; cases z; cases zd
    have keepNs : ∀ {b : Addr} {m : Str → Option Value}, t.heap.Ns b m → (hidT t.heap H).Ns b m := by
      rintro b m ⟨o, es, ep, z, zd, r⟩
      exact ⟨o, es, ep, hidT_get z (dicts z zd), zd, r⟩
    have inK' : K.In (hidT t.heap H) := fun b o z => hidT_get (inK b o z) (by
      by_cases q : H b = none
      · exact q
      · obtain rfl := one b q
        rw [free q] at z; cases z)
    have md : Mod K mg (hidT t.heap H) := ⟨inK', keepNs hm, ⟨mb, keepNs hb, hbb⟩, nl.elim fun mc z => ⟨mc, keepNs z.1, z.2⟩⟩
    have env : Env0 P w K mg (hidT t.heap H) callerA [] t H := ⟨rfl, md, fun b o z => of_hidT z, Nat.le_of_eq (hidT_size _ _), trivial, fun b z => (List.not_mem_nil z).elim, ok, .of_eq gn⟩
    refine codeAny_mono ((F _ inK' (keepNs hm)).go callerA [] t H ⟨[.ref l], []⟩ [.ref l] [.ref l] _ _ room rfl env (bnd t (.ref l)) (.cons rfl .nil) (want H only sq)) ?_
    rintro (e | fl) s' z
    · exact (noX H e s' z).elim
    · cases fl <;> first | exact False.elim z | skip
      obtain ⟨v, H', os, bare, un, ok', rv, q⟩ := z
      have q' : v = .bl true := q
      subst q'
      obtain rfl : _ = Value.bool true := rv
      refine ⟨rfl, OldK.of_keep fun b o z => ?_, os, bare⟩
      rcases only b with nb | ⟨ob, xs, z2⟩
      · exact un.keep b o z nb (fun q => (List.not_mem_nil q).elim) (fun q => (List.not_mem_nil q).elim)
      · obtain ⟨z3, _⟩ := ok b _ z2
        obtain ⟨z4, _⟩ := ok' b _ (un.frzs b ob _ z2)
        rw [z] at z3; cases z3
        exact z4
  cases hk : K.lookup l with
  | some o =>
    have z := inK l o hk
    rw [hl] at z
    cases z
    exact main (fun _ => none) (fun _ => .inl rfl) (.inr ⟨_, us.toArray, _, hk, rfl, rfl, rfl, by rw [List.size_toArray, ll]; exact few, by simpa using vv⟩) (fun b u z => nomatch (z : (none : Option HO) = some u)) (fun b z => absurd rfl z) fun z => absurd rfl z
  | none =>
    have at_ : ∀ b, (if b = l then some (HO.frz { cls := .type "list", data := .seq us.toArray } (.lst (ns.map V.int))) else none) = none ∨ b = l := fun b => by
      by_cases q : b = l
      · exact .inr q
      · exact .inl (if_neg q)
    refine main (fun b => if b = l then some (.frz { cls := .type "list", data := .seq us.toArray } (.lst (ns.map V.int))) else none) (fun b => (at_ b).imp _root_.id fun q => ⟨_, _, if_pos q⟩) (.inl (.inr ⟨_, if_pos rfl⟩)) ?_ (fun b z => (at_ b).elim (fun q => absurd q z) _root_.id) fun _ => hk
    intro b u z
    rcases at_ b with q | q
    · exact nomatch q.symm.trans z
    · subst q
      cases (if_pos rfl).symm.trans z
      exact ⟨hl, by rw [List.length_map]; exact few, us, _, vv, hl⟩
theorem walkG {l : PySem.W.OpenLaw} {n k : Nat} {q : Program} {loose : List Str} {XP : (Str → Option Value) → Heap → Prop} {YP : World → Heap → Prop} {d : DefRec} {K : Params → PySem.W.Frag} {CX : World → CXT} {sp : World → Sp} {x : Str}
    (h1 : l.most = some n) (h2 : n ≤ sizeLine) (h3 : d.params.defaults = []) (room : Room k callerA) (inY : ∀ (w : World) (h : Heap), YP w h → (K w.params).In h)
    (F : ∀ (w : World) (mg : Str → Option Value) (fa : Addr) (h : Heap), (K w.params).In h → h.Ns mainGlobals mg → mg d.name = some (.ref fa) →
      ∃ fd : FuncData, (∀ (s : Shared) (u : Value), BindsTo s fd ⟨[u], []⟩ [(x, u)]) ∧ ∀ base : Heap, (K w.params).In base → base.Ns mainGlobals mg → FnG l.prog w (K w.params) mg base (CX w) k fa fd [x] (sp w))
    (want : ∀ (w : World) (H : Hp) (a : Addr) (ns : List Int), ns.length ≤ n → Only H → SqL (K w.params) H a (ns.map V.int) → sp w [.ref a] H (fun v _ => v = .bl true) fun _ _ _ => False)
    (noX : ∀ (w : World) (H : Hp) (s : Shared) (e : Value) (s' : Shared), CX w [] H s (fun _ _ _ => False) e s' → False) : PySem.W.WalkO q loose XP YP l.row.toRowW d [] (fun f vs => PySem.call f vs) := by
  refine Att.attach_call h1 h3 fun w s₀ t mg mb fa o pm cd doc a us ns G Y ho hd hcd hmg hobj inx few gn => ?_
  obtain ⟨fd, hb, hF⟩ := F w mg fa _ (inY w _ Y) G.T.g hmg
  exact callG (inY w _ Y) G.T.g G.T.b G.T.builtins G.T.nolimit gn hobj inx (Nat.le_trans few h2) room hF hb (fun H hO hS => want w H a ns few hO hS) fun H e s' => noX w H t e s'
/-- the law's promise by data: the script stands still, true is wanted, no exception -/
def spLawD (body : List Int → Prop) : DSp := fun ds _ Q _ => ∃ ns : List Int, ds = [.scr ns] ∧ body ns ∧ ∀ M, Q (.bl true) M
theorem want_law {K : PySem.W.Frag} {n : Nat} {sp : DSp} (h : ∀ (ns : List Int) (Q : DQ) (E : Er → MH → Prop), ns.length ≤ n → (∀ M, Q (.bl true) M) → sp [.scr ns] (fun _ => none) Q E) :
    ∀ (H : Hp) (a : Addr) (ns : List Int), ns.length ≤ n → Only H → SqL K H a (ns.map V.int) → lift K 1 sp [.ref a] H (fun v _ => v = .bl true) fun _ _ _ => False := by
  intro H a ns hl hO hS
  refine ⟨H, fun _ => none, [.scr ns], fun v _ => v = .bl true, fun _ _ => False, ⟨Ex.refl H, fun a o q => nomatch q⟩, .cons (.scr hS) .nil, rfl, h ns _ _ hl fun _ => rfl, ?_, fun _ _ _ _ _ _ _ _ _ q => q.elim⟩
  rintro y M' v H' F' e g rv rfl
  cases rv
  rfl
end DL

/-! The deep layer, part l: names for the printer. -/
namespace DL
open PySem PySem.Spec PyProof.Rows L2
abbrev ltO : Op2 := i2 fun i j => .bl (decide (i < j))
abbrev leO : Op2 := i2 fun i j => .bl (decide (i ≤ j))
abbrev gtO : Op2 := i2 fun i j => .bl (decide (j < i))
abbrev geO : Op2 := i2 fun i j => .bl (decide (j ≤ i))
abbrev subO : Op2 := i2 fun i j => .int (i - j)
abbrev absO : D → MH → DQ → Prop := oI fun i M Q => Q (.int (if i < 0 then -i else i)) M
abbrev maxO : D → D → MH → DQ → Prop := ii2 fun i j M Q => Q (.int (if j > i then j else i)) M
abbrev minO : D → D → MH → DQ → Prop := ii2 fun i j M Q => Q (.int (if j < i then j else i)) M
abbrev dmO : D → D → MH → DQ → Prop := ii2 fun i j M Q => CDiv i j ∧ Q (.wtp [.int (i / j), .int (i % j)]) M
abbrev tupO : D → MH → DQ → Prop := fun d M Q => match d with
    | .tup xs => Q (.tup xs) M
    | d => lstD d M fun xs => Q (.tup xs) M
abbrev lstO : D → MH → DQ → Prop := fun d M Q => seqD d M fun xs => Q (.lst xs) M
abbrev lstMO : D → MH → DQ → Prop := fun d M Q => seqD d M fun xs => ∀ p, M p = none → Q (.ref p) (M.put p (.lst xs))
abbrev maxLO : D → MH → DQ → Prop := intsO fun ns M Q => 0 < ns.length ∧ ∀ m, m ∈ ns → (∀ y, y ∈ ns → y ≤ m) → Q (.int m) M
abbrev minLO : D → MH → DQ → Prop := fun d M Q => match d with
    | .tup xs => ∃ ns : List Int, xs = ns.map D.int ∧ 0 < ns.length ∧ ∀ m, m ∈ ns → (∀ y, y ∈ ns → m ≤ y) → Q (.int m) M
    | d => intsO (fun ns M Q => 0 < ns.length ∧ ∀ m, m ∈ ns → (∀ y, y ∈ ns → m ≤ y) → Q (.int m) M) d M Q
abbrev anyO : D → MH → DQ → Prop := blsO fun bs M Q => Q (.bl (bs.any _root_.id)) M
abbrev allO : D → MH → DQ → Prop := blsO fun bs M Q => Q (.bl (bs.all _root_.id)) M
abbrev strIO : D → MH → DQ → Prop := oI fun i M Q => i.natAbs.log2 < 1920 ∧ Q (.str (toString i)) M
abbrev srtSO : D → MH → DQ → Prop := strsO fun xs M Q => xs.length < 64 ∧ ∀ ys : List Str, ys.Perm xs → sortedS ys = true → Q (.lst (ys.map D.str)) M
abbrev srtIO : D → MH → DQ → Prop := intsO fun xs M Q => xs.length < 64 ∧ ∀ ys : List Int, ys.Perm xs → ys.Pairwise (· ≤ ·) → Q (.lst (ys.map D.int)) M
abbrev appendM : OpM := refL fun a xs ys M Q => match ys with
    | [y] => lenOk xs.length ∧ Q .non (M.put a (.lst (xs ++ [y])))
    | _ => False
abbrev popM : OpM := refL fun a xs ys M Q => match ys with
    | [] => ∃ y, xs[xs.length - 1]? = some y ∧ Q y (M.put a (.lst xs.dropLast))
    | [.int i] => ∃ k y, (-(2 ^ 63) ≤ i ∧ i < 2 ^ 63) ∧ ixN xs.length i = some k ∧ xs[k]? = some y ∧ Q y (M.put a (.lst (xs.eraseIdx k)))
    | _ => False
abbrev extendM : OpM := refL fun a xs ys M Q => match ys with
    | [.lst zs] => lenOk (xs.length + zs.length) ∧ Q .non (M.put a (.lst (xs ++ zs)))
    | _ => False
section
variable {Ω : Wl} {τ : Sx} {X : Cx} {a b c e o tg iter elt : Expr} {es rest ifs : List Expr} {da db dc de : DE} {ta tb dt : DT} {tl tr : DA} {pos p p2 apos : Pos} {x m : Str} {vs : List Nat} {gs : List Str} {id T : String}
/-- xs * n, a list that may change -/
def mulM : Op2 := fun x y M Q => match y with
  | .int j => lstD x M fun xs => (0 ≤ j ∧ j ≤ 1000 ∧ xs.length ≤ 1000) ∧ ∀ p, M p = none → Q (.ref p) (M.put p (.lst (List.replicate j.toNat xs).flatten))
  | _ => False
theorem opD_mulM (ft : Fit Ω τ X) : OpD X (binaryOp .Mult) mulM := by
  intro F M H x y x' y' Q g rx ry h
  cases y' <;> first | exact h.elim | skip
  cases ry
  obtain ⟨p, ws, xs, rfl, h1, h2, ⟨h3, h4, h5⟩, hq⟩ := lstD_ok g rx h
  refine wOp_of op_rep ⟨_, _, _, rfl, rfl, h1, by omega, by omega, ?_, fun p hp => rp_lstM g hp (h2.rep _) hq⟩
  rw [h2.length]
  exact Nat.le_trans (small_mul h3 h4 h5) (by decide)
def addM : Op2 := fun x y M Q => lstD x M fun xs => lstD y M fun ys => lenOk (xs.length + ys.length) ∧ ∀ p, M p = none → Q (.ref p) (M.put p (.lst (xs ++ ys)))
theorem opD_addM (ft : Fit Ω τ X) : OpD X (binaryOp .Add) addM := by
  intro F M H x y x' y' Q g rx ry h
  obtain ⟨p, ws, xs, rfl, h1, h2, h⟩ := lstD_ok g rx h
  obtain ⟨q, us, ys, rfl, h3, h4, hl, hq⟩ := lstD_ok g ry h
  exact wOp_of op_cat ⟨p, q, ws, us, rfl, rfl, h1, h3, by rw [h2.length, h4.length]; exact hl.sz, fun p hp => rp_lstM g hp (h2.append h4) hq⟩
/-! what the built-in types' methods are -/
theorem pa_list : PlainAttrs "list" := PySem.F.plainAttrs_list
theorem sl_list_append : Slot "list" "append" "list.append" := PySem.F.slot_list_append
theorem sl_list_pop : Slot "list" "pop" "list.pop" := PySem.F.slot_list_pop
theorem sl_list_extend : Slot "list" "extend" "list.extend" := PySem.F.slot_list_extend
theorem ty_list_append : typeOf (.builtin "list.append") = pure (.type "method_descriptor") := PySem.F.type_list_append
theorem ty_list_pop : typeOf (.builtin "list.pop") = pure (.type "method_descriptor") := PySem.F.type_list_pop
theorem ty_list_extend : typeOf (.builtin "list.extend") = pure (.type "method_descriptor") := PySem.F.type_list_extend
end
/-! items of short lists -/
section
variable {α : Type} {x y z : α} {r : List α}
theorem at_0 : atI (x :: r) 0 = some x := by
  unfold atI ixN
  rw [if_pos (by omega), if_pos (by rw [List.length_cons]; omega)]; rfl
theorem at_1 : atI (x :: y :: r) 1 = some y := by
  unfold atI ixN
  rw [if_pos (by omega), if_pos (by rw [List.length_cons, List.length_cons]; omega)]; rfl
theorem at_2 : atI (x :: y :: z :: r) 2 = some z := by
  unfold atI ixN
  rw [if_pos (by omega), if_pos (by rw [List.length_cons, List.length_cons, List.length_cons]; omega)]; rfl
theorem ix_30 : ixN 3 0 = some 0 := rfl
theorem ix_31 : ixN 3 1 = some 1 := rfl
theorem ix_32 : ixN 3 2 = some 2 := rfl
theorem atI_nat {xs : List α} {i : Int} {n : Nat} (hi : i = n) (h : n < xs.length) : atI xs i = some xs[n] := by
  subst hi
  unfold atI ixN
  rw [if_pos (by omega), if_pos (by omega)]
  show xs[((n : Int)).toNat]? = _
  rw [Int.toNat_natCast, List.getElem?_eq_getElem h]
theorem atI_some {xs : List α} {i : Int} {n : Nat} {v : α} (hi : i = n) (h : xs[n]? = some v) : atI xs i = some v := by
  obtain ⟨h1, h2⟩ := List.getElem?_eq_some_iff.mp h
  rw [atI_nat hi h1, h2]
theorem ixN_nat {n k : Nat} {i : Int} (hi : i = k) (h : k < n) : ixN n i = some k := by
  subst hi
  unfold ixN
  rw [if_pos (by omega), if_pos (by omega)]
  simp
end
theorem cm_r {i j : Int} (h : -(2 ^ 64) < j ∧ j < 2 ^ 64) : CMul i j ∨ CMulW i j := .inl (.inr h)
theorem cm_l {i j : Int} (h : -(2 ^ 64) < i ∧ i < 2 ^ 64) : CMul i j ∨ CMulW i j := .inl (.inl h)
/-! loops by the place -/
theorem for_list {gd : DG} {body : DS} {En : DEnds} {E : EK} {xs : List D} {σ : DSt} {M : MH} (J : Nat → DSt → MH → Prop) (h0 : J 0 σ M) (hn : ∀ σ M, J xs.length σ M → En.nx σ M)
    (hs : ∀ i σ M (h : i < xs.length), J i σ M → gd xs[i] σ M (fun σ2 M2 => body { En with nx := J (i + 1), ct := J (i + 1), bk := En.nx } E σ2 M2) E) : ForGo gd body En E xs σ M := by
  refine ⟨fun r σ M => ∃ i, i ≤ xs.length ∧ r = xs.drop i ∧ J i σ M, ⟨0, Nat.zero_le _, rfl, h0⟩, ?_, ?_⟩
  · rintro σ M ⟨i, hi, hr, h⟩
    have := congrArg List.length hr
    simp only [List.length_nil, List.length_drop] at this
    have e : i = xs.length := by omega
    subst e
    exact hn _ _ h
  · rintro x r σ M ⟨i, hi, hr, h⟩
    have hlt : i < xs.length := by
      rcases Nat.lt_or_ge i xs.length with h | h
      · exact h
      · rw [List.drop_eq_nil_of_le h] at hr; cases hr
    rw [List.drop_eq_getElem_cons hlt] at hr
    cases hr
    have key := hs i σ M hlt h
    have e : ∀ σ M, (∃ k, k ≤ xs.length ∧ xs.drop (i + 1) = xs.drop k ∧ J k σ M) = J (i + 1) σ M := fun σ M => propext ⟨fun ⟨k, h1, h2, h3⟩ => by
      have := congrArg List.length h2
      simp only [List.length_drop] at this
      have : k = i + 1 := by omega
      subst this; exact h3, fun h => ⟨i + 1, hlt, rfl, h⟩⟩
    simp only [e]
    exact key
theorem for_range {gd : DG} {body : DS} {En : DEnds} {E : EK} {lo : Int} {n : Nat} {σ : DSt} {M : MH} (J : Nat → DSt → MH → Prop) (h0 : J 0 σ M) (hn : ∀ σ M, J n σ M → En.nx σ M)
    (hs : ∀ (i : Nat) σ M, i < n → J i σ M → gd (.int (lo + i)) σ M (fun σ2 M2 => body { En with nx := J (i + 1), ct := J (i + 1), bk := En.nx } E σ2 M2) E) : ForGo gd body En E (rangeD lo n) σ M := by
  refine for_list J h0 (by rw [rangeD_length]; exact hn) fun i σ M h hJ => ?_
  have hi : i < n := by rwa [rangeD_length] at h
  have e : (rangeD lo n)[i] = .int (lo + (i : Nat)) := by
    have := rangeD_get (lo := lo) hi
    rw [List.getElem?_eq_getElem h] at this
    exact Option.some.inj this
  rw [e]
  exact hs i σ M hi hJ
/-! comprehensions by the place -/
theorem lc_idx {gd : DG} {de : DE} {vs : List Nat} {σ : DSt} {Q : DQ} {xs : List D} {M : MH} (val : Nat → D) (hl : lenOk xs.length)
    (h : ∀ p acc i (hi : i < xs.length) (C : DQ), M p = none → C (val i) (M.put p (.lst acc)) → gd xs[i] (wipeD σ vs) (M.put p (.lst acc)) (fun σ2 M3 => de σ2 M3 C noE) noE) (q : Q (.lst ((List.range xs.length).map val)) M) : LcGo gd dYes de vs σ Q xs M := by
  intro p hp
  refine ⟨fun r M2 => ∃ n, n ≤ xs.length ∧ r = xs.drop n ∧ M2 = M.put p (.lst ((List.range n).map val)), ⟨0, Nat.zero_le _, by simp, by simp⟩, ?_, ?_⟩
  · rintro M2 ⟨n, hn, hr, rfl⟩
    have : n = xs.length := by
      have := congrArg List.length hr
      simp at this; omega
    subst this
    refine ⟨_, MH.put_same, ?_⟩
    rw [MH.del_put hp]; exact q
  · rintro x r M2 ⟨n, hn, hr, rfl⟩
    have hlt : n < xs.length := by
      rcases Nat.lt_or_ge n xs.length with h | h
      · exact h
      · rw [List.drop_eq_nil_of_le h] at hr; cases hr
    rw [List.drop_eq_getElem_cons hlt] at hr
    cases hr
    have key := h p ((List.range n).map val) n hlt (fun y M5 => ∃ acc, M5 p = some (.lst acc) ∧ lenOk (acc.length + 1) ∧ ∃ k, k ≤ xs.length ∧ xs.drop (n + 1) = xs.drop k ∧ M5.put p (.lst (acc ++ [y])) = M.put p (.lst ((List.range k).map val))) hp (by
      refine ⟨_, MH.put_same, ?_, n + 1, hlt, rfl, ?_⟩
      · simp only [List.length_map, List.length_range]
        unfold lenOk at hl ⊢; omega
      · rw [MH.put_put, List.range_succ, List.map_append]; rfl)
    show gd xs[n] (wipeD σ vs) _ (fun σ2 M3 => (true = true → de σ2 M3 _ noE) ∧ (true = false → _)) noE
    have e : (fun (σ2 : DSt) (M3 : MH) => (true = true → de σ2 M3 (fun y M5 => ∃ acc, M5 p = some (.lst acc) ∧ lenOk (acc.length + 1) ∧ ∃ k, k ≤ xs.length ∧ xs.drop (n + 1) = xs.drop k ∧ M5.put p (.lst (acc ++ [y])) = M.put p (.lst ((List.range k).map val))) noE) ∧ (true = false → ∃ k, k ≤ xs.length ∧ xs.drop (n + 1) = xs.drop k ∧ M3 = M.put p (.lst ((List.range k).map val)))) = fun σ2 M3 => de σ2 M3 (fun y M5 => ∃ acc, M5 p = some (.lst acc) ∧ lenOk (acc.length + 1) ∧ ∃ k, k ≤ xs.length ∧ xs.drop (n + 1) = xs.drop k ∧ M5.put p (.lst (acc ++ [y])) = M.put p (.lst ((List.range k).map val))) noE := by
      funext σ2 M3
      simp
    rw [e]; exact key
theorem lc_range {gd : DG} {de : DE} {vs : List Nat} {σ : DSt} {Q : DQ} {lo : Int} {n : Nat} {M : MH} (val : Nat → D) (hl : lenOk n)
    (h : ∀ p acc i (C : DQ), i < n → M p = none → C (val i) (M.put p (.lst acc)) → gd (.int (lo + (i : Nat))) (wipeD σ vs) (M.put p (.lst acc)) (fun σ2 M3 => de σ2 M3 C noE) noE) (q : Q (.lst ((List.range n).map val)) M) : LcGo gd dYes de vs σ Q (rangeD lo n) M := by
  refine lc_idx val (by rw [rangeD_length]; exact hl) (fun p acc i hi C hp hC => ?_) (by rw [rangeD_length]; exact q)
  have hi' : i < n := by rwa [rangeD_length] at hi
  have e : (rangeD lo n)[i] = .int (lo + (i : Nat)) := by
    have := rangeD_get (lo := lo) hi'
    rw [List.getElem?_eq_getElem hi] at this
    exact Option.some.inj this
  rw [e]
  exact h p acc i C hi' hp hC
theorem lc_enum {gd : DG} {de : DE} {vs : List Nat} {σ : DSt} {Q : DQ} {xs : List D} {M : MH} (val : Nat → D) (hl : lenOk xs.length)
    (h : ∀ p acc i (hi : i < xs.length) (C : DQ), M p = none → C (val i) (M.put p (.lst acc)) → gd (.wtp [.int (i : Nat), xs[i]]) (wipeD σ vs) (M.put p (.lst acc)) (fun σ2 M3 => de σ2 M3 C noE) noE) (q : Q (.lst ((List.range xs.length).map val)) M) : LcGo gd dYes de vs σ Q (enumD xs) M := by
  refine lc_idx val (by rw [enumD_length]; exact hl) (fun p acc i hi C hp hC => ?_) (by rw [enumD_length]; exact q)
  have hi' : i < xs.length := by rwa [enumD_length] at hi
  have e : (enumD xs)[i] = .wtp [.int (i : Nat), xs[i]] := by
    have := enumD_get (List.getElem?_eq_getElem hi')
    rw [List.getElem?_eq_getElem hi] at this
    exact Option.some.inj this
  rw [e]
  exact h p acc i hi' C hp hC
/-! comprehensions whose turns lay new things -/
theorem lc_grow {gd : DG} {de : DE} {vs : List Nat} {σ : DSt} {Q : DQ} {xs : List D} {M : MH} (val : Nat → D) (hl : lenOk xs.length)
    (h : ∀ p acc i (hi : i < xs.length) (C : DQ) M', M p = none → MH.Le (M.put p (.lst acc)) M' → (∀ M2, MH.Le (M.put p (.lst acc)) M2 → C (val i) M2) → gd xs[i] (wipeD σ vs) M' (fun σ2 M3 => de σ2 M3 C noE) noE)
    (q : ∀ M', MH.Le M M' → Q (.lst ((List.range xs.length).map val)) M') : LcGo gd dYes de vs σ Q xs M := by
  intro p hp
  refine ⟨fun r M2 => ∃ n, n ≤ xs.length ∧ r = xs.drop n ∧ MH.Le (M.put p (.lst ((List.range n).map val))) M2, ⟨0, Nat.zero_le _, by simp, MH.Le.refl⟩, ?_, ?_⟩
  · rintro M2 ⟨n, hn, hr, le⟩
    have : n = xs.length := by
      have := congrArg List.length hr
      simp at this; omega
    subst this
    refine ⟨_, le _ _ MH.put_same, q _ (MH.Le.del (MH.Le.trans (MH.Le.put .refl hp) le) hp)⟩
  · rintro x r M2 ⟨n, hn, hr, le⟩
    have hlt : n < xs.length := by
      rcases Nat.lt_or_ge n xs.length with h | h
      · exact h
      · rw [List.drop_eq_nil_of_le h] at hr; cases hr
    rw [List.drop_eq_getElem_cons hlt] at hr
    cases hr
    have key := h p ((List.range n).map val) n hlt (fun y M5 => ∃ acc, M5 p = some (.lst acc) ∧ lenOk (acc.length + 1) ∧ ∃ k, k ≤ xs.length ∧ xs.drop (n + 1) = xs.drop k ∧ MH.Le (M.put p (.lst ((List.range k).map val))) (M5.put p (.lst (acc ++ [y])))) M2 hp le (by
      intro M5 le5
      refine ⟨_, le5 _ _ MH.put_same, ?_, n + 1, hlt, rfl, ?_⟩
      · simp only [List.length_map, List.length_range]
        unfold lenOk at hl ⊢; omega
      · rw [List.range_succ, List.map_append]
        have := MH.Le.put2 (a := p) (o := .lst ((List.range n).map val ++ [val n])) le5
        rw [MH.put_put] at this
        exact this)
    show gd xs[n] (wipeD σ vs) _ (fun σ2 M3 => (true = true → de σ2 M3 _ noE) ∧ (true = false → _)) noE
    have e : (fun (σ2 : DSt) (M3 : MH) => (true = true → de σ2 M3 (fun y M5 => ∃ acc, M5 p = some (.lst acc) ∧ lenOk (acc.length + 1) ∧ ∃ k, k ≤ xs.length ∧ xs.drop (n + 1) = xs.drop k ∧ MH.Le (M.put p (.lst ((List.range k).map val))) (M5.put p (.lst (acc ++ [y])))) noE) ∧ (true = false → ∃ k, k ≤ xs.length ∧ xs.drop (n + 1) = xs.drop k ∧ MH.Le (M.put p (.lst ((List.range k).map val))) M3)) = fun σ2 M3 => de σ2 M3 (fun y M5 => ∃ acc, M5 p = some (.lst acc) ∧ lenOk (acc.length + 1) ∧ ∃ k, k ≤ xs.length ∧ xs.drop (n + 1) = xs.drop k ∧ MH.Le (M.put p (.lst ((List.range k).map val))) (M5.put p (.lst (acc ++ [y])))) noE := by
      funext σ2 M3
      simp
    rw [e]; exact key
theorem lc_grow_range {gd : DG} {de : DE} {vs : List Nat} {σ : DSt} {Q : DQ} {lo : Int} {n : Nat} {M : MH} (val : Nat → D) (hl : lenOk n)
    (h : ∀ p acc i (C : DQ) M', i < n → M p = none → MH.Le (M.put p (.lst acc)) M' → (∀ M2, MH.Le (M.put p (.lst acc)) M2 → C (val i) M2) → gd (.int (lo + (i : Nat))) (wipeD σ vs) M' (fun σ2 M3 => de σ2 M3 C noE) noE)
    (q : ∀ M', MH.Le M M' → Q (.lst ((List.range n).map val)) M') : LcGo gd dYes de vs σ Q (rangeD lo n) M := by
  refine lc_grow val (by rw [rangeD_length]; exact hl) (fun p acc i hi C M' hp le hC => ?_) (by rw [rangeD_length]; exact q)
  have hi' : i < n := by rwa [rangeD_length] at hi
  have e : (rangeD lo n)[i] = .int (lo + (i : Nat)) := by
    have := rangeD_get (lo := lo) hi'
    rw [List.getElem?_eq_getElem hi] at this
    exact Option.some.inj this
  rw [e]
  exact h p acc i C M' hi' hp le hC
/-! rows of ints as data -/
theorem ok_ints (ns : List Int) : okN 50 (.lst (ns.map .int)) := by
  show ∀ x ∈ ns.map D.int, okN 49 x
  intro x hx
  obtain ⟨i, _, rfl⟩ := List.mem_map.mp hx
  simp [okN]
theorem ok_intsT (ns : List Int) : okN 50 (.tup (ns.map .int)) := by
  show ∀ x ∈ ns.map D.int, okN 49 x
  intro x hx
  obtain ⟨i, _, rfl⟩ := List.mem_map.mp hx
  simp [okN]
theorem eqDL_refl_ints : ∀ ns : List Int, eqDL (ns.map .int) (ns.map .int) = true
  | [] => by simp [eqDL]
  | n :: ns => by simp [eqDL, eqD, eqDL_refl_ints ns]
theorem eqD_ints (ns : List Int) : eqD (.lst (ns.map .int)) (.lst (ns.map .int)) = true := by
  simp only [eqD]; exact eqDL_refl_ints ns
theorem pyL_ints (ns : List Int) : D.pyL (ns.map .int) = ns.map PyData.int := by
  rw [pyL_map, List.map_map]; rfl
theorem showable_ints (ns : List Int) (h : ∀ x ∈ ns, x.natAbs.log2 < 1920) : PyData.showableAll (ns.map PyData.int) = true := by
  induction ns with
  | nil => rfl
  | cons n ns ih =>
    rw [List.map_cons]
    simp only [PyData.showableAll, PyData.showable]
    rw [ih fun x hx => h x (List.mem_cons_of_mem _ hx), decide_eq_true (h n List.mem_cons_self)]; rfl
theorem hasDict_ints : ∀ ns : List Int, PyData.hasDictAll (ns.map PyData.int) = false
  | [] => rfl
  | n :: ns => by simp [PyData.hasDictAll, PyData.hasDict, hasDict_ints ns]
/-! what may be shown -/
mutual
def fitsD (k : Nat) : D → Bool
  | .non => true
  | .bl _ => true
  | .int i => decide (i.natAbs.log2 < k)
  | .str x => PyData.strOk x
  | .tup xs => fitsL k xs
  | .lst xs => fitsL k xs
  | _ => false
def fitsL (k : Nat) : List D → Bool
  | [] => true
  | x :: xs => fitsD k x && fitsL k xs
end
mutual
def bulkD : D → Nat
  | .str x => x.cps.size
  | .tup xs => bulkL xs
  | .lst xs => bulkL xs
  | _ => 0
def bulkL : List D → Nat
  | [] => 0
  | x :: xs => bulkD x + 1 + bulkL xs
end
theorem shown_int_len {i : Int} {k : Nat} (hk : k ≤ 1920) (h : i.natAbs.log2 < k) : (PyData.shown (.int i)).length ≤ k + 10 := by
  have e := int_text_length_le (k := k) (by omega) h
  simp only [PyData.shown]
  rw [show ((toString i : String) : Str) = Str.ofString (toString i) from rfl, PySem.ofString_length]
  omega
mutual
theorem fits_show (k : Nat) (hk : k ≤ 1920) : ∀ d : D, fitsD k d = true → d.py.showable = true ∧ d.py.hasDict = false ∧ d.py.leavesShort (k + 10) = true ∧ d.py.bulk = bulkD d
  | .non, _ => by simp [D.py, PyData.showable, PyData.hasDict, PyData.leavesShort, PyData.bulk, bulkD]
  | .bl _, _ => by simp [D.py, PyData.showable, PyData.hasDict, PyData.leavesShort, PyData.bulk, bulkD]
  | .int i, h => by
    have h' : i.natAbs.log2 < k := by simpa [fitsD] using h
    refine ⟨?_, ?_, ?_, ?_⟩
    · simp only [D.py, PyData.showable]; exact decide_eq_true (by omega)
    · simp [D.py, PyData.hasDict]
    · simp only [D.py, PyData.leavesShort]; exact decide_eq_true (shown_int_len hk h')
    · simp [D.py, PyData.bulk, bulkD]
  | .str x, h => by
    have h' : PyData.strOk x = true := by simpa [fitsD] using h
    refine ⟨?_, ?_, ?_, ?_⟩
    · simp [D.py, PyData.showable]
    · simp [D.py, PyData.hasDict]
    · simp only [D.py, PyData.leavesShort, List.all_eq_true, decide_eq_true_eq]
      intro c hc
      have := (Array.all_eq_true_iff_forall_mem.mp h') c (Array.mem_toList_iff.mp hc)
      have : c < 0x110000 := by simpa using this
      omega
    · simp [D.py, PyData.bulk, bulkD]
  | .tup xs, h => by
    obtain ⟨h1, h2, h3, h4⟩ := fitsL_show k hk xs (by simpa [fitsD] using h)
    simp only [D.py, PyData.showable, PyData.hasDict, PyData.leavesShort, PyData.bulk, bulkD]
    exact ⟨h1, h2, h3, h4⟩
  | .lst xs, h => by
    obtain ⟨h1, h2, h3, h4⟩ := fitsL_show k hk xs (by simpa [fitsD] using h)
    simp only [D.py, PyData.showable, PyData.hasDict, PyData.leavesShort, PyData.bulk, bulkD]
    exact ⟨h1, h2, h3, h4⟩
  | .dk _ _, h => by simp [fitsD] at h
  | .dt _ _, h => by simp [fitsD] at h
  | .obj _ _ _, h => by simp [fitsD] at h
  | .ref _, h => by simp [fitsD] at h
  | .scr _, h => by simp [fitsD] at h
  | .wtp _, h => by simp [fitsD] at h
theorem fitsL_show (k : Nat) (hk : k ≤ 1920) : ∀ xs : List D, fitsL k xs = true → PyData.showableAll (D.pyL xs) = true ∧ PyData.hasDictAll (D.pyL xs) = false ∧ PyData.leavesShortAll (k + 10) (D.pyL xs) = true ∧ PyData.bulkAll (D.pyL xs) = bulkL xs
  | [], _ => by simp [D.pyL, PyData.showableAll, PyData.hasDictAll, PyData.leavesShortAll, PyData.bulkAll, bulkL]
  | x :: xs, h => by
    have h' : fitsD k x = true ∧ fitsL k xs = true := by simpa [fitsL] using h
    obtain ⟨h1, h2, h3, h4⟩ := fits_show k hk x h'.1
    obtain ⟨h5, h6, h7, h8⟩ := fitsL_show k hk xs h'.2
    simp only [D.pyL, PyData.showableAll, PyData.hasDictAll, PyData.leavesShortAll, PyData.bulkAll, bulkL, h1, h2, h3, h4, h5, h6, h7, h8]
    simp
end
theorem showB_of {d : D} (k : Nat) (hk : k ≤ 1920) (h : fitsD k d = true) (hb : (k + 12) * bulkD d + (k + 10) ≤ 16000000) : showB d = true := by
  obtain ⟨h1, h2, h3, h4⟩ := fits_show k hk d h
  have := PyData.shown_le_bulk (k + 10) (by omega) d.py h3
  rw [h4, show k + 10 + 2 = k + 12 from rfl] at this
  unfold showB
  rw [h1, h2, decide_eq_true (by omega)]; rfl
theorem fits_ints {k : Nat} : ∀ {ns : List Int}, (∀ x ∈ ns, x.natAbs.log2 < k) → fitsL k (ns.map .int) = true
  | [], _ => by simp [fitsL]
  | n :: ns, h => by
    rw [List.map_cons, fitsL, fits_ints fun x hx => h x (List.mem_cons_of_mem _ hx), fitsD, decide_eq_true (h n List.mem_cons_self)]; rfl
theorem bulk_ints : ∀ ns : List Int, bulkL (ns.map .int) = ns.length
  | [] => by simp [bulkL]
  | n :: ns => by
    have e : bulkD (.int n) = 0 := by simp [bulkD]
    rw [List.map_cons, bulkL, bulk_ints ns, e, List.length_cons]; omega
theorem showB_intsT {ns : List Int} (h : ∀ x ∈ ns, x.natAbs.log2 < 1920) (hl : ns.length ≤ 5000) : showB (.tup (ns.map .int)) = true :=
  showB_of 1920 (by omega) (by rw [fitsD]; exact fits_ints h) (by rw [bulkD, bulk_ints]; omega)
theorem showB_intsL {ns : List Int} (h : ∀ x ∈ ns, x.natAbs.log2 < 1920) (hl : ns.length ≤ 5000) : showB (.lst (ns.map .int)) = true :=
  showB_of 1920 (by omega) (by rw [fitsD]; exact fits_ints h) (by rw [bulkD, bulk_ints]; omega)
theorem MH.put_self {M : MH} {a : Addr} {o : MO} (h : M a = some o) : M.put a o = M := by
  funext b
  unfold MH.put
  split
  · rename_i e; subst e; exact h.symm
  · rfl
end DL

/-! The deep layer, part m: own classes: made, properties, len, ==, !=, str. -/
namespace DL
open PySem PySem.Spec PyProof.Rows L2
section
variable {Ω : Wl} {τ : Sx} {X : Cx} {a b c e o tg iter elt : Expr} {es rest ifs : List Expr} {da db dc de : DE} {ta tb dt : DT} {tl tr : DA} {pos p p2 apos : Pos} {x m : Str} {vs : List Nat} {gs : List Str} {id T : String} {f : Addr} {C : Str} {fd : FuncData} {k : Nat} {ps ks : List Str} {sp : DSp} {st : Stmt} {N : List Str} {d : DS} {qual : Str}

theorem under_guards {A : Around} {C : Addr} {us : List Value} {kw : List (Str × Value)} : (A.under (.builtin "type.__call__" ⟨.ref C :: us, kw⟩)).guards = A.guards := by
  simp only [Around.under, Code.guards]
  cases A.guards <;> simp [pushGuards, Code.isGuard, guardIds]
theorem under_frames {A : Around} {C : Addr} {us : List Value} {kw : List (Str × Value)} : (A.under (.builtin "type.__call__" ⟨.ref C :: us, kw⟩)).frames = A.frames := by
  simp only [Around.under, Code.envs, Code.isFrame, pushEnvs]
  cases A.frames <;> simp
/-- no exception comes of an empty wish -/
theorem cx_no {P : Program} {w : World} {out : List Env} {H : Hp} {s : Shared} {e : Value} {s' : Shared} (h : L2N.CX P w out H s (fun _ _ _ => False) e s') : False := by
  obtain ⟨_, _, _, _, _, _, _, _, _, h⟩ := h
  exact (by simpa using h)
/-- a call of a def that raises nothing, anywhere within -/
theorem run_at (ft : Fit Ω τ X) (F : Okd Ω f fd k ps sp) {A : Around} (room : Room k A) (gd : A.guards = some []) (fr : A.frames = some X.stack) (hb : Binds Ω.K fd ps []) {pins : List (Addr × Obj)} {σ : L2.St} {H : Hp} {s : Shared} {Q : VK} {us : List Value} {ws : List V} {E' : Value → Shared → Prop} (I : Inv X pins σ H s) (rv : Vals ws us)
    (h : lift X.K ps.length sp ws H Q fun _ _ _ => False) : codeAny (model X.prog X.w) A (.call (.ref f) ⟨us, []⟩) (fun r s' => match r with
      | .ok (.ret u) => EP X pins σ Q u s'
      | .ok _ => False
      | .error e => E' e s') s := by
  have hl : us.length = ps.length := rv.length.symm.trans ((fit_ok ft F).size _ _ _ _ h)
  have bn := hb s us (by rw [← ft.K]; exact I.kIn) (by rw [List.append_nil]; exact hl)
  rw [List.append_nil] at bn
  have e0 := I.env0
  refine codeAny_mono ((fit_ok ft F).go A X.stack s H ⟨us, []⟩ us ws Q _ room gd ⟨fr, e0.mod, e0.bs, e0.bsz, e0.funs, e0.frf, e0.hok, e0.bare⟩ bn rv h) ?_
  rintro (e | fl) t z
  · exact (cx_no z).elim
  · cases fl <;> first | exact I.after z | exact False.elim z
theorem call_at (ft : Fit Ω τ X) (F : Okd Ω f fd k ps sp) {A : Around} (room : Room k A) (gd : A.guards = some []) (fr : A.frames = some X.stack) (hb : Binds Ω.K fd ps []) {pins : List (Addr × Obj)} {σ : L2.St} {H : Hp} {s : Shared} {Q : VK} {us : List Value} {ws : List V} {E' : Value → Shared → Prop} (I : Inv X pins σ H s) (rv : Vals ws us)
    (h : lift X.K ps.length sp ws H Q fun _ _ _ => False) : wpAny (model X.prog X.w) A (call (.ref f) us) (EP X pins σ Q) E' s := by
  refine wpAny_call (codeAny_mono (run_at (E' := E') ft F room gd fr hb I rv h) ?_)
  rintro (e | fl) t z
  · exact z
  · cases fl <;> first | exact z | exact False.elim z
theorem lift_no {K : PySem.W.Frag} {F M} {H : Hp} {ws : List V} {ds : List D} {Q : DQ} {n : Nat} (g : G K F M H) (r : RpL K F ws ds) (hl : ds.length = n) (h : sp ds M Q fun _ _ => False) : lift K n sp ws H (LQ K F Q) fun _ _ _ => False :=
  ⟨F, M, ds, Q, _, g, r, hl, h, fun y M' v H' F' e g' rv q => ⟨F', M', y, e, g', rv, q⟩, fun er M' cls d H' F' e g' ok q => q.elim⟩

/-! ### C(..) -/
def CalI (Ω : Wl) (C : Str) (k : Nat) (ps : List Str) (sp : DSp) : Prop := ∃ f fd, Okd Ω f fd k ps sp ∧ Mk Ω.K (clsA Ω.K C) f ∧ Binds Ω.K fd ps [] ∧ Ω.mg C = some (.ref (clsA Ω.K C))
def StdI (Ω : Wl) (C qual : Str) (ps : List Str) (st : Stmt) : Prop := ∃ f fd, Fun Ω.K "__init__" qual st f fd ∧ Mk Ω.K (clsA Ω.K C) f ∧ Binds Ω.K fd ps [] ∧ Ω.mg C = some (.ref (clsA Ω.K C))
theorem calI_mk (h0 : StdI Ω C qual ps st) (S : FnScope N ps (defScope st)) (hb : DPSs Ω (Sx.fn N (defScope st) k) (defBody st) d) (h : ∀ ds M Q E, ds.length = ps.length → sp ds M Q E → d (ends Q) (fun er _ M => E er M) (dstart N ds) M) : CalI Ω C (k + 1) ps sp := by
  obtain ⟨f, fd, F, hm, b, g⟩ := h0
  exact ⟨f, fd, okd_mk F S hb h, hm, b, g⟩
/-- the new instance changes; __init__ fills it -/
def dMake (C : Str) (n : Nat) (sp : DSp) (t : DA) : DE := fun σ M Q E => t σ M (fun ds M1 => ds.length + 1 = n ∧ ∀ x, M1 x = none → sp (.ref x :: ds) (M1.put x (.ins C [] [])) (fun v M2 => v = .non ∧ Q (.ref x) M2) fun er M2 => E er σ M2) E
theorem g_made {K : PySem.W.Frag} {F H : Hp} {M : MH} (g : G K F M H) {a dx : Addr} (h1 : H a = none) (h2 : H dx = none) (hne : dx ≠ a) : G K F (M.put a (.ins C [] [])) (upd (upd H dx (.own a)) a (.ins (clsA K C) dx [])) := by
  have hd := g.fresh h2
  have g1 : G K F M (upd H dx (.own a)) := ⟨g.ex.mut hd.1, fun b u q => by
    have nb : b ≠ dx := fun z => by rw [z, hd.2] at q; cases q
    obtain ⟨q1, q2⟩ := g.mo b u q
    exact ⟨q1, q2.mono (Ex.refl F) (upd_ne nb)⟩⟩
  exact g1.newM (by rw [upd_ne hne.symm]; exact h1) (o := .ins (clsA K C) dx []) (u := .ins C [] []) ⟨dx, [], upd_same, rfl, .nil⟩
theorem run_made (ft : Fit Ω τ X) {f : Addr} (Mc : Mk X.K (clsA X.K C) f) (F : Okd Ω f fd k ps sp) (hk : k + 1 ≤ τ.k) (hb : Binds Ω.K fd ps []) {F0 : Hp} {E : EK} (tk : TkD X F0 E) {pins : List (Addr × Obj)} {σ : L2.St} {σ' : DSt} {H : Hp} {F1 : Hp} {M1 : MH} {s : Shared} {Q : DQ} {us : List Value} {ws : List V} {ds : List D}
    (I : Inv X pins σ H s) (rv : Vals ws us) (e0 : Ex F0 F1) (g : G X.K F1 M1 H) (rs : RpS X.K F1 σ σ') (r : RpL X.K F1 ws ds) (hl : ds.length + 1 = ps.length)
    (h : ∀ x, M1 x = none → sp (.ref x :: ds) (M1.put x (.ins C [] [])) (fun v M2 => v = .non ∧ Q (.ref x) M2) fun er M2 => E er σ' M2) :
    wpAny (model X.prog X.w) X.A (call (.ref (clsA X.K C)) us) (EP X pins σ (LQ X.K F1 Q)) X.xe s := by
  have n1 : H (s.heap.objs.size + 1) = none := I.hok.fresh (Nat.le_succ _)
  have n2 : H s.heap.objs.size = none := I.hok.fresh (Nat.le_refl _)
  have ne : s.heap.objs.size ≠ s.heap.objs.size + 1 := Nat.ne_of_lt (Nat.lt_succ_self _)
  have J := Inv.made (C := clsA X.K C) I
  have g2 := g_made (C := C) g n1 n2 ne
  have hq := h _ (g.fresh n1).2
  have wish : lift X.K ps.length sp (V.ref (s.heap.objs.size + 1) :: ws) (upd (upd H s.heap.objs.size (.own (s.heap.objs.size + 1))) (s.heap.objs.size + 1) (.ins (clsA X.K C) s.heap.objs.size [])) (fun v H2 => v = .non ∧ LQ X.K F1 Q (.ref (s.heap.objs.size + 1)) H2) (WE (LX X.K F0 E) σ) := by
    refine ⟨F1, _, .ref (s.heap.objs.size + 1) :: ds, _, _, g2, .cons (.ref _) r, by rw [List.length_cons]; exact hl, hq, ?_, fun er M' cls d H' F' e g' ok q => ⟨F', M', σ', er, e0.trans e, g', rs.mono e, ok, q⟩⟩
    rintro y M' v H' F' e g' rv ⟨rfl, q⟩
    cases rv
    exact ⟨rfl, F', M', _, e, g', .ref _, q⟩
  have rv2 : Vals (V.ref (s.heap.objs.size + 1) :: ws) (Value.ref (s.heap.objs.size + 1) :: us) := .cons rfl rv
  have hz : (Value.ref (s.heap.objs.size + 1) :: us).length = ps.length := rv2.length.symm.trans ((fit_ok ft F).size _ _ _ _ wish)
  have bn := hb _ (Value.ref (s.heap.objs.size + 1) :: us) (by rw [← ft.K]; exact J.kIn) (by rw [List.append_nil]; exact hz)
  rw [List.append_nil] at bn
  have room : Room (k + 1) X.A := ft.room.mono hk
  refine wpAny_call (make_map (f := f) I.kIn Mc.makes Mc.init (beq_iff_eq.mp Mc.fn) (codeAny_mono ((fit_ok ft F).go _ X.stack _ _ ⟨Value.ref (s.heap.objs.size + 1) :: us, []⟩ _ _ _ _ (room.make _ us []) (under_guards.trans ft.gd) (J.env0.make _ us []) bn rv2 wish) ?_))
  rintro (e | fl) t z
  · exact L2N.passAt tk σ pins _ _ e t J z
  · cases fl <;> first | exact False.elim z | skip
    rename_i u
    obtain ⟨v, H', J2, rz, rfl, q⟩ := J.after z
    exact ⟨rz, .ref (s.heap.objs.size + 1), H', J2, rfl, q⟩
theorem dp_make (c : CalI Ω C k ps sp) (S : ScOk τ.N vs gs τ.sc) (ha : DPA Ω τ (e :: es) tl) (hg : C ∈ gs := by decide) (hk : k + 1 ≤ τ.k := by decide) (hdb : (C == ("__debug__" : Str)) = false := by decide)
    (he : ∀ env, starEach (e :: es) env = (false, eval e env) :: starEach es env := by intro _; rfl) (hpl : ∀ env, (backTo pos (starEach es env)).any (·.1) = false := by intro _; rfl) : DP Ω τ (.Call (.Name C p) (e :: es) [] pos) (dMake C ps.length sp tl) := Hd.mk fun X ft F0 E tk F M H σ σ' Q e0 g r h pins s I => by
  obtain ⟨f, fd, F1, Mc, hb, hm⟩ := c
  rw [← ft.K] at Mc hm
  refine wpAny_Call_Name_kw (ld_glob I (fit_gl ft S hg) (by rw [ft.mg]; exact hm) ?_ hdb)
  refine PySem.W.callWith_K (h₀ := X.base) I.ok.mod.kin Mc.kp (thn (ha.run X ft F0 E tk F M H σ σ' _ e0 g r h pos pins s I) ?_) (he _) (hpl _)
  rintro us s1 ⟨ws, H1, I1, rv, F2, M2, ds, e2, g2, r2, hl, q⟩
  refine ⟨I1.kIn, thn (run_made ft Mc F1 hk hb tk I1 rv (e0.trans e2) g2 (r.mono e2) r2 hl q) ?_⟩
  rintro u s2 ⟨v, H2, I2, rv2, q2⟩
  exact ⟨v, H2, I2, rv2, LQ.back e2 q2⟩

/-! ### properties -/
def CalP (Ω : Wl) (C m : Str) (k : Nat) (sp : DSp) : Prop := ∃ p g fd, PropOf Ω.K (clsA Ω.K C) m p g ∧ Okd Ω g fd k ["self"] sp ∧ Binds Ω.K fd ["self"] []
def StdP (Ω : Wl) (C m qual : Str) (st : Stmt) : Prop := ∃ p g fd, PropOf Ω.K (clsA Ω.K C) m p g ∧ Fun Ω.K m qual st g fd ∧ Binds Ω.K fd ["self"] []
theorem calP_mk (h0 : StdP Ω C m qual st) (S : FnScope N ["self"] (defScope st)) (hb : DPSs Ω (Sx.fn N (defScope st) k) (defBody st) d) (h : ∀ ds M Q E, ds.length = 1 → sp ds M Q E → d (ends Q) (fun er _ M => E er M) (dstart N ds) M) : CalP Ω C m (k + 1) sp := by
  obtain ⟨p, g, fd, P, F, b⟩ := h0
  exact ⟨p, g, fd, P, okd_mk F S hb h, b⟩
def dProp (C : Str) (sp : DSp) (de : DE) : DE := fun σ M Q E => de σ M (fun x M1 => insD C x M1 fun _ _ => sp [x] M1 Q fun _ _ => False) E
theorem dp_prop (c : CalP Ω C m k sp) (hC : Cls Ω.K (clsA Ω.K C)) (he : DP Ω τ e de) (hk : k + 1 ≤ τ.k := by decide) (hab : ∀ env, attributeBase e m env (eval e env) = eval e env := by intro _; rfl) : DP Ω τ (.Attribute e m pos) (dProp C sp de) := Hd.mk fun X ft F0 E tk F M H σ σ' Q e0 g r h pins s I => by
  obtain ⟨pp, gg, fd, hp, F1, hb⟩ := c
  rw [← ft.K] at hp hC
  refine attr_of (hab _) (thn (he.run X ft F0 E tk F M H σ σ' _ e0 g r h pins s I) ?_)
  rintro u s1 ⟨v, H1, I1, rv, F2, M1, y, e1, g1, r1, q⟩
  obtain ⟨q0, dx, fvs, ns, fs, rfl, h1, h2, h3, h4⟩ := insD_ok g1 r1 q
  obtain rfl : u = Value.ref q0 := rv
  obtain ⟨mA, O, _, _, _, _⟩ := ins_get I1.hok h1
  obtain ⟨od, J, _⟩ := O.look
  obtain ⟨rest, hrec⟩ := hp.rec_
  have I2 := I1.tok (s1.toks + 1)
  have hc : (PySem.W.clsIn X.K (clsA X.K C)).isSome = true := (PySem.W.any_some hC.hd).elim fun cd z => by rw [z.1]; rfl
  have room : Room (k + 1) X.A := ft.room.mono hk
  refine PySem.W.get_bind I1.kIn J (PySem.W.plainGet_of (hC.get m)).1 (PySem.W.findObj_data hc hp.at_ hp.get hp.tak) (PySem.W.plainGet_of (hC.get m)).2 (wpAny_call (PySem.W.prop_get (s := { s1 with toks := s1.toks + 1 }) I1.kIn hrec ?_))
  refine codeAny_mono (run_at (A := X.A.in1) (E' := fun _ _ => False) ft F1 room.in1 ft.gd I1.env0.frames hb I2 (ws := [.ref q0]) (.cons rfl .nil) (lift_no (ds := [y]) g1 (.cons r1 .nil) rfl h4)) ?_
  rintro (er | fl) t z
  · exact False.elim z
  · cases fl <;> first | exact False.elim z | skip
    obtain ⟨v, H3, I3, rz, q3⟩ := z
    show wpAny _ _ (handedOut _) _ _ _
    rw [PySem.W.handedOut_of (handed_of rz)]
    exact wpAny_pure ⟨v, H3, I3, rz, LQ.back e1 q3⟩

/-! ### special methods: len, ==, != -/
def CalS (Ω : Wl) (C m : Str) (k : Nat) (ps : List Str) (sp : DSp) : Prop := ∃ f fd, Okd Ω f fd k ps sp ∧ Binds Ω.K fd ps [] ∧ PySem.W.findIn Ω.K (.ref (clsA Ω.K C)) m = some (some (.ref f)) ∧ PySem.W.isFn Ω.K (.ref f) = true
def StdS (Ω : Wl) (C m qual : Str) (ps : List Str) (st : Stmt) : Prop := ∃ f fd, Fun Ω.K m qual st f fd ∧ Binds Ω.K fd ps [] ∧ PySem.W.findIn Ω.K (.ref (clsA Ω.K C)) m = some (some (.ref f)) ∧ PySem.W.isFn Ω.K (.ref f) = true
theorem calS_mk (h0 : StdS Ω C m qual ps st) (S : FnScope N ps (defScope st)) (hb : DPSs Ω (Sx.fn N (defScope st) k) (defBody st) d) (h : ∀ ds M Q E, ds.length = ps.length → sp ds M Q E → d (ends Q) (fun er _ M => E er M) (dstart N ds) M) : CalS Ω C m (k + 1) ps sp := by
  obtain ⟨f, fd, F, b, r⟩ := h0
  exact ⟨f, fd, okd_mk F S hb h, b, r⟩
def isRef : D → Bool
  | .ref _ => true
  | _ => false
/-- len(x) of an own class -/
theorem cb_lenO (c : CalS Ω C "__len__" k ["self"] sp) (ft : Fit Ω τ X) (hk : k + 1 ≤ τ.k) : CallB X (.builtin "len") (ob1 fun d M Q => insD C d M fun _ _ => sp [d] M (fun v M2 => ∃ n : Int, v = .int n ∧ (0 ≤ n ∧ n < 2 ^ 63) ∧ Q (.int n) M2) fun _ _ => False) := callB1 fun F M H v d Q g r q => by
  obtain ⟨f, fd, F1, hb, hs, hf⟩ := c
  rw [← ft.K] at hs hf
  obtain ⟨q0, dx, fvs, ns, fs, rfl, h1, h2, h3, h4⟩ := insD_ok g r q
  intro pins s σ us I rv
  obtain ⟨u, rfl, ru⟩ := rv.one
  obtain rfl : u = Value.ref q0 := ru
  obtain ⟨mA, O, _⟩ := ins_get I.hok h1
  obtain ⟨od, J, _⟩ := O.look
  obtain ⟨m', hF⟩ := I.fr
  have room : Room (k + 1) X.A := ft.room.mono hk
  refine PySem.W.len_K hF I.ok.mod.kin J hs hf (wpAny_mono (call_at (E' := X.xe) ft F1 room.in1 ft.gd I.env0.frames hb I (ws := [.ref q0]) (.cons rfl .nil) (lift_no (ds := [d]) g (.cons r .nil) rfl h4)) ?_ fun _ _ z => z)
  rintro w t ⟨v, H2, I2, rw', F2, M2, y, e2, g2, r2, n, rfl, hn, q2⟩
  cases r2
  obtain ⟨tk, rfl⟩ := rw'
  exact ⟨hn, .int n, H2, I2.tok _, ⟨_, rfl⟩, F2, M2, _, e2, g2, .int n, q2⟩
/-- the type of a value, as the model looks it up -/
def tyIs (C : Str) (d : D) (M : MH) : Prop := insD C d M fun _ _ => True
/-- x == y, x of an own class with __eq__ -/
def eqOwn (C : Str) (sp : DSp) : Op2 := fun x y M Q => insD C x M fun _ _ => insD C y M fun _ _ => sp [x, y] M (fun v M2 => ∃ b, v = .bl b ∧ Q (.bl b) M2) fun _ _ => False
theorem opD_eqO (c : CalS Ω C "__eq__" k ["self", "other"] sp) (ft : Fit Ω τ X) (hk : k ≤ τ.k) : OpD X (compareOp .Eq) (eqOwn C sp) := by
  obtain ⟨f, fd, F1, hb, hs, hf⟩ := c
  rw [← ft.K] at hs hf
  intro F M H x y x' y' Q g rx ry h
  obtain ⟨q0, dx, fvs, ns, fs, rfl, h1, h2, h3, h⟩ := insD_ok g rx h
  obtain ⟨q1, dy, gvs, ms, gs', rfl, k1, k2, k3, h⟩ := insD_ok g ry h
  intro pins s σ v u I rv ru
  obtain rfl : v = Value.ref q0 := rv
  obtain rfl : u = Value.ref q1 := ru
  obtain ⟨mA, O, _⟩ := ins_get I.hok h1
  obtain ⟨mB, O', _⟩ := ins_get I.hok k1
  obtain ⟨od, J, _⟩ := O.look
  obtain ⟨od', J', _⟩ := O'.look
  obtain ⟨m', hF⟩ := I.fr
  refine PySem.W.cmp_K (op := .Eq) (tb := .ref (clsA X.K C)) ft.room.units0 hF I.ok.mod.kin J J'.type (by simp [PySem.W.notFirst]) hs hf ?_
  refine wpAny_mono (call_at (E' := X.xe) ft F1 (ft.room.mono hk) ft.gd I.env0.frames hb I (ws := [.ref q0, .ref q1]) (.cons rfl (.cons rfl .nil)) (lift_no (ds := [x', y']) g (.cons rx (.cons ry .nil)) rfl h)) ?_ fun _ _ z => z
  rintro w t ⟨v, H2, I2, rw', F2, M2, z, e2, g2, r2, b, rfl, q2⟩
  cases r2
  cases rw'
  exact ⟨.bl b, H2, I2, rfl, F2, M2, _, e2, g2, .bl b, q2⟩
theorem entry_neO {M : Model} {A : Around} {E : Value → Shared → Prop} {s : Shared} {K : PySem.W.Frag} {q0 q1 C f : Addr} {ox : Obj} {od : Option Obj} {Q : Fin → Shared → Prop} (hu : A.units < cLine) (X : K.In s.heap) (I : PySem.W.InstAt s.heap q0 ox C od) (hs : PySem.W.findIn K (.ref C) "__eq__" = some (some (.ref f))) (hf : PySem.W.isFn K (.ref f) = true)
    (h : wpAny M A (call (.ref f) [.ref q0, .ref q1]) (fun v s' => ∃ b, v = .bool b ∧ Q (.done (.ret (.bool (!b)))) s') E s) : wpAny M A (Builtin.«object.__ne__» ⟨[.ref q0, .ref q1], []⟩) Q E s := by
  unfold Builtin.«object.__ne__»
  repeat (first
    | with_reducible refine wpAny_cRoomFor hu ?_
    | (refine wpAny_bind (m := callSpecialIfBound? (.ref q0) (Str.ofString "__eq__") [.ref q1]) (PySem.W.ifBound_K X I hs hf (wpAny_mono h (fun r s' hr => by
          obtain ⟨b, rfl, hq⟩ := hr
          repeat (first | exact hq | exact wpAny_pure hq | exact wpAny_truthy_bool hq | (refine wpAny_bind (m := truthy (.bool _)) (wpAny_truthy_bool ?_)) | wp_step)) fun _ _ e => e)))
    | wp_step)
theorem ifBound_ne {M : Model} {A : Around} {E : Value → Shared → Prop} {s : Shared} {K : PySem.W.Frag} {q0 C : Addr} {ox : Obj} {od : Option Obj} {args : List Value} {Q : Option Value → Shared → Prop} (X : K.In s.heap) (I : PySem.W.InstAt s.heap q0 ox C od) (hs : PySem.W.findIn K (.ref C) "__ne__" = some (some (.builtin "object.__ne__")))
    (h : wpAny M A (call (.builtin "object.__ne__") (.ref q0 :: args)) (fun v => Q (some v)) E s) : wpAny M A (callSpecialIfBound? (.ref q0) "__ne__" args) Q E s := by
  simp only [callSpecialIfBound?, bindSpecialIfBound?]
  have last : wpAny M A (call (.builtin "object.__ne__") ([.ref q0] ++ args) >>= fun v => pure (some v)) Q E s := wpAny_bind (wpAny_mono h (fun v t z => wpAny_pure z) fun _ _ z => z)
  refine wpAny_holding (wpAny_bind (wpAny_bind (wpAny_bind (I.type.here ((PySem.W.looks_findIn X hs).here (wpAny_bind (wpAny_askSetting (wpAny_ite ?_))))))))
  split
  · exact wpAny_bind (wpAny_of_eq (PySem.F.cmp_object.ne.bind _) (wpAny_pure (by exact last)))
  · exact wpAny_tryCatch (wpAny_bind (wpAny_of_eq (PySem.F.cmp_object.ne.bind _) (wpAny_pure (by exact last))))
def neOwn (C : Str) (sp : DSp) : Op2 := fun x y M Q => insD C x M fun _ _ => insD C y M fun _ _ => sp [x, y] M (fun v M2 => ∃ b, v = .bl b ∧ Q (.bl (!b)) M2) fun _ _ => False
theorem opD_neO (c : CalS Ω C "__eq__" k ["self", "other"] sp) (hne : PySem.W.findIn Ω.K (.ref (clsA Ω.K C)) "__ne__" = some (some (.builtin "object.__ne__"))) (hmro : PySem.W.mroIn Ω.K (clsA Ω.K C) (.type "object") = some true) (ft : Fit Ω τ X) (hk : k + 1 ≤ τ.k) : OpD X (compareOp .NotEq) (neOwn C sp) := by
  obtain ⟨f, fd, F1, hb, hs, hf⟩ := c
  rw [← ft.K] at hs hf hne hmro
  intro F M H x y x' y' Q g rx ry h
  obtain ⟨q0, dx, fvs, ns, fs, rfl, h1, h2, h3, h⟩ := insD_ok g rx h
  obtain ⟨q1, dy, gvs, ms, gs', rfl, k1, k2, k3, h⟩ := insD_ok g ry h
  intro pins s σ v u I rv ru
  obtain rfl : v = Value.ref q0 := rv
  obtain rfl : u = Value.ref q1 := ru
  obtain ⟨mA, O, _⟩ := ins_get I.hok h1
  obtain ⟨mB, O', _⟩ := ins_get I.hok k1
  obtain ⟨od, J, _⟩ := O.look
  obtain ⟨od', J', _⟩ := O'.look
  have room : Room (k + 1) X.A := ft.room.mono hk
  have ask : wpAny (model X.prog X.w) X.A.in1 (call (.ref f) [.ref q0, .ref q1]) (fun r t => ∃ b, r = Value.bool b ∧ EP X pins σ (LQ X.K F Q) (.bool (!b)) t) X.xe s := by
    refine wpAny_mono (call_at (E' := X.xe) ft F1 room.in1 ft.gd I.env0.frames hb I (ws := [.ref q0, .ref q1]) (.cons rfl (.cons rfl .nil)) (lift_no (ds := [x', y']) g (.cons rx (.cons ry .nil)) rfl h)) ?_ fun _ _ z => z
    rintro w t ⟨v, H2, I2, rw', F2, M2, z, e2, g2, r2, b, rfl, q2⟩
    cases r2
    cases rw'
    exact ⟨b, rfl, .bl (!b), H2, I2, rfl, F2, M2, _, e2, g2, .bl _, q2⟩
  have one : wpAny (model X.prog X.w) X.A (tryCompare (.ref q0) "__ne__" (.ref q1)) (fun r t => ∃ b, r = some (Value.bool b) ∧ EP X pins σ (LQ X.K F Q) (.bool b) t) X.xe s := by
    unfold tryCompare
    refine wpAny_bind (ifBound_ne I.kIn J hne (wpAny_call (codeAny_call_builtin PySem.F.cmp_object.ne.plain PySem.F.cmpEntry_ne (PySem.W.check_slot PySem.F.cmpKind_ne PySem.F.cmpSplit_ne (J.type.andThen (PySem.W.looks_mroIn I.kIn hmro)) (PySem.F.cmpArgs_ne _ _) (entry_neO (by have := room.in1.units0; exact this) I.kIn J hs hf (wpAny_mono ask ?_ fun _ _ z => z))))))
    rintro r t ⟨b, rfl, q⟩
    first | exact ⟨b, rfl, wpAny_pure ⟨_, rfl, q⟩⟩ | exact ⟨b, rfl, wpAny_pure (wpAny_pure ⟨_, rfl, q⟩)⟩ | exact ⟨b, rfl, _, rfl, q⟩
  show wpAny _ _ (richCompare .NotEq _ _) _ _ _
  unfold richCompare
  simp only [oneThing_ref]
  rw [cmpInfo_NotEq]
  refine wpAny_holding (wpAny_bind (wpAny_cRoomFor ft.room.units0 ?_))
  refine wpAny_bind (J.type.here (wpAny_bind (J'.type.here ?_)))
  rw [show (Value.ref (clsA X.K C) != Value.ref (clsA X.K C)) = false from by simp]
  simp only [Bool.false_eq_true, if_false]
  refine wpAny_bind (wpAny_pure ?_)
  simp only [Bool.false_eq_true, if_false]
  refine wpAny_bind (wpAny_mono one ?_ fun _ _ z => z)
  rintro r t ⟨b, rfl, q⟩
  exact wpAny_pure q
/-- str(x) of an own class -/
theorem cb_strO (c : CalS Ω C "__str__" k ["self"] sp) (ft : Fit Ω τ X) (hk : k + 2 ≤ τ.k) : CallB X (.type "str") (ob1 fun d M Q => insD C d M fun _ _ => sp [d] M (fun v M2 => ∃ z : Str, v = .str z ∧ Q (.str z) M2) fun _ _ => False) := callB1 fun F M H v d Q g r q => by
  obtain ⟨f, fd, F1, hb, hs, hf⟩ := c
  rw [← ft.K] at hs hf
  obtain ⟨q0, dx, fvs, ns, fs, rfl, h1, h2, h3, h4⟩ := insD_ok g r q
  intro pins s σ us I rv
  obtain ⟨u, rfl, ru⟩ := rv.one
  obtain rfl : u = Value.ref q0 := ru
  obtain ⟨mA, O, _⟩ := ins_get I.hok h1
  obtain ⟨od, J, _⟩ := O.look
  have room : Room (k + 2) X.A := ft.room.mono hk
  refine PySem.W.kso_call (by have := room.in1.in1.units0; exact this) I.kIn J hs hf (wpAny_mono (call_at (E' := X.xe) ft F1 room.in1.in1 ft.gd I.env0.frames hb I (ws := [.ref q0]) (.cons rfl .nil) (lift_no (ds := [d]) g (.cons r .nil) rfl h4)) ?_ fun _ _ z => z)
  rintro w t ⟨v, H2, I2, rw', F2, M2, y, e2, g2, r2, z, rfl, q2⟩
  cases r2
  obtain ⟨tk, rfl⟩ := rw'
  exact ⟨.str z, H2, I2, ⟨_, rfl⟩, F2, M2, _, e2, g2, .str z, q2⟩
end
end DL

/-! The deep layer, part n: tuples turned round, isinstance of own classes, methods by keyword, list(range(..)). -/
namespace DL
open PySem PySem.Spec PyProof.Rows L2
theorem rev_places (n : Nat) : Builtin.Slice.sliceAdjust none none (-1) (n : Int) = ((n : Int) - 1, -1) ∧ Builtin.Slice.slicePlaces ((n : Int) - 1) (-1) (-1) = n := by
  refine ⟨by simp [Builtin.Slice.sliceAdjust], ?_⟩
  unfold Builtin.Slice.slicePlaces
  rw [if_neg (by decide)]
  by_cases h : (n : Int) - 1 > -1
  · rw [if_pos h, show (- -1 : Int) = 1 by decide, Int.ediv_one]; omega
  · rw [if_neg h]; omega
theorem rev_pick (xs : Array Value) : ((List.range xs.size).filterMap fun (m : Nat) => xs[((xs.size : Int) - 1 + (m : Int) * (-1)).toNat]?).toArray = xs.toList.reverse.toArray := by
  congr 1
  have e : (List.range xs.size).filterMap (fun (m : Nat) => xs[((xs.size : Int) - 1 + (m : Int) * (-1)).toNat]?) = ((List.range xs.size).map fun k => xs.size - 1 - k).filterMap (xs[·]?) := by
    rw [List.filterMap_map]
    congr 1
    funext m
    show xs[((xs.size : Int) - 1 + (m : Int) * (-1)).toNat]? = xs[xs.size - 1 - m]?
    congr 1; omega
  rw [e, PySem.W.krv_range, List.filterMap_reverse, PySem.W.krv_all]
theorem getItem_tup_rev {prog : Program} {w : World} {A : Around} {E : Value → Shared → Prop} {s : Shared} {t sl : Addr} {items : Array Value} {vl vu vs : Value} {Q : Value → Shared → Prop} (ht : IsTup s.heap t items) (hs : s.heap.IsSliceOf sl vl vu vs) (pl : IsPart vl none) (pu : IsPart vu none) (ps : IsPart vs (some (-1)))
    (h : Q (.ref s.heap.objs.size) { s with heap := s.heap.push { cls := .type "tuple", data := .seq items.toList.reverse.toArray } }) (hsz : items.size ≤ sizeLine) : wpAny (model prog w) A (getItem (.ref t) (.ref sl)) Q E s := by
  have fit : sizeOk (.seq items.toList.reverse.toArray) := by
    show items.toList.reverse.toArray.size ≤ sizeLine
    rw [List.size_toArray, List.length_reverse, Array.length_toList]; exact hsz
  obtain ⟨os, hos, hcs, hds⟩ := id hs
  have isl : s.TypeIs (.ref sl) "slice" := ⟨os, hos, hcs⟩
  obtain ⟨a1, a2⟩ := rev_places items.size
  have applied : ∀ {A : Around} {Q : Int × Int × Nat → Shared → Prop}, Q ((items.size : Int) - 1, -1, items.size) s → wpAny (model prog w) A (Builtin.Slice.sliceApplied (.ref sl) (pure (items.size : Int))) Q E s := by
    intro A Q h
    unfold Builtin.Slice.sliceApplied Builtin.Slice.sliceFields
    refine wpAny_bind (wpAny_bind (wpAny_field hos hds (x := vl) rfl (wpAny_bind (wpAny_field hos hds (x := vu) rfl (wpAny_bind (wpAny_field hos hds (x := vs) rfl (wpAny_pure ?_)))))))
    refine wpAny_bind (HT.slicePart_ ps ?_)
    show wpAny _ _ (if ((-1 : Int) == 0) = true then _ else _) _ _ s
    rw [if_neg (by decide)]
    refine wpAny_bind (HT.slicePart_ pl (wpAny_bind (HT.slicePart_ pu (wpAny_bind (wpAny_pure ?_)))))
    show wpAny _ _ (match Builtin.Slice.sliceAdjust none none (-1) (items.size : Int) with | (lo, hi) => pure (lo, (-1 : Int), Builtin.Slice.slicePlaces lo hi (-1))) _ _ s
    rw [a1]
    show wpAny _ _ (pure ((items.size : Int) - 1, (-1 : Int), Builtin.Slice.slicePlaces ((items.size : Int) - 1) (-1) (-1))) _ _ s
    rw [a2]
    exact wpAny_pure h
  unfold getItem
  try with_reducible refine wpAny_holding ?_
  first | refine wpAny_bind (wpAny_pure ?_) | skip
  refine wpAny_bind (wpAny_sequenceKey ht.typeIs (by decide) ?_)
  refine wpAny_bind (wpAny_callSpecial?_slot (name := Str.ofString "__getitem__") ht.typeIs PyProof.Rows.slot_tuple_getitem (wpAny_call_entry PyProof.Rows.slot_tuple_getitem ht.typeIs PyProof.Rows.entry_tuple_getitem ?_ (PyProof.Rows.args_tuple_getitem _ _)))
  show wpAny _ _ (Builtin.Tuple.tupleItemsOf (.ref t) >>= _) _ _ s
  refine wpAny_bind (tupleItemsOf_ ht (wpAny_bind (wpAny_typeOf isl ?_)))
  rw [if_pos (by decide)]
  refine wpAny_bind (applied ?_)
  show wpAny _ _ (if (((items.size : Int) - 1) == 0 && (-1 : Int) == 1 && items.size == items.size) = true then _ else _) _ _ s
  rw [if_neg (by simp), rev_pick]
  first
    | exact wpAny_bind (m := Builtin.Tuple.tupleExact _) (wpAny_newObj_type (wpAny_pure ⟨_, rfl, wpAny_pure h⟩) fit)
    | exact wpAny_bind (m := Builtin.Tuple.tupleExact _) (wpAny_newObj_type (wpAny_bind (wpAny_pure (wpAny_pure ⟨_, rfl, wpAny_pure h⟩))) fit)
    | exact wpAny_bind (wpAny_bind (m := Builtin.Tuple.tupleExact _) (wpAny_newObj_type (wpAny_pure (wpAny_pure ⟨_, rfl, wpAny_pure h⟩)) fit))
    | exact wpAny_bind (wpAny_bind (m := Builtin.Tuple.tupleExact _) (wpAny_newObj_type (wpAny_pure ⟨_, rfl, wpAny_pure h⟩) fit))
section
variable {Ω : Wl} {τ : Sx} {X : Cx} {a b c e o tg iter elt : Expr} {es rest ifs : List Expr} {da db dc de : DE} {ta tb dt : DT} {tl tr : DA} {pos p p2 apos : Pos} {x m : Str} {vs : List Nat} {gs : List Str} {id T : String} {f : Addr} {C : Str} {fd : FuncData} {k : Nat} {ps ks : List Str} {sp : DSp} {st : Stmt} {N : List Str} {d : DS} {qual : Str}
/-- t[::-1] of a tuple -/
def dRevT (de : DE) : DE := fun σ M Q E => de σ M (fun x M1 => match x with
  | .tup xs => Q (.tup xs.reverse) M1
  | _ => False) E
theorem dp_revT {k : Nat} {p1 p3 : Pos} (he : DP Ω τ e de) : DP Ω τ (.Subscript e (.Slice none none (some (.UnaryOp .USub (.Constant (.int 1) k p1) p2)) p3) pos) (dRevT de) := Hd.mk fun X ft F0 E tk F M H σ σ' Q e0 g r h pins s I => by
  refine Subscript_ (thn (he.run X ft F0 E tk F M H σ σ' _ e0 g r h pins s I) ?_)
  rintro v s1 ⟨y, H1, I1, rv, F1, M1, d, e1, g1, r1, q⟩
  cases d <;> first | exact q.elim | skip
  rename_i xs
  cases r1 with | tup hs hr =>
  rename_i a ws
  obtain rfl : v = Value.ref a := rv
  have minus : PO X (some (.UnaryOp .USub (.Constant (.int 1) k p1) p2)) (tPart (tUn (rU fun i => .int (-i)) (tC (.int 1)))) := po_some (pe_un un_neg pe_int)
  refine wpAny_Slice (thn (po_none.run pins s1 σ H1 (fun o H2 => o = none ∧ H2 = H1) I1 ⟨rfl, rfl⟩) ?_)
  rintro vl s2 ⟨l, H2, I2, pl, rfl, rfl⟩
  refine thn (po_none.run pins s2 σ H2 (fun o H3 => o = none ∧ H3 = H2) I2 ⟨rfl, rfl⟩) ?_
  rintro vu s3 ⟨u, H3, I3, pu, rfl, rfl⟩
  refine thn (minus.run pins s3 σ H3 (fun o H4 => o = some (-1) ∧ H4 = H3) I3 ⟨1, rfl, -1, rfl, rfl, rfl⟩) ?_
  rintro vt s4 ⟨o, H4, I4, pt, rfl, rfl⟩
  have I5 : Inv X pins σ H4 { s4 with heap := s4.heap.push { cls := .type "slice", data := .fields #[vl, vu, vt] } } := I4.kept (t' := s4.toks) fun b ob q => Heap.get?_push_of_some _ q
  obtain ⟨its, rv5, ht, hz⟩ := I5.tuple (SqT.fz (K := X.K) (hs.mono g1.ex))
  show wpAny (model X.prog X.w) X.A (subscriptTail e (.Slice none none (some (.UnaryOp .USub (.Constant (.int 1) k p1) p2)) p3) (.ref a) (.ref s4.heap.objs.size)) _ X.xe { s4 with heap := s4.heap.push { cls := .type "slice", data := .fields #[vl, vu, vt] } }
  refine tail_any (ops := [.ref a, .ref s4.heap.objs.size]) ht.typeIs PyProof.Rows.slot_tuple_getitem.lookup ?_ (by with_unfolding_all rfl)
  refine getItem_tup_rev ht (Heap.IsSliceOf.new _ vl vu vt) pl pu pt ?_ (by rw [List.size_toArray, ← rv5.length]; exact hz)
  exact tob_ep I5 rv5.reverse (by rw [List.length_reverse]; exact hz) fun p _ hp => (rp_tupN g1 hp hr.reverse q).back e1

/-! ### isinstance(e, C) -/
structure ClsF (Ω : Wl) (C : Str) : Prop where
  cl : Cls Ω.K (clsA Ω.K C)
  mg : Ω.mg C = some (.ref (clsA Ω.K C))
  ha : PySem.W.findIn Ω.K (.ref (clsA Ω.K C)) "__class__" = some (some (.builtin "object.__class__"))
  hn : PySem.W.specialIn Ω.K (.builtin "object.__class__") "__get__" = some (some (.builtin "getset_descriptor.__get__"))
  tk : PySem.W.takesIn Ω.K (.builtin "object.__class__") = some true
  hm : PySem.W.mroIn Ω.K (clsA Ω.K C) (.type "object") = some true
  is : PySem.W.isClsIn Ω.K (clsA Ω.K C) = true
  ty : PySem.W.typeIn Ω.K (.ref (clsA Ω.K C)) = some (.type "type")
theorem no_ref : ∀ t ∈ tyNms, ∃ l, fastBuiltinMro t = some l ∧ ∀ v ∈ l, ∃ n, v = Value.type n := by
  intro t ht
  simp only [tyNms, List.mem_cons, List.not_mem_nil, or_false] at ht
  rcases ht with rfl | rfl | rfl | rfl | rfl | rfl
  · exact ⟨[.type "NoneType", .type "object"], by decide +kernel, by simp⟩
  · exact ⟨[.type "bool", .type "int", .type "object"], by decide +kernel, by simp⟩
  · exact ⟨[.type "int", .type "object"], by decide +kernel, by simp⟩
  · exact ⟨[.type "str", .type "object"], by decide +kernel, by simp⟩
  · exact ⟨[.type "tuple", .type "object"], by decide +kernel, by simp⟩
  · exact ⟨[.type "list", .type "object"], by decide +kernel, by simp⟩
theorem kit_no {t : String} (h : ClsF Ω C) (ht : t ∈ tyNms) : PySem.W.kitOne Ω.K (.type t) (.ref (clsA Ω.K C)) = some false := by
  have i : (PySem.W.clsIn Ω.K (clsA Ω.K C)).isSome = true := h.is
  unfold PySem.W.kitOne PySem.W.kitCls
  rw [if_neg (by simp)]
  show (if ((PySem.W.clsIn Ω.K (clsA Ω.K C)).isSome && PySem.W.typeIn Ω.K (.ref (clsA Ω.K C)) == some (.type "type")) = true then PySem.W.subIn Ω.K (.type t) (.ref (clsA Ω.K C)) else none) = _
  rw [i, h.ty, if_pos (by simp)]
  obtain ⟨l, h1, h2⟩ := no_ref t ht
  show (fastBuiltinMro t).map (·.contains (.ref (clsA Ω.K C))) = some false
  rw [h1]
  show some (l.contains (.ref (clsA Ω.K C))) = some false
  congr 1
  rw [List.contains_eq_any_beq, List.any_eq_false]
  intro v hv
  obtain ⟨n, rfl⟩ := h2 v hv
  simp
theorem kit_yes : PySem.W.kitOne Ω.K (.ref (clsA Ω.K C)) (.ref (clsA Ω.K C)) = some true := by
  unfold PySem.W.kitOne
  rw [if_pos (by simp)]
/-- is it of the class, as far as is known -/
def isC (C : Str) (d : D) (M : MH) : Option Bool := match d with
  | .obj C' _ _ => if C' = C then some true else none
  | .ref a => match M a with
    | some (.ins C' _ _) => if C' = C then some true else none
    | some (.lst _) => some false
    | _ => none
  | d => (tyNm d).map fun _ => false
def dIsO (C : Str) (de : DE) : DE := fun σ M Q E => de σ M (fun d M1 => ∃ b, isC C d M1 = some b ∧ Q (.bl b) M1) E
theorem dp_isO (S : ScOk τ.N vs gs τ.sc) (hm : Ω.mg "isinstance" = none) (h : ClsF Ω C) (he : DP Ω τ e de) (hg : ("isinstance" : Str) ∈ gs := by decide) (hgC : C ∈ gs := by decide) (hdb : (C == ("__debug__" : Str)) = false := by decide)
    (hs : ∀ env, starEach [e, .Name C p2] env = [(false, eval e env), (false, eval (.Name C p2) env)] := by intro _; rfl) : DP Ω τ (.Call (.Name "isinstance" p) [e, .Name C p2] [] pos) (dIsO C de) := Hd.mk fun X ft F0 E tk F M H σ σ' Q e0 g r hd => by
  have hN : PE X (.Name C p2) (tC (.ref (clsA X.K C))) := pe_glob (fit_gl ft S hgC) (by rw [ft.mg, ft.K]; exact h.mg) rfl hdb
  refine wE_of (pe_callB call_isiF (fit_gl ft S hg) (by rw [ft.mg]; exact hm) boot_isinstance (pa_cons pe_wE (pa_cons hN pa_nil (by rfl)) (by rw [hs]; rfl)) (by decide) (by decide) (by rw [hs]; rfl) (by rfl)) ?_
  refine wE_mono (he.run X ft F0 E tk F M H σ σ' _ e0 g r hd) ?_
  rintro v H1 ⟨F1, M1, d, e1, g1, r1, b, hb, q⟩
  have fin : LQ X.K F Q (.bl b) H1 := ⟨F1, M1, _, e1, g1, .bl _, q⟩
  have plain : ∀ t, tyNm d = some t → b = false → rIsiF X.K [v, .ref (clsA X.K C)] H1 (LQ X.K F Q) := fun t ht hb => by
    subst hb
    have := kit_no h (tyNm_mem ht)
    rw [← ft.K] at this
    exact ⟨v, .ref (clsA X.K C), _, _, false, rfl, .own _, tyX_of g1 r1 ht, this, fin⟩
  have own : insD C d M1 (fun _ _ => True) → b = true → rIsiF X.K [v, .ref (clsA X.K C)] H1 (LQ X.K F Q) := fun hi hb => by
    subst hb
    obtain ⟨q0, dx, fvs, ns, fs, rfl, h1, h2, h3, _⟩ := insD_ok g1 r1 hi
    refine ⟨.ref q0, .ref (clsA X.K C), .ref (clsA X.K C), _, true, rfl, .own _, .inl (.base (.ins h1 (by rw [ft.K]; exact h.cl) (by rw [ft.K]; exact h.ha) (by rw [ft.K]; exact h.hn) (by rw [ft.K]; exact h.tk) (by rw [ft.K]; exact h.hm))), ?_, fin⟩
    rw [ft.K]; exact kit_yes
  show rIsiF X.K [v, .ref (clsA X.K C)] H1 (LQ X.K F Q)
  cases d
  case obj C' ns fs =>
    by_cases hC : C' = C
    · have hb : (if C' = C then some true else none) = some b := hb
      rw [if_pos hC] at hb
      cases hb
      exact own ⟨hC, trivial⟩ rfl
    · have hb : (if C' = C then some true else none) = some b := hb
      rw [if_neg hC] at hb
      cases hb
  case ref a =>
    have hb : (match M1 a with
      | some (.ins C' _ _) => if C' = C then some true else none
      | some (.lst _) => some false
      | _ => none) = some b := hb
    cases hM : M1 a with
    | none => rw [hM] at hb; cases hb
    | some o =>
      rw [hM] at hb
      cases o with
      | ins C' ns fs =>
        by_cases hC : C' = C
        · have hb : (if C' = C then some true else none) = some b := hb
          rw [if_pos hC] at hb
          cases hb
          subst hC
          exact own ⟨ns, fs, hM, trivial⟩ rfl
        · have hb : (if C' = C then some true else none) = some b := hb
          rw [if_neg hC] at hb
          cases hb
      | lst xs =>
        cases hb
        cases r1
        obtain ⟨_, ws, h1, _⟩ := g1.mo _ _ hM
        have := kit_no h (t := "list") (by decide)
        rw [← ft.K] at this
        exact ⟨_, .ref (clsA X.K C), _, _, false, rfl, .own _, .inl (.base (.lst h1)), this, fin⟩
      | _ => cases hb
  case non => cases hb; exact plain _ rfl rfl
  case bl => cases hb; exact plain _ rfl rfl
  case int => cases hb; exact plain _ rfl rfl
  case str => cases hb; exact plain _ rfl rfl
  case tup => cases hb; exact plain _ rfl rfl
  case lst => cases hb; exact plain _ rfl rfl
  all_goals cases hb

/-! ### methods by keyword -/
def CalMN (Ω : Wl) (C : Str) (m : Str) (k : Nat) (ps ks : List Str) (ix : List Nat) (sp : DSp) : Prop := ∃ f fd, Okd Ω f fd k ps sp ∧ Meth Ω.K (clsA Ω.K C) m f ∧
  ∀ (s : Shared) (us ws : List Value), us.length = 1 → ws.length = ks.length → BindsTo s fd ⟨us, ks.zip ws⟩ (ps.zip (pick ix (us ++ ws)))
theorem calMN_mk {ix : List Nat} (h0 : StdM Ω C m qual ps st) (c : ∀ f fd, Fun Ω.K m qual st f fd → Okd Ω f fd k ps sp)
    (hb : ∀ (kV doc pm : Value) (an : Option Addr) (cdv ct : Value) (us ws : List Value), us.length = 1 → ws.length = ks.length → bindArgs (PySem.W.fnOf m qual (defArgs st) (defBody st) (defScope st) .none kV doc pm an cdv ct) ⟨us, ks.zip ws⟩ = pure (ps.zip (pick ix (us ++ ws)))) : CalMN Ω C m k ps ks ix sp := by
  obtain ⟨f, fd, F, hm, b⟩ := h0
  refine ⟨f, fd, c f fd F, hm, fun s us ws h1 h2 => ?_⟩
  obtain ⟨oc, od, kV, doc, pm, an, cdv, ct, osl, rfl, lk, hcd⟩ := F.ex
  exact .of_eq (hb kV doc pm an cdv ct us ws h1 h2)
def dMethN (C m : Str) (ix : List Nat) (n np : Nat) (sp : DSp) (de : DE) (t : DA) : DE := fun σ M Q E => de σ M (fun x M1 => insD C x M1 fun ns _ => ns.contains m = false ∧ t σ M1 (fun ds M2 => ds.length = n ∧ (pick ix (x :: ds)).length = np ∧ sp (pick ix (x :: ds)) M2 Q fun er M3 => E er σ M3) E) E
theorem dp_methN {kws : List Keyword} {ix : List Nat} (c : CalMN Ω C m k ps ks ix sp) (hC : Cls Ω.K (clsA Ω.K C)) (ho : DP Ω τ o de) (hkw : DPK Ω τ kws tl) (hk : k ≤ τ.k := by decide)
    (hall : ∀ env, (backToKw pos (keywordEach kws env)).all (·.1.isSome) = true := by intro _; rfl) (hks : ∀ env, (backToKw pos (keywordEach kws env)).filterMap (·.1) = ks := by intro _; rfl)
    (hpl : ∀ env, ((backTo pos (starEach [] env)).any (·.1) || (backToKw pos (keywordEach kws env)).any (·.1.isNone)) = false := by intro _; rfl)
    (ht : ∀ env, ∃ pl, eval (.Call (.Attribute o m apos) [] kws pos) env = (do
      let ov ← eval o env
      standAt apos.atName
      let (f, first) ← holding [ov] (getMethod ov m pl)
      callWith pos f first (backTo pos (starEach [] env)) (backToKw pos (keywordEach kws env))) := by intro _; exact ⟨_, rfl⟩) :
    DP Ω τ (.Call (.Attribute o m apos) [] kws pos) (dMethN C m ix ks.length ps.length sp de tl) := Hd.mk fun X ft F0 E tk F M H σ σ' Q e0 g r h pins s I => by
  obtain ⟨f, fd, F1, hm, hb⟩ := c
  obtain ⟨pl, ht⟩ := ht X.env
  refine PySem.W.methodCall_KW (pl := pl) (thn (ho.run X ft F0 E tk F M H σ σ' _ e0 g r h pins s I) ?_) ht
  rintro u s1 ⟨v, H1, I1, rv, F2, M1, y, e1, g1, r1, q⟩
  obtain ⟨q0, dx, fvs, ns, fs, rfl, h1, h2, h3, h4, h5⟩ := insD_ok g1 r1 q
  obtain rfl : u = Value.ref q0 := rv
  have hm' : Meth X.K (clsA X.K C) m f := by rw [ft.K]; exact hm
  refine getmeth_ok I1 h1 (by rw [ft.K]; exact hC) hm' (fld_none h2 h4) ?_
  refine PySem.W.callWith_KW0 (first := [.ref q0]) (h₀ := X.base) I.ok.mod.kin hm'.kp (hall _) (thn (hkw.run X ft F0 E tk F2 M1 H1 σ σ' _ (e0.trans e1) g1 (r.mono e1) h5 pos pins s1 I1) ?_) (hpl _)
  rintro us s2 ⟨ws, H2, I2, rv2, F3, M2, ds, e2, g2, r2, hl, hn, q2⟩
  rw [hks]
  have hlu : us.length = ks.length := by rw [← rv2.length, r2.length]; exact hl
  have e12 := e1.trans e2
  refine ⟨I2.kIn, thn (run_okdA (us := pick ix (Value.ref q0 :: us)) (ws := pick ix (V.ref q0 :: ws)) ft F1 hk tk (hb s2 [Value.ref q0] us rfl hlu) I2 (pick_vals (.cons rfl rv2)) (lift_of (e0.trans e12) g2 (r.mono e12) (pick_rpl (.cons (r1.mono e2) r2)) hn q2)) ?_⟩
  rintro u s3 ⟨v, H3, I3, rv3, q3⟩
  exact ⟨v, H3, I3, rv3, LQ.back e12 q3⟩

/-! ### list(range(..)) -/
theorem rpl_rg {K : PySem.W.Frag} {F : Hp} (lo hi : Int) : RpL K F (rgV lo hi) (rangeD lo (hi - lo).toNat) := by
  unfold rgV rangeD
  generalize List.range (hi - lo).toNat = l
  induction l with
  | nil => exact .nil
  | cons n l ih => exact .cons (.int _) ih
def dListRg1 (de : DE) : DE := fun σ M Q E => de σ M (fun x M1 => match x with
  | .int n => n ≤ 100000 ∧ -100000 ≤ n ∧ Q (.lst (rangeD 0 n.toNat)) M1
  | _ => False) E
def dListRg2 (da db : DE) : DE := fun σ M Q E => da σ M (fun x M1 => db σ M1 (fun y M2 => match x, y with
  | .int a, .int b => (-100000 ≤ a ∧ a ≤ 100000 ∧ -100000 ≤ b ∧ b ≤ 100000) ∧ Q (.lst (rangeD a (b - a).toNat)) M2
  | _, _ => False) E) E
theorem dp_list_rg1 (S : ScOk τ.N vs gs τ.sc) (hl : Ω.mg "list" = none) (hr : Ω.mg "range" = none) (ha : DP Ω τ a da) (hg : ("list" : Str) ∈ gs := by decide) (hg2 : ("range" : Str) ∈ gs := by decide) (hc : τ.calm = true := by rfl)
    (h1 : ∀ env, starEach [a] env = (false, eval a env) :: starEach [] env := by intro _; rfl) {p3 p4 : Pos} (h2 : ∀ env, starEach [.Call (.Name "range" p3) [a] [] p4] env = (false, eval (.Call (.Name "range" p3) [a] [] p4) env) :: starEach [] env := by intro _; rfl) :
    DP Ω τ (.Call (.Name "list" p) [.Call (.Name "range" p3) [a] [] p4] [] pos) (dListRg1 da) := Hd.mk fun X ft F0 E tk F M H σ σ' Q e0 g r h => by
  refine wE_of (pe_listRg (ft.calm hc) (fit_gl ft S hg) (by rw [ft.mg]; exact hl) (prg_1 (fit_gl ft S hg2) (by rw [ft.mg]; exact hr) pe_wE (h1 _)) (h2 _)) (wE_mono (ha.run X ft F0 E tk F M H σ σ' _ e0 g r h) ?_)
  rintro v H1 ⟨F1, M1, d, e1, g1, r1, q⟩
  cases d <;> first | exact q.elim | skip
  cases r1
  rename_i n
  obtain ⟨q1, q2, q⟩ := q
  refine ⟨n, rfl, ⟨by omega, by omega, by omega, by omega, by omega⟩, fun p hp => ?_⟩
  have := rpl_rg (K := X.K) (F := F1) 0 n
  rw [Int.sub_zero] at this
  exact (rp_lstN g1 hp this q).back e1
theorem dp_list_rg2 (S : ScOk τ.N vs gs τ.sc) (hl : Ω.mg "list" = none) (hr : Ω.mg "range" = none) (ha : DP Ω τ a da) (hb : DP Ω τ b db) (hg : ("list" : Str) ∈ gs := by decide) (hg2 : ("range" : Str) ∈ gs := by decide) (hc : τ.calm = true := by rfl)
    (h1 : ∀ env, starEach [a, b] env = (false, eval a env) :: starEach [b] env := by intro _; rfl) (h1' : ∀ env, starEach [b] env = (false, eval b env) :: starEach [] env := by intro _; rfl) {p3 p4 : Pos} (hp : ∀ env, (backTo p4 (starEach [b] env)).any (·.1) = false := by intro _; rfl)
    (h2 : ∀ env, starEach [.Call (.Name "range" p3) [a, b] [] p4] env = (false, eval (.Call (.Name "range" p3) [a, b] [] p4) env) :: starEach [] env := by intro _; rfl) :
    DP Ω τ (.Call (.Name "list" p) [.Call (.Name "range" p3) [a, b] [] p4] [] pos) (dListRg2 da db) := Hd.mk fun X ft F0 E tk F M H σ σ' Q e0 g r h => by
  refine wE_of (pe_listRg (ft.calm hc) (fit_gl ft S hg) (by rw [ft.mg]; exact hl) (prg_2 (fit_gl ft S hg2) (by rw [ft.mg]; exact hr) pe_wE pe_wE (h1 _) (h1' _) (hp _)) (h2 _)) (go2 ha hb ft tk e0 g r h ?_)
  intro F' M' H' x y x' y' e' g' rx ry q
  cases x' <;> first | exact q.elim | skip
  cases y' <;> first | exact q.elim | skip
  cases rx; cases ry
  obtain ⟨⟨q1, q2, q3, q4⟩, q⟩ := q
  exact ⟨_, _, rfl, rfl, ⟨by omega, by omega, by omega, by omega, by omega⟩, fun p hp => (rp_lstN g' hp (rpl_rg _ _) q).back e'⟩
end
abbrev lenOwn (C : Str) (sp : DSp) : OpB := ob1 fun d M Q => insD C d M fun _ _ => sp [d] M (fun v M2 => ∃ n : Int, v = .int n ∧ (0 ≤ n ∧ n < 2 ^ 63) ∧ Q (.int n) M2) fun _ _ => False
abbrev strOwn (C : Str) (sp : DSp) : OpB := ob1 fun d M Q => insD C d M fun _ _ => sp [d] M (fun v M2 => ∃ z : Str, v = .str z ∧ Q (.str z) M2) fun _ _ => False
/-! the signs of a text, one by one -/
section
variable {Ω : Wl} {τ : Sx} {X : Cx} {iter tg : Expr} {de : DE}
def signsD (z : Str) : List D := z.cps.toList.map fun c => .str ⟨#[c]⟩
theorem wkX {K : PySem.W.Frag} {F : Hp} {z : Str} : WkD K F (Its z) (signsD z) where
  go := fun i H e hi => by
    have : i < z.cps.size := by simpa [signsD] using hi
    exact this
  yld := fun i F1 M H v H' d e g hd hy => by
    obtain ⟨rfl, c, hc, rfl⟩ := hy
    have : d = .str ⟨#[c]⟩ := by
      unfold signsD at hd
      rw [List.getElem?_map, Array.getElem?_toList, hc] at hd
      exact (Option.some.inj hd).symm
    subst this
    exact ⟨F1, Ex.refl F1, g, .str _⟩
  stop := fun i H e hi => by
    have : z.cps.size ≤ i := by simpa [signsD] using hi
    exact this
def dStrI (d : DE) : DI := fun σ M R E => d σ M (fun x M1 => match x with
  | .str z => lenOk z.length ∧ R (signsD z) M1
  | _ => False) E
theorem dpi_str (h : DP Ω τ iter de) : DPI Ω τ tg iter (dStrI de) := Hd.mk fun X ft F0 E tk F M H σ σ' R e0 g r hd => by
  refine wI_of (pi_str pe_wE) (wE_mono (h.run X ft F0 E tk F M H σ σ' _ e0 g r hd) ?_)
  rintro v H1 ⟨F1, M1, y, e1, g1, r1, q⟩
  cases y <;> first | exact q.elim | skip
  cases r1
  first
    | exact ⟨_, rfl, F1, M1, _, e1, g1, wkX, q.2⟩
    | exact ⟨_, rfl, q.1.sz, F1, M1, _, e1, g1, wkX, q.2⟩
end
end DL

/-! The deep layer, part o: what changes, put in order. -/
namespace DL
open PySem PySem.Spec PyProof.Rows L2
section
variable {M : MH} {a b c d e : Addr} {o u v w x y z : MO}
theorem MH.none_put : (M.put a o) b = none ↔ b ≠ a ∧ M b = none := by
  unfold MH.put
  by_cases h : b = a
  · simp [h]
  · simp [h]
theorem MH.put_comm (h : a ≠ b) : (M.put a x).put b y = (M.put b y).put a x := by
  funext q
  unfold MH.put
  by_cases h1 : q = a
  · subst h1; simp [h]
  · by_cases h2 : q = b
    · subst h2; simp [h1]
    · simp [h1, h2]
theorem MH.put_under (h : a ≠ b) : ((M.put a x).put b y).put a z = (M.put a z).put b y := by
  rw [MH.put_comm h.symm, MH.put_put]
theorem MH.put_under2 (h : a ≠ b) (k : a ≠ c) : (((M.put a x).put b y).put c w).put a z = ((M.put a z).put b y).put c w := by
  rw [MH.put_comm k.symm, MH.put_under h]
theorem MH.put_under3 (h : a ≠ b) (k : a ≠ c) (l : a ≠ d) : ((((M.put a x).put b y).put c w).put d v).put a z = (((M.put a z).put b y).put c w).put d v := by
  rw [MH.put_comm l.symm, MH.put_under2 h k]
theorem MH.put_under4 (h : a ≠ b) (k : a ≠ c) (l : a ≠ d) (m : a ≠ e) : (((((M.put a x).put b y).put c w).put d v).put e u).put a z = ((((M.put a z).put b y).put c w).put d v).put e u := by
  rw [MH.put_comm m.symm, MH.put_under3 h k l]
theorem MH.Le.of_none {M1 M2 : MH} (h : MH.Le M1 M2) (k : M2 a = none) : M1 a = none := by
  cases q : M1 a with
  | none => rfl
  | some o => rw [h _ _ q] at k; cases k
end
theorem map_eraseIdx {α β : Type} (f : α → β) : ∀ (xs : List α) (i : Nat), (xs.map f).eraseIdx i = (xs.eraseIdx i).map f
  | [], _ => rfl
  | _ :: _, 0 => rfl
  | x :: xs, i + 1 => by
    show f x :: (xs.map f).eraseIdx i = f x :: (xs.eraseIdx i).map f
    rw [map_eraseIdx f xs i]
theorem ixN_c {n k : Nat} (h : k < n) : ixN n (k : Int) = some k := ixN_nat rfl h
theorem atI_c {α : Type} {xs : List α} {n : Nat} (h : n < xs.length) : atI xs (n : Int) = some xs[n] := atI_nat rfl h
theorem get_c {α : Type} {xs : List α} {n : Nat} (h : n < xs.length) : xs[n]? = some xs[n] := List.getElem?_eq_getElem h
theorem get_map {α β : Type} {f : α → β} {xs : List α} {n : Nat} (h : n < xs.length) : (xs.map f)[n]? = some (f xs[n]) := by
  rw [List.getElem?_map, List.getElem?_eq_getElem h]; rfl
theorem atI_map {α β : Type} {f : α → β} {xs : List α} {n : Nat} (h : n < xs.length) : atI (xs.map f) (n : Int) = some (f xs[n]) := atI_some rfl (get_map h)
theorem lenM_lst {xs : List D} : lenM (some (.lst xs)) = some xs.length := rfl
theorem moTy_none : moTy none = none := rfl
theorem at_3 {α : Type} {x y z w : α} {r : List α} : atI (x :: y :: z :: w :: r) 3 = some w := by
  unfold atI ixN
  rw [if_pos (by omega), if_pos (by simp only [List.length_cons]; omega)]; rfl
theorem nc0 : ((0 : Nat) : Int) = 0 := rfl
theorem nc1 : ((1 : Nat) : Int) = 1 := rfl
theorem nc2 : ((2 : Nat) : Int) = 2 := rfl
theorem nc3 : ((3 : Nat) : Int) = 3 := rfl
theorem nc4 : ((4 : Nat) : Int) = 4 := rfl
theorem nc5 : ((5 : Nat) : Int) = 5 := rfl
theorem nc6 : ((6 : Nat) : Int) = 6 := rfl
theorem nc7 : ((7 : Nat) : Int) = 7 := rfl
theorem nc8 : ((8 : Nat) : Int) = 8 := rfl
theorem nc9 : ((9 : Nat) : Int) = 9 := rfl
theorem nc10 : ((10 : Nat) : Int) = 10 := rfl
theorem nc11 : ((11 : Nat) : Int) = 11 := rfl
theorem nc12 : ((12 : Nat) : Int) = 12 := rfl
theorem nc13 : ((13 : Nat) : Int) = 13 := rfl
theorem nc14 : ((14 : Nat) : Int) = 14 := rfl
theorem nc15 : ((15 : Nat) : Int) = 15 := rfl
theorem nc16 : ((16 : Nat) : Int) = 16 := rfl
theorem nc17 : ((17 : Nat) : Int) = 17 := rfl
theorem nc18 : ((18 : Nat) : Int) = 18 := rfl
theorem nc19 : ((19 : Nat) : Int) = 19 := rfl
theorem nc20 : ((20 : Nat) : Int) = 20 := rfl
/-! the place of a list in a state -/
theorem perm_out {α : Type} : ∀ {left : List α} {j : Nat} {y : α}, left[j]? = some y → (y :: left.eraseIdx j).Perm left
  | [], _, _, h => by simp at h
  | x :: r, 0, y, h => by simp at h; subst h; exact List.Perm.refl _
  | x :: r, j + 1, y, h => by
    have := perm_out (left := r) (j := j) (y := y) (by simpa using h)
    exact (List.Perm.swap x y _).trans (List.Perm.cons x this)
theorem perm_take {α : Type} {xs found left : List α} {j : Nat} {y : α} (h : (found ++ left).Perm xs) (hj : left[j]? = some y) : ((found ++ [y]) ++ left.eraseIdx j).Perm xs := by
  refine List.Perm.trans ?_ h
  rw [List.append_assoc]
  exact List.Perm.append_left _ (perm_out hj)
theorem perm_map_inv {α β : Type} {f : α → β} : ∀ {ys xs : List β}, ys.Perm xs → ∀ {ws : List α}, xs = ws.map f → ∃ vs : List α, ys = vs.map f ∧ vs.Perm ws := by
  intro ys xs h
  induction h with
  | nil => intro ws e; exact ⟨[], rfl, by rw [List.map_eq_nil_iff.mp e.symm]⟩
  | cons x h ih =>
    intro ws e
    obtain ⟨w, r, rfl, rfl, rfl⟩ := List.map_eq_cons_iff.mp e.symm
    obtain ⟨vs, h1, h2⟩ := ih rfl
    exact ⟨w :: vs, by rw [h1]; rfl, h2.cons w⟩
  | swap x y l =>
    intro ws e
    obtain ⟨w, r, rfl, rfl, e2⟩ := List.map_eq_cons_iff.mp e.symm
    obtain ⟨v, q, rfl, rfl, rfl⟩ := List.map_eq_cons_iff.mp e2
    exact ⟨v :: w :: q, rfl, List.Perm.swap _ _ _⟩
  | trans h k ih1 ih2 =>
    intro ws e
    obtain ⟨vs, h1, h2⟩ := ih2 e
    obtain ⟨us, h3, h4⟩ := ih1 h1
    exact ⟨us, h3, h4.trans h2⟩
end DL

/-! The deep layer, part p: dicts. -/
namespace DL
open PySem PySem.Spec PyProof.Rows L2

/-! ### tables of data -/
section
variable {κ : Type} [DecidableEq κ]
def dGet : List (κ × D) → κ → Option D
  | [], _ => none
  | e :: t, k => if e.1 = k then some e.2 else dGet t k
def dPut (t : List (κ × D)) (k : κ) (y : D) : List (κ × D) := if (t.any fun e => decide (e.1 = k)) = true then t.map (fun e => if e.1 = k then (e.1, y) else e) else t ++ [(k, y)]
theorem dGet_any (k : κ) : ∀ t : List (κ × D), (t.any fun e => decide (e.1 = k)) = (dGet t k).isSome
  | [] => rfl
  | e :: t => by
    rw [List.any_cons, dGet, dGet_any k t]
    by_cases h : e.1 = k <;> simp [h]
theorem dGet_map (k j : κ) (y : D) : ∀ t : List (κ × D), dGet (t.map fun e => if e.1 = k then (e.1, y) else e) j = (dGet t j).map fun x => if j = k then y else x
  | [] => rfl
  | e :: t => by
    rw [List.map_cons, dGet, dGet, dGet_map k j y t]
    by_cases h : e.1 = k
    · rw [if_pos h]
      by_cases h2 : e.1 = j
      · rw [if_pos h2, if_pos h2]; simp [← h2, h]
      · rw [if_neg h2, if_neg h2]
    · rw [if_neg h]
      by_cases h2 : e.1 = j
      · rw [if_pos h2, if_pos h2]; simp [← h2, h]
      · rw [if_neg h2, if_neg h2]
theorem dGet_snoc (k j : κ) (y : D) : ∀ t : List (κ × D), dGet t k = none → dGet (t ++ [(k, y)]) j = if j = k then some y else dGet t j
  | [], _ => by
    show (if k = j then some y else none) = _
    by_cases h : j = k
    · rw [if_pos h, if_pos h.symm]
    · rw [if_neg h, if_neg (Ne.symm h)]; rfl
  | e :: t, h => by
    rw [dGet] at h
    by_cases h1 : e.1 = k
    · rw [if_pos h1] at h; cases h
    · rw [if_neg h1] at h
      rw [List.cons_append, dGet, dGet, dGet_snoc k j y t h]
      by_cases h2 : e.1 = j
      · rw [if_pos h2, if_pos h2, if_neg (fun z => h1 (h2.trans z))]
      · rw [if_neg h2, if_neg h2]
theorem dGet_put (t : List (κ × D)) (k j : κ) (y : D) : dGet (dPut t k y) j = if j = k then some y else dGet t j := by
  unfold dPut
  rw [dGet_any]
  by_cases h : (dGet t k).isSome = true
  · rw [if_pos h, dGet_map]
    by_cases h2 : j = k
    · subst h2
      obtain ⟨x, hx⟩ := Option.isSome_iff_exists.mp h
      rw [hx]; simp
    · rw [if_neg h2]
      cases dGet t j <;> simp [h2]
  · rw [if_neg h, dGet_snoc]
    simpa using h
theorem dPut_len (t : List (κ × D)) (k : κ) (y : D) : (dPut t k y).length ≤ t.length + 1 := by
  unfold dPut
  split
  · rw [List.length_map]; omega
  · rw [List.length_append]; exact Nat.le_refl _
theorem dPut_new {t : List (κ × D)} {k : κ} (y : D) (h : dGet t k = none) : dPut t k y = t ++ [(k, y)] := by
  unfold dPut
  rw [dGet_any, h]; rfl
theorem dPut_old {t : List (κ × D)} {k : κ} (y : D) {z : D} (h : dGet t k = some z) : (dPut t k y).map (·.1) = t.map (·.1) ∧ (dPut t k y).length = t.length := by
  unfold dPut
  rw [dGet_any, h]
  simp only [Option.isSome_some, if_true, List.map_map, List.length_map, and_true]
  apply List.map_congr_left
  intro e _
  show (if e.1 = k then (e.1, y) else e).1 = e.1
  split <;> rfl
/-- what stands in both -/
structure TabR (K : PySem.W.Frag) (F : Hp) (kvs : List (κ × V)) (t : List (κ × D)) : Prop where
  ks : kvs.map (·.1) = t.map (·.1)
  vs : RpL K F (kvs.map (·.2)) (t.map (·.2))
theorem TabR.get {K : PySem.W.Frag} {F : Hp} {k : κ} : ∀ {kvs : List (κ × V)} {t : List (κ × D)}, TabR K F kvs t → (valV kvs k).isSome = (dGet t k).isSome ∧ ∀ d, dGet t k = some d → ∃ v, valV kvs k = some v ∧ Rp K F v d
  | [], [], _ => ⟨rfl, fun _ h => by cases h⟩
  | [], _ :: _, h => by have := h.ks; simp at this
  | _ :: _, [], h => by have := h.ks; simp at this
  | (k1, v) :: r, (k2, d) :: t, h => by
    have h1 := h.ks
    have h2 := h.vs
    simp only [List.map_cons, List.cons.injEq] at h1 h2
    obtain ⟨rfl, h1⟩ := h1
    cases h2 with | cons h2 h3 =>
    have ih := TabR.get (k := k) ⟨h1, h3⟩
    by_cases e : k1 = k
    · rw [valV_pos e, dGet, if_pos e]
      exact ⟨rfl, fun d' h => by cases h; exact ⟨v, rfl, h2⟩⟩
    · rw [valV_neg e, dGet, if_neg e]
      exact ih
theorem TabR.length {K : PySem.W.Frag} {F : Hp} {kvs : List (κ × V)} {t : List (κ × D)} (h : TabR K F kvs t) : kvs.length = t.length := by
  have := congrArg List.length h.ks
  simpa using this
theorem TabR.map {K : PySem.W.Frag} {F : Hp} {k : κ} {v : V} {d : D} (rv : Rp K F v d) : ∀ {kvs : List (κ × V)} {t : List (κ × D)}, TabR K F kvs t → TabR K F (kvs.map fun e => if e.1 = k then (e.1, v) else e) (t.map fun e => if e.1 = k then (e.1, d) else e)
  | [], [], _ => ⟨rfl, .nil⟩
  | [], _ :: _, h => by have := h.ks; simp at this
  | _ :: _, [], h => by have := h.ks; simp at this
  | (k1, v1) :: r, (k2, d1) :: t, h => by
    have h1 := h.ks
    have h2 := h.vs
    simp only [List.map_cons, List.cons.injEq] at h1 h2
    obtain ⟨rfl, h1⟩ := h1
    cases h2 with | cons h2 h3 =>
    have ih := TabR.map (k := k) rv ⟨h1, h3⟩
    simp only [List.map_cons]
    by_cases e : k1 = k
    · rw [if_pos e, if_pos e]
      exact ⟨by simp only [List.map_cons]; rw [ih.ks], .cons rv ih.vs⟩
    · rw [if_neg e, if_neg e]
      exact ⟨by simp only [List.map_cons]; rw [ih.ks], .cons h2 ih.vs⟩
theorem TabR.put {K : PySem.W.Frag} {F : Hp} {kvs : List (κ × V)} {t : List (κ × D)} {k : κ} {v : V} {d : D} (h : TabR K F kvs t) (rv : Rp K F v d) : TabR K F (putK kvs k v) (dPut t k d) := by
  unfold putK dPut
  have e : (kvs.any fun e => decide (e.1 = k)) = (t.any fun e => decide (e.1 = k)) := by rw [dGet_any, valV_any, h.get.1]
  rw [e]
  split
  · exact h.map rv
  · exact ⟨by rw [List.map_append, List.map_append, h.ks]; rfl, by rw [List.map_append, List.map_append]; exact h.vs.append (.one rv)⟩
theorem TabR.mono {K : PySem.W.Frag} {F F' : Hp} {kvs : List (κ × V)} {t : List (κ × D)} (h : TabR K F kvs t) (e : Ex F F') : TabR K F' kvs t := ⟨h.ks, h.vs.mono e⟩
end

/-! ### dicts as they stand -/
abbrev TabK := List (Key × D)
abbrev TabT := List (List Key × D)
def dkO (t : TabK) : MO := .dk (t.map (·.1)) (t.map (·.2))
def dtO (t : TabT) : MO := .dt (t.map (·.1)) (t.map (·.2))
def dkD (t : TabK) : D := .dk (t.map (·.1)) (t.map (·.2))
def dtD (t : TabT) : D := .dt (t.map (·.1)) (t.map (·.2))
theorem tab_inj {κ : Type} : ∀ {s t : List (κ × D)}, s.map (·.1) = t.map (·.1) → s.map (·.2) = t.map (·.2) → s = t
  | [], [], _, _ => rfl
  | [], _ :: _, h, _ => by simp at h
  | _ :: _, [], h, _ => by simp at h
  | (a, b) :: s, (c, d) :: t, h, k => by
    simp only [List.map_cons, List.cons.injEq] at h k
    rw [h.1, k.1, tab_inj h.2 k.2]
theorem dkO_inj {s t : TabK} : (dkO s = dkO t) = (s = t) := propext ⟨fun h => by unfold dkO at h; simp only [MO.dk.injEq] at h; exact tab_inj h.1 h.2, fun h => by rw [h]⟩
theorem dtO_inj {s t : TabT} : (dtO s = dtO t) = (s = t) := propext ⟨fun h => by unfold dtO at h; simp only [MO.dt.injEq] at h; exact tab_inj h.1 h.2, fun h => by rw [h]⟩
theorem dkO_ne {s : TabK} {xs : List D} : (dkO s = .lst xs) = False := by unfold dkO; simp
theorem dtO_ne {s : TabT} {xs : List D} : (dtO s = .lst xs) = False := by unfold dtO; simp
theorem dkO_ne2 {s : TabK} {xs : List D} : (MO.lst xs = dkO s) = False := by unfold dkO; simp
theorem dtO_ne2 {s : TabT} {xs : List D} : (MO.lst xs = dtO s) = False := by unfold dtO; simp
theorem lenM_dk {s : TabK} : lenM (some (dkO s)) = some s.length := by simp [lenM, dkO]
theorem dk_of_mo {K : PySem.W.Frag} {F H : Hp} {M : MH} {a : Addr} {t : TabK} (g : G K F M H) (h : M a = some (dkO t)) : ∃ kvs, H a = some (.dK kvs) ∧ TabR K F kvs t := by
  obtain ⟨_, kvs, h1, h2, h3⟩ := g.mo _ _ h
  exact ⟨kvs, h1, h2, h3⟩
theorem dt_of_mo {K : PySem.W.Frag} {F H : Hp} {M : MH} {a : Addr} {t : TabT} (g : G K F M H) (h : M a = some (dtO t)) : ∃ kvs, H a = some (.dT kvs) ∧ TabR K F kvs t := by
  obtain ⟨_, kvs, h1, h2, h3⟩ := g.mo _ _ h
  exact ⟨kvs, h1, h2, h3⟩
/-- the key that a value is -/
def keyD : D → Option Key
  | .int i => some (.inl i)
  | .str s => some (.inr s)
  | _ => none
def keysD : List D → Option (List Key)
  | [] => some []
  | x :: xs => match keyD x, keysD xs with
    | some k, some ks => some (k :: ks)
    | _, _ => none
def tkeyD : D → Option (List Key)
  | .tup xs => keysD xs
  | _ => none
theorem keyD_int {i : Int} : keyD (.int i) = some (.inl i) := rfl
theorem keyD_str {s : Str} : keyD (.str s) = some (.inr s) := rfl
theorem tkeyD_tup {xs : List D} : tkeyD (.tup xs) = keysD xs := rfl
theorem keysD_ints : ∀ ns : List Int, keysD (ns.map .int) = some (ns.map .inl)
  | [] => rfl
  | n :: ns => by simp only [List.map_cons, keysD, keyD, keysD_ints ns]
theorem keysD_strs : ∀ ns : List Str, keysD (ns.map .str) = some (ns.map .inr)
  | [] => rfl
  | n :: ns => by simp only [List.map_cons, keysD, keyD, keysD_strs ns]
theorem keyD_ok {K : PySem.W.Frag} {F : Hp} {v : V} {d : D} {k : Key} (r : Rp K F v d) (h : keyD d = some k) : v = kV k := by
  cases d <;> first | (cases h; done) | (cases h; cases r; rfl)
theorem keysD_ok {K : PySem.W.Frag} {F : Hp} : ∀ {vs : List V} {ds : List D} {ks : List Key}, RpL K F vs ds → keysD ds = some ks → vs = ks.map kV
  | _, [], _, r, h => by cases r; cases h; rfl
  | _, d :: ds, ks, r, h => by
    cases r with | cons r1 r2 =>
    rw [keysD] at h
    cases e1 : keyD d with
    | none => rw [e1] at h; cases h
    | some k =>
      cases e2 : keysD ds with
      | none => rw [e1, e2] at h; cases h
      | some ks' =>
        rw [e1, e2] at h
        cases h
        rw [keyD_ok r1 e1, keysD_ok r2 e2]; rfl
/-- what stands at a key: R of it -/
def dicD (x y : D) (M : MH) (R : Option D → Prop) : Prop := match x with
  | .ref a => ∃ t, M a = some (dkO t) ∧ ∃ k, keyD y = some k ∧ R (dGet t k)
  | .dk ks vs => ∃ t : TabK, ks = t.map (·.1) ∧ vs = t.map (·.2) ∧ ∃ k, keyD y = some k ∧ R (dGet t k)
  | _ => False
theorem dic_k {a : Addr} {t : TabK} {y : D} {M : MH} {R : Option D → Prop} (h : M a = some (dkO t)) : dicD (.ref a) y M R = ∃ k, keyD y = some k ∧ R (dGet t k) := by
  apply propext
  simp only [dicD]
  rw [h]
  constructor
  · rintro ⟨s, e, q⟩
    have : s = t := by have := Option.some.inj e; rw [dkO_inj] at this; exact this.symm
    subst this; exact q
  · exact fun q => ⟨t, rfl, q⟩
theorem dic_dk {t : TabK} {y : D} {M : MH} {R : Option D → Prop} : dicD (dkD t) y M R = ∃ k, keyD y = some k ∧ R (dGet t k) := by
  apply propext
  unfold dicD dkD
  constructor
  · rintro ⟨s, e1, e2, q⟩
    rw [tab_inj e1 e2]; exact q
  · exact fun q => ⟨t, rfl, rfl, q⟩
theorem dicD_ok {K : PySem.W.Frag} {F H : Hp} {M : MH} {v w : V} {x y : D} {R : Option D → Prop} (g : G K F M H) (rx : Rp K F v x) (ry : Rp K F w y) (h : dicD x y M R) :
    ∃ a ov od, v = .ref a ∧ DGet H a w ov ∧ ov.isSome = od.isSome ∧ (∀ d, od = some d → ∃ u, ov = some u ∧ Rp K F u d) ∧ R od ∧ IsD H a := by
  have key : ∀ {a : Addr} {t : TabK} {kvs : List (Key × V)} {k : Key}, Rd H a (.dK kvs) → TabR K F kvs t → keyD y = some k → R (dGet t k) → ∃ a' ov od, V.ref a = .ref a' ∧ DGet H a' w ov ∧ ov.isSome = od.isSome ∧ (∀ d, od = some d → ∃ u, ov = some u ∧ Rp K F u d) ∧ R od ∧ IsD H a' :=
    fun {a t kvs k} hr ht hk q => ⟨a, valV kvs k, dGet t k, rfl, .inl ⟨kvs, k, hr, keyD_ok ry hk, rfl⟩, ht.get.1, ht.get.2, q, .inl ⟨kvs, hr⟩⟩
  cases x <;> first | exact h.elim | skip
  case ref a =>
    cases rx
    obtain ⟨t, h1, k, h2, h3⟩ := h
    obtain ⟨kvs, h4, h5⟩ := dk_of_mo g h1
    exact key (.inl h4) h5 h2 h3
  case dk ks vs =>
    obtain ⟨t, rfl, rfl, k, h2, h3⟩ := h
    cases rx with | dk h4 h5 h6 =>
    exact key (g.ex.rd h4) ⟨h5, h6⟩ h2 h3
section
variable {Ω : Wl} {τ : Sx} {X : Cx} {a b c e o f tg iter elt kx vx : Expr} {es rest ifs : List Expr} {da db dc de dv dk : DE} {ta tb dt : DT} {tl tr : DA} {pos p p2 apos cpos pos' : Pos} {x m : Str} {vs : List Nat} {gs : List Str} {id T : String}
theorem u1 (ft : Fit Ω τ X) : X.A.units + 1 < cLine := by have := ft.room.units; omega
/-- y in x, y not in x: x a dict -/
def dinOp (neg : Bool) : Op2 := fun y x M Q => dicD x y M fun o => Q (.bl (if neg then !o.isSome else o.isSome)) M
theorem opD_din (ft : Fit Ω τ X) : OpD X (compareOp .In) (dinOp false) := by
  intro F M H y x y' x' Q g ry rx h
  obtain ⟨a, ov, od, rfl, h1, h2, _, h3, _⟩ := dicD_ok g rx ry h
  intro pins s σ v u I rv ru
  obtain rfl : u = Value.ref a := ru
  exact d_in (u1 ft) I h1 rv fun s3 I3 => ⟨.bl ov.isSome, H, I3, rfl, .here g (.bl _) (by rw [h2]; exact h3)⟩
theorem opD_dnotIn (ft : Fit Ω τ X) : OpD X (compareOp .NotIn) (dinOp true) := by
  intro F M H y x y' x' Q g ry rx h
  obtain ⟨a, ov, od, rfl, h1, h2, _, h3, _⟩ := dicD_ok g rx ry h
  intro pins s σ v u I rv ru
  obtain rfl : u = Value.ref a := ru
  exact d_notIn (u1 ft) I h1 rv fun s3 I3 => ⟨.bl (!ov.isSome), H, I3, rfl, .here g (.bl _) (by rw [h2]; exact h3)⟩
/-- x[y], there -/
def dgetOp : Op2 := fun x y M Q => dicD x y M fun o => ∃ d, o = some d ∧ Q d M
theorem dp_dget (ha : DP Ω τ a da) (hb : DP Ω τ b db) (hs : NoSl b := by intro _ _; rfl) : DP Ω τ (.Subscript a b pos) (dOp dgetOp da db) := Hd.mk fun X ft F0 E tk F M H σ σ' Q e0 g r h => by
  refine wE_of (pe_dget (u1 ft) pe_wE pe_wE hs) (go2 ha hb ft tk e0 g r h ?_)
  intro F' M' H' x y x' y' e' g' rx ry q
  obtain ⟨a, ov, od, rfl, h1, _, h2, ⟨d, rfl, h3⟩, _⟩ := dicD_ok g' rx ry q
  obtain ⟨u, rfl, ru⟩ := h2 d rfl
  exact ⟨a, u, rfl, h1, F', M', d, e', g', ru, h3⟩
/-- x.get(y, z) -/
def dGet2 (dx dy dz : DE) : DE := fun σ M Q E => dx σ M (fun x M1 => dicA x M1 ∧ dy σ M1 (fun y M2 => dz σ M2 (fun z M3 => dicD x y M3 fun o => Q (o.getD z) M3) E) E) E
where dicA (x : D) (M : MH) : Prop := match x with
  | .ref a => ∃ t, M a = some (dkO t)
  | .dk _ _ => True
  | _ => False
theorem dicA_k {a : Addr} {t : TabK} {M : MH} (h : M a = some (dkO t)) : dGet2.dicA (.ref a) M = True := by
  simp only [dGet2.dicA]; rw [h]; simp [dkO_inj]
theorem dicA_dk {t : TabK} {M : MH} : dGet2.dicA (dkD t) M = True := rfl
theorem dicA_ok {K : PySem.W.Frag} {F H : Hp} {M : MH} {v : V} {x : D} (g : G K F M H) (rx : Rp K F v x) (h : dGet2.dicA x M) : ∃ a, v = .ref a ∧ IsD H a := by
  cases x <;> first | exact h.elim | skip
  case ref a =>
    cases rx
    obtain ⟨t, h⟩ := h
    obtain ⟨kvs, h4, h5⟩ := dk_of_mo g h
    exact ⟨a, rfl, .inl ⟨kvs, .inl h4⟩⟩
  case dk => cases rx with | dk h4 h5 h6 => exact ⟨_, rfl, .inl ⟨_, g.ex.rd h4⟩⟩
theorem dp_dget2 (ho : DP Ω τ o da) (he : DP Ω τ e db) (hf : DP Ω τ f dc) (hm : ∀ X : Cx, M2 X o "get" apos e f cpos := by intro X; exact ⟨rfl, rfl, rfl, rfl⟩) : DP Ω τ (.Call (.Attribute o "get" apos) [e, f] [] cpos) (dGet2 da db dc) := Hd.mk fun X ft F0 E tk F M H σ σ' Q e0 g r h => by
  refine wE_of (pe_dget2 (u1 ft) pe_wE pe_wE pe_wE (hm X)) (wE_mono (ho.run X ft F0 E tk F M H σ σ' _ e0 g r h) ?_)
  rintro v H1 ⟨F1, M1, x, e1, g1, r1, hd, q⟩
  obtain ⟨a, rfl, hD⟩ := dicA_ok g1 r1 hd
  refine ⟨a, rfl, hD, wE_mono (he.run X ft F0 E tk F1 M1 H1 σ σ' _ (e0.trans e1) g1 (r.mono e1) q) ?_⟩
  rintro w H2 ⟨F2, M2, y, e2, g2, r2, q2⟩
  refine wE_mono (hf.run X ft F0 E tk F2 M2 H2 σ σ' _ ((e0.trans e1).trans e2) g2 (r.mono (e1.trans e2)) q2) ?_
  rintro u H3 ⟨F3, M3, z, e3, g3, r3, q3⟩
  obtain ⟨a', ov, od, ea, h1, h2, h3, h4, _⟩ := dicD_ok g3 (r1.mono (e2.trans e3)) (r2.mono e3) q3
  cases ea
  refine ⟨ov, h1, ?_⟩
  cases od with
  | none =>
    cases ov with
    | none => exact ⟨F3, M3, _, (e1.trans e2).trans e3, g3, r3, h4⟩
    | some _ => cases h2
  | some d =>
    obtain ⟨w', rfl, rw'⟩ := h3 d rfl
    exact ⟨F3, M3, _, (e1.trans e2).trans e3, g3, rw', h4⟩
/-- x[y] = v -/
def dputD (x y v : D) (M : MH) (R : MH → Prop) : Prop := match x with
  | .ref a => ∃ t, M a = some (dkO t) ∧ ∃ k, keyD y = some k ∧ lenOk (t.length + 1) ∧ R (M.put a (dkO (dPut t k v)))
  | _ => False
theorem dput_k {a : Addr} {t : TabK} {y v : D} {M : MH} {R : MH → Prop} (h : M a = some (dkO t)) : dputD (.ref a) y v M R = ∃ k, keyD y = some k ∧ lenOk (t.length + 1) ∧ R (M.put a (dkO (dPut t k v))) := by
  apply propext
  simp only [dputD]
  rw [h]
  constructor
  · rintro ⟨s, e, q⟩
    have : s = t := by have := Option.some.inj e; rw [dkO_inj] at this; exact this.symm
    subst this; exact q
  · exact fun q => ⟨t, rfl, q⟩
theorem g_setK {K : PySem.W.Frag} {F H : Hp} {M : MH} {a : Addr} {u : MO} {t : TabK} {kvs : List (Key × V)} (g : G K F M H) (h : M a = some u) (r : TabR K F kvs t) : G K F (M.put a (dkO t)) (upd H a (.dK kvs)) := g.set h ⟨kvs, upd_same, r.ks, r.vs⟩
theorem g_setT {K : PySem.W.Frag} {F H : Hp} {M : MH} {a : Addr} {u : MO} {t : TabT} {kvs : List (List Key × V)} (g : G K F M H) (h : M a = some u) (r : TabR K F kvs t) : G K F (M.put a (dtO t)) (upd H a (.dT kvs)) := g.set h ⟨kvs, upd_same, r.ks, r.vs⟩
def dsPut (dv da db : DE) : DS := fun D E σ M => dv σ M (fun v M1 => da σ M1 (fun x M2 => db σ M2 (fun y M3 => dputD x y v M3 fun M4 => D.nx σ M4) E) E) E
theorem dputD_ok {K : PySem.W.Frag} {F H : Hp} {M : MH} {v w u : V} {x y d : D} {R : MH → Prop} (g : G K F M H) (rx : Rp K F v x) (ry : Rp K F w y) (rd : Rp K F u d) (h : dputD x y d M R) :
    ∃ a H4 M4, v = .ref a ∧ DPut H a w u H4 ∧ G K F M4 H4 ∧ R M4 := by
  cases x <;> first | exact h.elim | skip
  rename_i a
  cases rx
  obtain ⟨t, h1, k, h2, h3, h4⟩ := h
  obtain ⟨kvs, h5, h6⟩ := dk_of_mo g h1
  exact ⟨a, _, _, rfl, .inl ⟨kvs, k, h5, keyD_ok ry h2, by have := h3.sz; rw [h6.length]; omega, rfl⟩, g_setK g h1 (h6.put rd), h4⟩
theorem dps_dput {value : Expr} (hv : DP Ω τ value dv) (ha : DP Ω τ a da) (hb : DP Ω τ b db) (hs : ∀ env, swapsWith value (some (.Subscript a b pos')) pos.line env = pure false := by intro _; rfl) : DPS Ω τ (.Assign [.Subscript a b pos'] value pos) (dsPut dv da db) := Hd.mk fun X ft F0 E tk F M H σ σ' D e0 g r h => by
  refine wS_of (ps_dput (u1 ft) pe_wE pe_wE pe_wE (hs _)) (wE_mono (hv.run X ft F0 E tk F M H σ σ' _ e0 g r h) ?_)
  rintro u H1 ⟨F1, M1, d, e1, g1, r1, q⟩
  refine wE_mono (ha.run X ft F0 E tk F1 M1 H1 σ σ' _ (e0.trans e1) g1 (r.mono e1) q) ?_
  rintro v H2 ⟨F2, M2, x, e2, g2, r2, q2⟩
  refine wE_mono (hb.run X ft F0 E tk F2 M2 H2 σ σ' _ ((e0.trans e1).trans e2) g2 (r.mono (e1.trans e2)) q2) ?_
  rintro w H3 ⟨F3, M3, y, e3, g3, r3, q3⟩
  obtain ⟨a', H4, M4, rfl, h1, h2, h3⟩ := dputD_ok g3 (r2.mono e3) r3 (r1.mono (e2.trans e3)) q3
  exact ⟨a', H4, rfl, h1, F3, M4, σ', (e1.trans e2).trans e3, h2, r.mono ((e1.trans e2).trans e3), h3⟩
/-- {}, with keys that are numbers or texts; with keys that are tuples -/
def dNewK : DE := fun σ M Q E => ∀ p, M p = none → Q (.ref p) (M.put p (dkO []))
def dNewT : DE := fun σ M Q E => ∀ p, M p = none → Q (.ref p) (M.put p (dtO []))
theorem dp_newK : DP Ω τ (.Dict [] [] pos) dNewK := Hd.mk fun X ft F0 E tk F M H σ σ' Q e0 g r h =>
  wE_of pe_dnewK fun p hp => ⟨F, _, .ref p, Ex.refl F, g.newM hp (o := .dK []) (u := dkO []) ⟨[], upd_same, rfl, .nil⟩, .ref p, h p (g.fresh hp).2⟩
theorem dp_newT : DP Ω τ (.Dict [] [] pos) dNewT := Hd.mk fun X ft F0 E tk F M H σ σ' Q e0 g r h =>
  wE_of pe_dnewT fun p hp => ⟨F, _, .ref p, Ex.refl F, g.newM hp (o := .dT []) (u := dtO []) ⟨[], upd_same, rfl, .nil⟩, .ref p, h p (g.fresh hp).2⟩
end
end DL

/-! The deep layer, part q: update, dict comprehensions, insert, index, three names at once, comprehensions with a test. -/
namespace DL
open PySem PySem.Spec PyProof.Rows L2
def mergeD (t s : TabK) : TabK := s.foldl (fun acc e => dPut acc e.1 e.2) t
theorem TabR.merge {K : PySem.W.Frag} {F : Hp} : ∀ {more : List (Key × V)} {s : TabK} {kvs : List (Key × V)} {t : TabK}, TabR K F more s → TabR K F kvs t → TabR K F (mergeK kvs more) (mergeD t s)
  | [], [], _, _, _, h => h
  | [], _ :: _, _, _, h, _ => by have := h.ks; simp at this
  | _ :: _, [], _, _, h, _ => by have := h.ks; simp at this
  | (k1, v) :: r, (k2, d) :: s, _, _, h, h0 => by
    have h1 := h.ks
    have h2 := h.vs
    simp only [List.map_cons, List.cons.injEq] at h1 h2
    obtain ⟨rfl, h1⟩ := h1
    cases h2 with | cons h2 h3 =>
    exact TabR.merge (more := r) (s := s) ⟨h1, h3⟩ (h0.put h2)
theorem dGet_merge_of (k : Key) : ∀ (s t : TabK), dGet (mergeD t s) k = match dGet s.reverse k with
    | some d => some d
    | none => dGet t k := by
  intro s
  induction s with
  | nil => intro t; rfl
  | cons e s ih =>
    intro t
    show dGet (mergeD (dPut t e.1 e.2) s) k = _
    rw [ih, List.reverse_cons]
    have app : ∀ (a b : TabK), dGet (a ++ b) k = match dGet a k with
        | some d => some d
        | none => dGet b k := by
      intro a b
      induction a with
      | nil => rfl
      | cons x a iha =>
        rw [List.cons_append, dGet, dGet]
        by_cases h : x.1 = k
        · rw [if_pos h, if_pos h]
        · rw [if_neg h, if_neg h, iha]
    rw [app]
    cases hs : dGet s.reverse k with
    | some d => rfl
    | none =>
      show dGet (dPut t e.1 e.2) k = match dGet [e] k with
        | some d => some d
        | none => dGet t k
      rw [dGet_put]
      show _ = match (if e.1 = k then some e.2 else dGet [] k) with
        | some d => some d
        | none => dGet t k
      by_cases h : k = e.1
      · rw [if_pos h, if_pos h.symm]
      · rw [if_neg h, if_neg (Ne.symm h)]; rfl
theorem mergeD_len : ∀ (s t : TabK), (mergeD t s).length ≤ t.length + s.length
  | [], _ => Nat.le_refl _
  | e :: s, t => by
    have h1 := mergeD_len s (dPut t e.1 e.2)
    have h2 := dPut_len t e.1 e.2
    show (mergeD (dPut t e.1 e.2) s).length ≤ _
    rw [List.length_cons]; omega
section
variable {Ω : Wl} {τ : Sx} {X : Cx} {a b c e o f tg iter elt kx vx : Expr} {es rest ifs : List Expr} {da db dc de dv dk : DE} {ta tb dt : DT} {tl tr : DA} {pos p p2 apos cpos pos' : Pos} {x m : Str} {vs : List Nat} {gs : List Str} {id T : String}
theorem moTy_dk {t : TabK} : moTy (some (dkO t)) = some "dict" := rfl
theorem moTy_dt {t : TabT} : moTy (some (dtO t)) = some "dict" := rfl
theorem moTy_lst {t : List D} : moTy (some (.lst t)) = some "list" := rfl
theorem pa_dict : PlainAttrs "dict" := PySem.F.plainAttrs_dict
theorem sl_dict_update : Slot "dict" "update" "dict.update" := PySem.F.slot_dict_update
theorem ty_dict_update : typeOf (.builtin "dict.update") = pure (.type "method_descriptor") := PySem.F.type_dict_update
/-- d.update(e), two dicts that may change -/
def updateM : OpM := fun x ys M Q => match x, ys with
  | .ref a, [.ref b] => a ≠ b ∧ ∃ t, M a = some (dkO t) ∧ ∃ s, M b = some (dkO s) ∧ lenOk (t.length + s.length) ∧ Q .non (M.put a (dkO (mergeD t s)))
  | _, _ => False
theorem mb_update : MethB X "dict.update" updateM := by
  intro F M H x x' zs ys Q g rx rz q
  cases x' <;> first | exact q.elim | skip
  rename_i a
  match ys, rz, q with
  | [.ref b], rz, q =>
    cases rx
    obtain ⟨z, rfl, rz1⟩ := rpl1 rz
    cases rz1
    obtain ⟨hab, t, h1, s, h2, hl, q⟩ := q
    obtain ⟨kvs, h3, h4⟩ := dk_of_mo g h1
    obtain ⟨more, h5, h6⟩ := dk_of_mo g h2
    intro pins s0 σ v us I rv ru
    obtain rfl : v = Value.ref a := rv
    obtain ⟨u, rfl, ru2⟩ := ru.one
    obtain rfl : u = Value.ref b := ru2
    obtain ⟨z1, hd, vs, rel, dd⟩ := dk_of I.hok h3
    obtain ⟨z2, hd2, ws, rel2, dd2⟩ := dk_of I.hok h5
    have hz : vs.length + ws.length ≤ sizeLine := by
      rw [← rel.length, ← rel2.length, h4.length, h6.length]; exact hl.sz
    refine call_meetsIn PySem.F.slot_dict_update dd.typeIs PySem.F.entry_dict_update (PySem.F.args_dict_update_2 _ _) (meets_dict_update (mixKind X.prog X.w) a b hab hd2) ⟨vs, ws, dd, dd2, hz, fun h' hm hm2 hs => ?_⟩
    have he : ∃ q, h'.get? a = some q := let ⟨q, _, _, hq, _⟩ := hm; ⟨q, hq⟩
    have rel3 : KV (mergeK kvs more) (merged vs ws) := KV.merge rel2 rel
    have hlen : (mergeK kvs more).length ≤ sizeLine := by
      have := length_mergeK more kvs
      rw [← rel.length, ← rel2.length] at hz; omega
    exact ⟨.non, _, d_write I (by rw [h3]; exact True.intro) hs he (dk_new hlen hd rel3 hm), rfl, F, _, _, Ex.refl F, g_setK g h1 (TabR.merge h6 h4), .non, q⟩
/-! ### {k: v for ..} -/
def DcGo (gd : DG) (dt : DT) (dk dv : DE) (vs : List Nat) (σ : DSt) (Q : DQ) (xs : List D) (M1 : MH) : Prop := ∀ p, M1 p = none → ∃ W : List D → MH → Prop, W xs (M1.put p (dkO [])) ∧ (∀ M2, W [] M2 → Q (.ref p) M2) ∧
  ∀ x r M2, W (x :: r) M2 → gd x (wipeD σ vs) M2 (fun σ2 M3 => dt σ2 M3 (fun k M4 => (k = true → dk σ2 M4 (fun y M5 => dv σ2 M5 (fun z M6 => ∃ ky t, keyD y = some ky ∧ M6 p = some (dkO t) ∧ lenOk (t.length + 1) ∧ W r (M6.put p (dkO (dPut t ky z)))) noE) noE) ∧ (k = false → W r M4)) noE) noE
def dDc (di : DI) (gd : DG) (dt : DT) (dk dv : DE) (vs : List Nat) : DE := fun σ M Q E => di σ M (fun xs M1 => DcGo gd dt dk dv vs σ Q xs M1) E
theorem ddc_t {scope : Scope} {is : List Nat} {di : DI} {gd : DG} (own : List (Str × Nat)) (hok : blkC τ.N τ.sc scope own = true) (hi : DPI Ω τ tg iter di) (hg : DPG Ω (τ.blk scope) is tg gd) (ht : DPTs Ω (τ.blk scope) ifs dt) (hk : DP Ω (τ.blk scope) kx dk) (he : DP Ω (τ.blk scope) vx dv)
    (hv : ∀ i ∈ is, i ∈ own.map (·.2)) (ft : Fit Ω τ X) {F0 : Hp} {E : EK} (tk : TkD X F0 E) {F : Hp} {M : MH} {H : Hp} {σ : L2.St} {σ' : DSt} {Q : DQ} {T : VK} (e0 : Ex F0 F) (g : G X.K F M H) (r : RpS X.K F σ σ') (h : dDc di gd dt dk dv (own.map (·.2)) σ' M Q E) (hT : ∀ v H, LQ X.K F Q v H → T v H) :
    tDc (wI X tg iter) (bG X scope tg) (bT X scope ifs) (bE X scope kx) (bE X scope vx) (own.map (·.2)) σ H T := by
  refine wI_mono (hi.run X ft F0 E tk F M H σ σ' _ e0 g r h) ?_
  rintro J H1 ⟨F1, M1, xs, e1, g1, wk, hp⟩
  intro p hpn
  obtain ⟨hF1, hM1⟩ := g1.fresh hpn
  obtain ⟨W, w0, wn, ws⟩ := hp p hM1
  have g0 : G X.K F1 (M1.put p (dkO [])) (upd H1 p (.dK [])) := g1.newM hpn (o := .dK []) (u := dkO []) ⟨[], upd_same, rfl, .nil⟩
  refine ⟨fun i m H => m = xs.length - i ∧ i ≤ xs.length ∧ ∃ F2 M2, Ex F1 F2 ∧ G X.K F2 M2 H ∧ W (xs.drop i) M2, ⟨_, rfl, Nat.zero_le _, F1, _, Ex.refl F1, g0, w0⟩, ?_⟩
  rintro i m H2 ⟨rfl, hi2, F2, M2, e2, g2, w2⟩
  have e02 : Ex F0 F2 := (e0.trans e1).trans e2
  by_cases hlt : i < xs.length
  · refine .inr ⟨wk.go i H2 (e2.trans g2.ex) hlt, fun H => i + 1 ≤ xs.length ∧ ∃ F3 M3, Ex F1 F3 ∧ G X.K F3 M3 H ∧ W (xs.drop (i + 1)) M3, fun H' q => ⟨_, by omega, rfl, q⟩, fun v H3 hy => ?_⟩
    have hd : xs[i]? = some xs[i] := List.getElem?_eq_getElem hlt
    obtain ⟨F3, e3, g3, r3⟩ := wk.yld i F2 M2 H2 v H3 _ e2 g2 hd hy
    rw [List.drop_eq_getElem_cons hlt] at w2
    intro s H0 C cl fp
    have e03 : Ex F0 F3 := e02.trans e3
    have e13 : Ex F1 F3 := e2.trans e3
    refine wG_mono (hg.run _ (fit_blk ft s H0 scope C cl fp) F0 noE tk_no F3 M2 H3 _ _ v _ _ e03 g3 ((r.mono (e1.trans e13)).wipe _) r3 (ws _ _ _ w2)) ?_
    rintro σ4 H4 ⟨k4, F4, M4, σ4', e4, g4, r4, q⟩
    refine ⟨wipe_kept k4 hv, fun s H0 C cl fp => ?_⟩
    have bt := ht.run _ (fit_blk ft s H0 scope C cl fp) F0 noE tk_no F4 M4 H4 σ4 σ4' _ (e03.trans e4) g4 r4 q
    refine fun pins s1 I1 => thn (bt pins s1 I1) ?_
    rintro k s2 ⟨H5, I5, F5, M5, e5, g5, q1, q2⟩
    refine ⟨H5, I5, ?_⟩
    have e15 : Ex F1 F5 := (e13.trans e4).trans e5
    cases k with
    | false => exact iteF ⟨hlt, F5, M5, e15, g5, q2 rfl⟩
    | true =>
      refine iteT fun s H0 C cl fp => ?_
      refine wE_mono (hk.run _ (fit_blk ft s H0 scope C cl fp) F0 noE tk_no F5 M5 H5 σ4 σ4' _ ((e0.trans e1).trans e15) g5 (r4.mono e5) (q1 rfl)) ?_
      rintro y H6 ⟨F6, M6, y', e6, g6, r6, q6⟩
      intro s H0 C cl fp
      refine wE_mono (he.run _ (fit_blk ft s H0 scope C cl fp) F0 noE tk_no F6 M6 H6 σ4 σ4' _ (((e0.trans e1).trans e15).trans e6) g6 (r4.mono (e5.trans e6)) q6) ?_
      rintro z H7 ⟨F7, M7, z', e7, g7, r7, ky, t, hky, h6, hl, q7⟩
      obtain ⟨kvs, h7, h8⟩ := dk_of_mo g7 h6
      refine ⟨kvs, ky, keyD_ok (r6.mono e7) hky, h7, by have := hl.sz; rw [h8.length]; omega, hlt, F7, _, (e15.trans e6).trans e7, g_setK g7 h6 (h8.put r7), q7⟩
  · have e : i = xs.length := by omega
    subst e
    rw [List.drop_length] at w2
    exact .inl ⟨wk.stop _ H2 (e2.trans g2.ex) (Nat.le_refl _), hT _ _ ⟨F2, M2, .ref p, e1.trans e2, g2, .ref p, wn _ w2⟩⟩
theorem dp_dc {scope : Scope} {is : List Nat} {di : DI} {gd : DG} (own : List (Str × Nat)) (hok : blkC τ.N τ.sc scope own = true) (hi : DPI Ω τ tg iter di) (hg : DPG Ω (τ.blk scope) is tg gd) (ht : DPTs Ω (τ.blk scope) ifs dt) (hk : DP Ω (τ.blk scope) kx dk) (he : DP Ω (τ.blk scope) vx dv)
    (hv : ∀ i ∈ is, i ∈ own.map (·.2) := by decide) (hc : τ.calm = true := by rfl) (hs : ∀ env x, foldedSetIterable iter env x = pure x := by intro _ _; rfl) : DP Ω τ (.DictComp kx vx [⟨tg, iter, ifs, 0⟩] scope pos) (dDc di gd dt dk dv (own.map (·.2))) := Hd.mk fun X ft F0 E tk F M H σ σ' Q e0 g r h =>
  wE_of (pe_dc (ft.calm hc) (by rw [ft.N]; exact ft.nd) pi_wI (blkOk_by (by rw [ft.N, ft.sc]; exact hok))
    (fun s H0 C cl fp => ⟨fun pins s1 σ1 H1 v u Q1 I1 rv q => q s H0 C cl fp pins s1 u I1 rv⟩) (fun s H0 C cl fp => ⟨fun pins s1 σ1 H1 Q1 I1 q => q s H0 C cl fp pins s1 I1⟩) (fun s H0 C cl fp => ⟨fun pins s1 σ1 H1 Q1 I1 q => q s H0 C cl fp pins s1 I1⟩) (fun s H0 C cl fp => ⟨fun pins s1 σ1 H1 Q1 I1 q => q s H0 C cl fp pins s1 I1⟩) (hs _)) (ddc_t own hok hi hg ht hk he hv ft tk e0 g r h fun _ _ z => z)
/-- by the place: every turn puts one key -/
theorem dc_idx {gd : DG} {dk dv : DE} {vs : List Nat} {σ : DSt} {Q : DQ} {xs : List D} {M : MH} (kd : Nat → D) (key : Nat → Key) (val : Nat → D) (hl : lenOk (xs.length + 1)) (hk : ∀ i, i < xs.length → keyD (kd i) = some (key i))
    (h : ∀ p t i (hi : i < xs.length) (C : D → D → MH → Prop), M p = none → C (kd i) (val i) (M.put p (dkO t)) → gd xs[i] (wipeD σ vs) (M.put p (dkO t)) (fun σ2 M3 => dk σ2 M3 (fun y M5 => dv σ2 M5 (fun z M6 => C y z M6) noE) noE) noE)
    (q : ∀ p, M p = none → Q (.ref p) (M.put p (dkO ((List.range xs.length).foldl (fun t i => dPut t (key i) (val i)) [])))) : DcGo gd dYes dk dv vs σ Q xs M := by
  have len : ∀ n, ((List.range n).foldl (fun t i => dPut t (key i) (val i)) ([] : TabK)).length ≤ n := by
    intro n
    induction n with
    | zero => exact Nat.le_refl _
    | succ n ih =>
      rw [List.range_succ, List.foldl_append]
      exact Nat.le_trans (dPut_len _ _ _) (by omega)
  intro p hp
  refine ⟨fun r M2 => ∃ n, n ≤ xs.length ∧ r = xs.drop n ∧ M2 = M.put p (dkO ((List.range n).foldl (fun t i => dPut t (key i) (val i)) [])), ⟨0, Nat.zero_le _, by simp, rfl⟩, ?_, ?_⟩
  · rintro M2 ⟨n, hn, hr, rfl⟩
    have : n = xs.length := by
      have := congrArg List.length hr
      simp at this; omega
    subst this
    exact q p hp
  · rintro x r M2 ⟨n, hn, hr, rfl⟩
    have hlt : n < xs.length := by
      rcases Nat.lt_or_ge n xs.length with h | h
      · exact h
      · rw [List.drop_eq_nil_of_le h] at hr; cases hr
    rw [List.drop_eq_getElem_cons hlt] at hr
    cases hr
    have key' := h p ((List.range n).foldl (fun t i => dPut t (key i) (val i)) []) n hlt (fun y z M6 => ∃ ky t, keyD y = some ky ∧ M6 p = some (dkO t) ∧ lenOk (t.length + 1) ∧ ∃ k, k ≤ xs.length ∧ xs.drop (n + 1) = xs.drop k ∧ M6.put p (dkO (dPut t ky z)) = M.put p (dkO ((List.range k).foldl (fun t i => dPut t (key i) (val i)) []))) hp (by
      refine ⟨key n, _, hk n hlt, MH.put_same, ?_, n + 1, hlt, rfl, ?_⟩
      · have l1 := len n
        unfold lenOk at hl ⊢
        exact Nat.le_trans (Nat.add_le_add_right l1 1) (by omega)
      · rw [MH.put_put, List.range_succ, List.foldl_append]; rfl)
    show gd xs[n] (wipeD σ vs) _ (fun σ2 M3 => (true = true → dk σ2 M3 _ noE) ∧ (true = false → _)) noE
    have e : ∀ (A : DSt → MH → Prop) (B : MH → Prop), (fun (σ2 : DSt) (M3 : MH) => (true = true → A σ2 M3) ∧ (true = false → B M3)) = A := by
      intro A B; funext σ2 M3; simp
    rw [e]
    exact key'
/-! ### methods of lists and tuples -/
theorem sl_list_insert : Slot "list" "insert" "list.insert" := PySem.F.slot_list_insert
theorem ty_list_insert : typeOf (.builtin "list.insert") = pure (.type "method_descriptor") := PySem.F.type_list_insert
theorem sl_list_index : Slot "list" "index" "list.index" := PySem.F.slot_list_index
theorem ty_list_index : typeOf (.builtin "list.index") = pure (.type "method_descriptor") := PySem.F.type_list_index
theorem pa_tuple : PlainAttrs "tuple" := PySem.F.plainAttrs_tuple
theorem sl_tuple_index : Slot "tuple" "index" "tuple.index" := PySem.F.slot_tuple_index
theorem ty_tuple_index : typeOf (.builtin "tuple.index") = pure (.type "method_descriptor") := PySem.F.type_tuple_index
abbrev insertM : OpM := refL fun a xs ys M Q => match ys with
    | [.int i, y] => lenOk (xs.length + 1) ∧ 0 ≤ i ∧ i < 2 ^ 63 ∧ Q .non (M.put a (.lst (xs.take i.toNat ++ [y] ++ xs.drop i.toNat)))
    | _ => False
theorem mb_insert : MethB X "list.insert" insertM := mb_refL fun F M H a xs ws zs ys Q g h1 h2 h3 r q => by
  match ys, r, q with
  | [.int i, y], r, ⟨hl, h0, h4, q⟩ =>
    obtain ⟨z, z2, rfl, rz, rz2⟩ := rpl2 r
    cases rz
    exact wM_of mt_insert ⟨a, ws, i, z2, rfl, rfl, h2, by have := hl.sz; rw [h3.length]; omega, h0, h4, F, _, _, Ex.refl F, g_setL g h1 (((h3.take _).append (.one rz2)).append (h3.drop _)), .non, q⟩
/-- xs.index(i) of ints, there -/
def indexM : OpM := fun x ys M Q => match ys with
  | [.int k] => lstD x M fun xs => ∃ ns : List Int, xs = ns.map .int ∧ k ∈ ns ∧ Q (.int (ns.idxOf k : Nat)) M
  | [.str k] => lstD x M fun xs => ∃ ns : List Str, xs = ns.map .str ∧ k ∈ ns ∧ Q (.int (ns.idxOf k : Nat)) M
  | _ => False
theorem idxOf_first {α : Type} [BEq α] [LawfulBEq α] {k : α} : ∀ {ns : List α}, k ∈ ns → ns[ns.idxOf k]? = some k ∧ ∀ m z, m < ns.idxOf k → ns[m]? = some z → z ≠ k
  | n :: ns, h => by
    rw [List.idxOf_cons]
    by_cases e : n = k
    · subst e
      simp
    · have e' : (n == k) = false := by simpa using e
      rw [e']
      have hm : k ∈ ns := by
        rcases List.mem_cons.mp h with h | h
        · exact absurd h.symm e
        · exact h
      obtain ⟨h1, h2⟩ := idxOf_first hm
      refine ⟨by simpa using h1, fun m z hm hz => ?_⟩
      cases m with
      | zero => simp at hz; rw [← hz]; exact e
      | succ m => exact h2 m z (by simpa using hm) (by simpa using hz)
theorem mb_index : MethB X "list.index" indexM := by
  intro F M H x x' zs ys Q g rx rz q
  match ys, rz, q with
  | [.int k], rz, q =>
    obtain ⟨z, rfl, rz1⟩ := rpl1 rz
    cases rz1
    obtain ⟨p, ws, xs, rfl, h1, h2, ns, rfl, hk, q⟩ := lstD_ok g rx q
    rw [rpl_int h2] at h1
    obtain ⟨e1, e2⟩ := idxOf_first hk
    refine wM_of mt_index ⟨p, ns.map V.int, .int k, ns.idxOf k, .int k, rfl, rfl, SqL.of h1, rfl, by simp [List.all_eq_true, flatV], by rw [List.getElem?_map, e1]; rfl, by simp [eqV], fun m z' hm hz => ?_, .here g (.int _) q⟩
    rw [List.getElem?_map] at hz
    obtain ⟨w, hw, rfl⟩ := Option.map_eq_some_iff.mp hz
    have := e2 m w hm hw
    simp [eqV, this]
  | [.str k], rz, q =>
    obtain ⟨z, rfl, rz1⟩ := rpl1 rz
    cases rz1
    obtain ⟨p, ws, xs, rfl, h1, h2, ns, rfl, hk, q⟩ := lstD_ok g rx q
    rw [rpl_str h2] at h1
    obtain ⟨e1, e2⟩ := idxOf_first hk
    refine wM_of mt_index ⟨p, ns.map V.str, .str k, ns.idxOf k, .str k, rfl, rfl, SqL.of h1, rfl, by simp [List.all_eq_true, flatV], by rw [List.getElem?_map, e1]; rfl, by simp [eqV], fun m z' hm hz => ?_, .here g (.int _) q⟩
    rw [List.getElem?_map] at hz
    obtain ⟨w, hw, rfl⟩ := Option.map_eq_some_iff.mp hz
    have := e2 m w hm hw
    simp [eqV, this]
/-- xs.index(s) of texts in a tuple, there -/
def indexTM : OpM := fun x ys M Q => match x, ys with
  | .tup xs, [.str k] => ∃ ns : List Str, xs = ns.map .str ∧ k ∈ ns ∧ Q (.int (ns.idxOf k : Nat)) M
  | _, _ => False
theorem mb_indexT : MethB X "tuple.index" indexTM := by
  intro F M H x x' zs ys Q g rx rz q
  cases x' <;> first | exact q.elim | skip
  match ys, rz, q with
  | [.str k], rz, q =>
    obtain ⟨z, rfl, rz1⟩ := rpl1 rz
    cases rz1
    obtain ⟨ns, rfl, hk, q⟩ := q
    cases rx with | tup hs hr =>
    obtain ⟨e1, e2⟩ := idxOf_first hk
    rw [rpl_str hr] at hs
    exact wM_of mt_tup_index ⟨_, ns, k, ns.idxOf k, rfl, rfl, SqT.fz (hs.mono g.ex), e1, fun m hm hz => e2 m k hm hz rfl, .here g (.int _) q⟩
/-- methods of a tuple -/
def dBMT (ob : OpM) (de : DE) (t : DA) : DE := fun σ M Q E => de σ M (fun x M1 => tupT x ∧ t σ M1 (fun ys M2 => ob x ys M2 Q) E) E
where tupT : D → Prop
  | .tup _ => True
  | _ => False
theorem dp_bmT {ob : OpM} {cpos : Pos} (slot : Slot "tuple" m id) (hty : typeOf (.builtin id) = pure (.type "method_descriptor")) (hm : ∀ X, Fit Ω τ X → MethB X id ob) (ho : DP Ω τ o de) (ha : DPA Ω τ (e :: es) tl)
    (hbase : ∀ env, attributeBase o m env (eval o env) = eval o env := by intro _; rfl)
    (hfew : ∀ env, ((backTo cpos (starEach (e :: es) env)).all (fun x => !x.1) && (backToKw cpos (keywordEach [] env)).all (fun x => x.1.isSome) && decide ((e :: es).length + ([] : List Keyword).length + (if ([] : List Keyword).isEmpty then 0 else 1) < 30)) = true := by intro _; rfl)
    (hline : (apos.endLine == cpos.line) = true := by rfl) (hs : ∀ env, starEach (e :: es) env = (false, eval e env) :: starEach es env := by intro _; rfl) (hplain : ∀ env, (backTo cpos (starEach es env)).any (·.1) = false := by intro _; rfl) :
    DP Ω τ (.Call (.Attribute o m apos) (e :: es) [] cpos) (dBMT ob de tl) := Hd.mk fun X ft F0 E tk F M H σ σ' Q e0 g r h => by
  refine wE_of (pe_bmF pa_tuple slot hty mtR_w pe_wE pa_wA (hbase _) (hfew _) hline (hs _) (hplain _)) (wE_mono (ho.run X ft F0 E tk F M H σ σ' _ e0 g r h) ?_)
  rintro v H1 ⟨F1, M1, y, e1, g1, r1, ty, q⟩
  have ht : ∃ a vs, v = .ref a ∧ TupF H1 a vs := by
    cases y <;> first | exact ty.elim | skip
    cases r1 with | tup hs hr => exact ⟨_, _, rfl, hs.mono g1.ex⟩
  refine ⟨ht, wA_mono (ha.run X ft F0 E tk F1 M1 H1 σ σ' _ (e0.trans e1) g1 (r.mono e1) q) ?_⟩
  rintro ws H2 ⟨F2, M2, ys, e2, g2, r2, q2⟩
  exact wM_mono (hm X ft F2 M2 H2 v y ws ys Q g2 (r1.mono e2) r2 q2) fun _ _ => LQ.back (e1.trans e2)
/-- -e -/
def dNeg (de : DE) : DE := fun σ M Q E => de σ M (fun x M1 => match x with
  | .int i => Q (.int (-i)) M1
  | _ => False) E
theorem dp_neg (he : DP Ω τ e de) : DP Ω τ (.UnaryOp .USub e pos) (dNeg de) := Hd.mk fun X ft F0 E tk F M H σ σ' Q e0 g r h => by
  refine wE_of (pe_un un_neg pe_wE) (wE_mono (he.run X ft F0 E tk F M H σ σ' _ e0 g r h) ?_)
  rintro v H1 ⟨F1, M1, y, e1, g1, r1, q⟩
  cases y <;> first | exact q.elim | skip
  cases r1
  exact ⟨_, rfl, F1, M1, _, e1, g1, .int _, q⟩
/-! three names at once -/
def dPar3 (i j l : Nat) (t : DA) : DS := fun D E σ M => t σ M (fun vs M1 => match vs with
  | [u, v, w] => D.nx (((σ.set i (some u)).set j (some v)).set l (some w)) M1
  | _ => False) E
theorem dps_par3 {ls : List Nat} {y z : Str} {px py pz pt : Pos} {kt k2 pt2} (L : StOk τ.N ls τ.sc τ.own) (i j l : Nat) (ha : DPA Ω τ [a, b, c] tl) (hN : τ.N[i]? = some x := by rfl) (hM : τ.N[j]? = some y := by rfl) (hO : τ.N[l]? = some z := by rfl) (hij : i ≠ j := by decide) (hil : i ≠ l := by decide) (hjl : j ≠ l := by decide) (hx : τ.sc.names.lookup x = some .local := by rfl) (hy : τ.sc.names.lookup y = some .local := by rfl) (hz : τ.sc.names.lookup z = some .local := by rfl) (hc : τ.calm = true := by rfl)
    (hw : ∀ env : Env, env.scope = τ.sc → swappedStores [.Tuple [.Name x px, .Name y py, .Name z pz] kt pt] (.Tuple [a, b, c] k2 pt2) env = pure (some [x, y, z]))
    (hs : ∀ env, swapsWithSole [.Tuple [.Name x px, .Name y py, .Name z pz] kt pt] (.Tuple [a, b, c] k2 pt2) pos.line env = pure false := by intro _; rfl) :
    DPS Ω τ (.Assign [.Tuple [.Name x px, .Name y py, .Name z pz] kt pt] (.Tuple [a, b, c] k2 pt2) pos) (dPar3 i j l tl) := Hd.mk fun X ft F0 E tk F M H σ σ' D e0 g r h => by
  refine wS_of (ps_par3 (i := i) (j := j) (l := l) (ft.calm hc) (by rw [ft.N]; exact ft.nd) (by rw [ft.N]; exact hN) (by rw [ft.N]; exact hM) (by rw [ft.N]; exact hO) hij hil hjl (by rw [ft.sc]; exact hx) (by rw [ft.sc]; exact hy) (by rw [ft.sc]; exact hz) pa_wA (hw _ ft.sc) (hs _)) (wA_mono (ha.run X ft F0 E tk F M H σ σ' _ e0 g r h) ?_)
  rintro vs H1 ⟨F1, M1, ys, e1, g1, r1, q⟩
  match ys, r1, q with
  | [y1, y2, y3], .cons q1 (.cons q2 (.cons q3 .nil)), q => exact ⟨_, _, _, rfl, F1, M1, _, e1, g1, (((r.mono e1).set1 i q1).set1 j q2).set1 l q3, q⟩
/-! a comprehension with a test, by the place -/
theorem lc_test {gd : DG} {dt : DT} {de : DE} {vs : List Nat} {σ : DSt} {Q : DQ} {xs : List D} {M : MH} (keep : Nat → Bool) (val : Nat → D) (hl : lenOk xs.length)
    (h : ∀ p acc i (hi : i < xs.length) (C : DQ) (S : MH → Prop), M p = none → (keep i = true → C (val i) (M.put p (.lst acc))) → (keep i = false → S (M.put p (.lst acc))) →
      gd xs[i] (wipeD σ vs) (M.put p (.lst acc)) (fun σ2 M3 => dt σ2 M3 (fun k M4 => (k = true → de σ2 M4 C noE) ∧ (k = false → S M4)) noE) noE)
    (q : Q (.lst (((List.range xs.length).filter keep).map val)) M) : LcGo gd dt de vs σ Q xs M := by
  intro p hp
  have step : ∀ n, ((List.range (n + 1)).filter keep).map val = ((List.range n).filter keep).map val ++ (if keep n = true then [val n] else []) := by
    intro n
    rw [List.range_succ, List.filter_append, List.map_append]
    congr 1
    by_cases h : keep n = true
    · simp [h]
    · simp [h]
  refine ⟨fun r M2 => ∃ n, n ≤ xs.length ∧ r = xs.drop n ∧ M2 = M.put p (.lst (((List.range n).filter keep).map val)), ⟨0, Nat.zero_le _, by simp, by simp⟩, ?_, ?_⟩
  · rintro M2 ⟨n, hn, hr, rfl⟩
    have : n = xs.length := by
      have := congrArg List.length hr
      simp at this; omega
    subst this
    refine ⟨_, MH.put_same, ?_⟩
    rw [MH.del_put hp]; exact q
  · rintro x r M2 ⟨n, hn, hr, rfl⟩
    have hlt : n < xs.length := by
      rcases Nat.lt_or_ge n xs.length with h | h
      · exact h
      · rw [List.drop_eq_nil_of_le h] at hr; cases hr
    rw [List.drop_eq_getElem_cons hlt] at hr
    cases hr
    refine h p _ n hlt _ _ hp (fun hk => ⟨_, MH.put_same, ?_, n + 1, hlt, rfl, ?_⟩) (fun hk => ⟨n + 1, hlt, rfl, ?_⟩)
    · have := List.length_filter_le keep (List.range n)
      rw [List.length_range] at this
      unfold lenOk at hl ⊢
      rw [List.length_map]; omega
    · rw [MH.put_put, step n, if_pos hk]
    · rw [step n, if_neg (by simp [hk]), List.append_nil]
end
end DL

/-! The deep layer, part r: sorted of tuples of texts. -/
namespace DL
open PySem PySem.Spec PyProof.Rows L2
section
variable {prog : Program} {w : World} {A : Around} {E : Value → Shared → Prop} {s : Shared}
/-- what is taken out of a tuple -/
theorem collect_tup {t : Addr} {us : List Value} {R : List Value → Shared → Prop} (ht : IsTup s.heap t us.toArray) (hz : us.length ≤ sizeLine)
    (h : R us { s with heap := (s.heap.push (seqObj "list" #[] 0)).update s.heap.objs.size (Obj.mapSeq (· ++ us.toArray)) }) : wpAny (model prog w) A (collect (.ref t)) R E s := by
  obtain ⟨ob, hob, hcl, k, hda⟩ := id ht
  unfold collect
  refine wpAny_bind (wpAny_runValue (codeAny_builtin entry_proto_collect' ?_)); show wpAny _ _ (do again (.builtin "list.__iadd__" ⟨[← newList [], .ref t], []⟩)) _ _ s
  refine wpAny_bind (wpAny_newList (wpAny_pure ⟨Code.quiet_builtin _ (by decide +kernel), codeAny_builtin entry_list_iadd' ?_⟩)); show wpAny _ _ (Builtin.List.listExtendWith (.ref s.heap.objs.size) (.ref t) (.ref s.heap.objs.size)) _ _ { s with heap := s.heap.push (seqObj "list" #[] 0) }
  unfold Builtin.List.listExtendWith
  have hob' : (s.heap.push (seqObj "list" #[] 0)).get? t = some ob := Heap.get?_push_of_some _ hob
  refine wpAny_bind (wpAny_typeOf (T := "tuple") ⟨ob, hob', hcl⟩ ?_)
  have tt : (Value.type "tuple" == Value.type "tuple") = true := by rfl
  rw [if_pos (by rw [tt]; simp)]
  refine wpAny_bind (listItems_at hob' hda ?_); refine wpAny_bind (listItems_at (xs := #[]) (n := 0) (Heap.get?_push_size _ rfl) rfl ?_)
  rw [if_neg (by simp)]
  refine wpAny_bind (listUpdate_at (xs := #[]) (n := 0) (Heap.get?_push_size _ rfl) rfl ?_ (Nat.zero_le _) (by show (#[] ++ us.toArray).size ≤ sizeLine + 1; simp only [Array.size_append, List.size_toArray, List.length_nil]; omega))
  refine wpAny_pure ?_
  show wpAny (model prog w) A (do
      let o ← load s.heap.objs.size
      match o.data with | .seq xs _ => pure xs.toList | _ => unsupported "internal:collect") R E { s with heap := (s.heap.push (seqObj "list" #[] 0)).update s.heap.objs.size (Obj.mapSeq (· ++ us.toArray)) }
  refine wpAny_bind (wpAny_load (get?_update_seq (Heap.get?_push_size _ rfl) _) ?_); show wpAny _ _ (pure ((#[] : Array Value) ++ us.toArray).toList) R E _
  rw [show ((#[] : Array Value) ++ us.toArray).toList = us by simp]
  exact wpAny_pure h
theorem sorted_tup {κ : KeyKind} (hO : κ.OneLt) {t : Addr} {us : List Value} {R : Value → Shared → Prop} (ht : IsTup s.heap t us.toArray) (h0 : KeysOf κ (pairsOf us)) (hkk : ∀ v₁ v₂ rest, us = v₁ :: v₂ :: rest → keyKind' (v₁ :: v₂ :: rest).toArray = pure oneType') (h64 : us.length < 64)
    (h : ∀ st' : SortSt, (arrOf st').Perm (pairsOf us) → SortedToK κ (arrOf st') (pairsOf us).size → R (.ref (s.heap.objs.size + 1)) { s with heap := sortedAll s.heap us ((arrOf st').map (·.2)) }) : wpAny (model prog w) A (call (.builtin "sorted") [.ref t]) R E s := by
  refine Calls.call_function_entry kind_sorted plain_sorted entry_sorted (args_sorted1 _) ?_; unfold Builtin.«sorted»
  refine wpAny_bind (m := checkCount "sorted" 1 1 _) (wpAny_pure ?_); refine wpAny_bind (collect_tup ht (small64 h64) ?_)
  refine wpAny_bind (wpAny_newList ?_ (small64 h64))
  have hsz : ((s.heap.push (seqObj "list" #[] 0)).update s.heap.objs.size (Obj.mapSeq (· ++ us.toArray))).objs.size = s.heap.objs.size + 1 := by rw [Heap.size_update, size_push']
  have hoL : (((s.heap.push (seqObj "list" #[] 0)).update s.heap.objs.size (Obj.mapSeq (· ++ us.toArray))).push (seqObj "list" us.toArray 0)).get? (s.heap.objs.size + 1) = some (seqObj "list" us.toArray 0) := by rw [← hsz]; exact Heap.get?_push_size _ rfl
  show wpAny _ _ _ _ _ { s with heap := ((s.heap.push (seqObj "list" #[] 0)).update s.heap.objs.size (Obj.mapSeq (· ++ us.toArray))).push (seqObj "list" us.toArray 0) }
  rw [hsz]
  refine wpAny_bind (wpAny_holding (wpAny_call_entry slot_list_sort ⟨_, hoL, rfl⟩ entry_list_sort (list_sort_treeK hO hoL h0 hkk h64 fun st' b1 b2 => ⟨_, rfl, ?_⟩) (args_list_sort _)))
  exact wpAny_pure ⟨_, rfl, h st' b1 b2⟩
end
section
variable {Ω : Wl} {τ : Sx} {X : Cx}
theorem cr_sortedTS : CallR X (.builtin "sorted") (fun xs H Q => ∃ (a : Addr) (ss : List Str), xs = [.ref a] ∧ SqT X.K H a (ss.map V.str) ∧ ss.length < 64 ∧ ∀ (ys : List Str) (p : Addr), ys.Perm ss → sortedS ys = true → H p = none → Q (.ref p) (upd H p (.lst (ys.map V.str)))) := by
  rintro pins s σ H xs us Q I rv ⟨a, ss, rfl, hs, h64, q⟩
  obtain ⟨u, rfl, ru⟩ := rv.one
  obtain rfl : u = Value.ref a := ru
  obtain ⟨its, r1, ht, _⟩ := I.tuple hs
  have hl := r1.length
  rw [List.length_map] at hl
  refine sorted_tup strKind_oneLt ht r1.strs.keysOf (fun v₁ v₂ rest e => keyKind_strs (by rw [← e]; exact r1.strs)) (by rw [← hl]; exact h64) fun st' hp hs' => ?_
  obtain ⟨ys, h1, h2, h3⟩ := sorted_out_str r1.strs hp hs'
  obtain ⟨ep, he'⟩ := sortedAll_at s.heap its ((arrOf st').map (·.2))
  refine ⟨.ref _, upd H (s.heap.objs.size + 1) (.lst (ys.map V.str)), I.laid (t' := s.toks) (fun _ _ => sortedAll_old) (Nat.le_succ _) ⟨?_, _, ep, vals_of_strs h1, he'⟩, rfl, q ys _ h2 h3 (I.hok.fresh (Nat.le_succ _))⟩
  rw [List.length_map, h2.length_eq]; exact small64 h64
/-- sorted, of texts in a list or a tuple -/
def srtO : D → MH → DQ → Prop := fun d M Q => match d with
  | .tup xs => ∃ ws : List Str, xs = ws.map .str ∧ ws.length < 64 ∧ ∀ ys : List Str, ys.Perm ws → sortedS ys = true → Q (.lst (ys.map D.str)) M
  | d => strsO (fun xs M Q => xs.length < 64 ∧ ∀ ys : List Str, ys.Perm xs → sortedS ys = true → Q (.lst (ys.map D.str)) M) d M Q
theorem rpl_strs {K : PySem.W.Frag} {F : Hp} : ∀ ys : List Str, RpL K F (ys.map V.str) (ys.map D.str)
  | [] => .nil
  | y :: ys => .cons (.str y) (rpl_strs ys)
theorem cb_sortedA : CallB X (.builtin "sorted") (ob1 srtO) := callB1 fun F M H v d Q g r q => by
  cases d
  case tup xs =>
    obtain ⟨ws, rfl, h64, q⟩ := q
    cases r with | tup hs hr =>
    have hs2 := SqT.fz (K := X.K) (hs.mono g.ex)
    rw [rpl_str hr] at hs2
    exact wC_of cr_sortedTS ⟨_, ws, rfl, hs2, h64, fun ys p h5 h6 hp => rp_lstN g hp (rpl_strs ys) (q ys h5 h6)⟩
  all_goals exact (cb_sortedS (X := X)) F M H [v] [_] Q g (.cons r .nil) q
end
/-- two sorted rows of the same texts are the same -/
theorem cps_inj {a b : Str} (h : a.cps.toList = b.cps.toList) : a = b := by
  cases a; cases b
  simp only at h
  congr
  exact Array.toList_inj.mp h
def leS (a b : Str) : Prop := a.cps.toList ≤ b.cps.toList
theorem rising_pw : ∀ (p : Str) (l : List Str), risingS p l = true → (p :: l).Pairwise leS
  | p, [], _ => by simp
  | p, x :: r, h => by
    have h' : (!ltCps x.cps.toList p.cps.toList && risingS x r) = true := h
    rw [Bool.and_eq_true] at h'
    have ih := rising_pw x r h'.2
    have h1 : leS p x := by
      have := h'.1
      rw [ltCps_eq] at this
      have h2 : ¬ x.cps.toList < p.cps.toList := by simpa using this
      exact List.not_lt.mp h2
    rw [List.pairwise_cons]
    refine ⟨fun y hy => ?_, ih⟩
    rcases List.mem_cons.mp hy with rfl | hy
    · exact h1
    · exact List.le_trans h1 ((List.pairwise_cons.mp ih).1 y hy)
theorem sorted_pw : ∀ {l : List Str}, sortedS l = true → l.Pairwise leS
  | [], _ => .nil
  | x :: r, h => rising_pw x r h
theorem sorted_same {xs ys : List Str} (hp : xs.Perm ys) (h1 : sortedS xs = true) (h2 : sortedS ys = true) : xs = ys :=
  List.Perm.eq_of_pairwise (le := leS) (fun a b _ _ h3 h4 => cps_inj (List.le_antisymm h3 h4)) (sorted_pw h1) (sorted_pw h2) hp
end DL

/-! The deep layer, part s: name = {k: v for ..}. -/
namespace DL
open PySem PySem.Spec PyProof.Rows L2
section
variable {Ω : Wl} {τ : Sx} {X : Cx} {a b c e o f tg iter elt kx vx : Expr} {es rest ifs : List Expr} {da db dc de dv dk : DE} {ta tb dt : DT} {tl tr : DA} {pos p p2 apos cpos pos' : Pos} {x m : Str} {vs : List Nat} {gs : List Str} {id T : String}
theorem sw_trueD {kx vx : Expr} {gs : List Comprehension} {scope : Scope} {pos py : Pos} {y : Str} {l : Nat} {env : Env} (hk : env.scope.kind = .function) (hy : env.scope.names.lookup y = some .local) (hl : (py.line == pos.line) = true)
    (ha : (scope.names.any fun (n, k) => n == y && (k == .local || k == .cell)) = false) : swapsWith (.DictComp kx vx gs scope pos) (some (.Name y py)) l env = pure true := by
  have ky : env.kindOf y = some .local := hy
  have hb : env.blockKind = .function := by unfold Env.blockKind; rw [hk]; rfl
  unfold swapsWith
  simp only [hb, ky, ha, Expr.pos, hl]
  rfl
theorem ps_setDc {i : Nat} {y : Str} {py : Pos} {kx vx tg iter : Expr} {ifs : List Expr} {scope : Scope} {own : List (Str × Nat)} {pos spos : Pos} {wi : TI} {g : TG} {tt : TT} {tk tv : TE} (hc : X.calm = true) (hN : X.N.Nodup) (hy : X.N[i]? = some y) (hyl : X.env.scope.names.lookup y = some .local)
    (hsw : swapsWith (.DictComp kx vx [⟨tg, iter, ifs, 0⟩] scope pos) (some (.Name y py)) spos.line X.env = pure true) (hi : PI X tg iter wi) (ok : BlkOk X.N X.env.scope scope own)
    (hg : ∀ (s : Shared) (H : Hp) (C : Addr) (cl : List (Str × Addr)) (fp : List Addr), PG (X.blk s H scope (compEnvC scope cl C X.env) fp) tg g) (ht : ∀ (s : Shared) (H : Hp) (C : Addr) (cl : List (Str × Addr)) (fp : List Addr), PTs (X.blk s H scope (compEnvC scope cl C X.env) fp) ifs tt)
    (hk : ∀ (s : Shared) (H : Hp) (C : Addr) (cl : List (Str × Addr)) (fp : List Addr), PE (X.blk s H scope (compEnvC scope cl C X.env) fp) kx tk)
    (he : ∀ (s : Shared) (H : Hp) (C : Addr) (cl : List (Str × Addr)) (fp : List Addr), PE (X.blk s H scope (compEnvC scope cl C X.env) fp) vx tv) (hs : ∀ x, foldedSetIterable iter X.env x = pure x) :
    PS X (.Assign [.Name y py] (.DictComp kx vx [⟨tg, iter, ifs, 0⟩] scope pos) spos) (tAsg (tDc wi g tt tk tv (own.map (·.2))) (gName i)) := by
  refine ⟨fun pins s σ H D I h => ?_⟩
  rw [exec_Assign_Name_used _ _ _ _ hsw]
  refine wpAny_bind (wpAny_standAt (wpAny_bind ?_))
  show wpAny _ X.A (do let _ ← comprehension (.DictComp kx vx [⟨tg, iter, ifs, 0⟩] scope pos) scope X.env (firstIterPos [⟨tg, iter, ifs, 0⟩] pos) newDict false (eval iter X.env) (some (assign (.Name y py) X.env))) _ _ s
  have h : tDc wi g tt tk tv (own.map (·.2)) σ H (fun x H1 => gName i x σ H1 D.nx) := h
  refine wpAny_bind (thn (dc_core (Qf := fun _ s' => SP X pins D .next s') hc hN I hi ok hg ht hk he hs h fun L C s' m H' I' q hn f => ?_) fun _ s' hq => wpAny_pure (wpAny_pure hq))
  show wpAny _ _ (assign (.Name y py) X.env (.ref L)) _ _ _
  refine wpAny_assign_Name (store_ok2 (v := V.ref L) I' hN hy (.inl hyl) rfl (fun s2 I2 ⟨a, sb, ha⟩ => ?_) (.inr hyl))
  obtain ⟨f0, f1, f2, f3, f4, f5⟩ := f
  have haC : C ≠ a := by
    rcases ha with z | z
    · rw [z]; exact f1
    · exact fun e => f4 y a z e.symm
  refine ⟨m, hn.sameBut sb haC, fun h3 sb3 => ?_⟩
  exact ⟨_, H', I2.turned (t' := s2.toks) (fun b o hb e => (sb3.2 b hb).trans e) f0 f1 f3 f4 f5, q⟩
/-- name = {..} on one line -/
theorem dps_setDc {ls : List Nat} {y : Str} {py spos : Pos} (L : StOk τ.N ls τ.sc τ.own) (i : Nat) {scope : Scope} {is : List Nat} {di : DI} {gd : DG} (own : List (Str × Nat)) (hok : blkC τ.N τ.sc scope own = true) (hi : DPI Ω τ tg iter di) (hg : DPG Ω (τ.blk scope) is tg gd) (ht : DPTs Ω (τ.blk scope) ifs dt) (hk0 : DP Ω (τ.blk scope) kx dk) (he : DP Ω (τ.blk scope) vx dv)
    (hv : ∀ i ∈ is, i ∈ own.map (·.2) := by decide) (hN : τ.N[i]? = some y := by rfl) (hy : τ.sc.names.lookup y = some .local := by decide +kernel) (hl : (py.line == pos.line) = true := by rfl)
    (hk : τ.sc.kind = .function := by rfl) (hf : (scope.names.any fun (n, k) => n == y && (k == .local || k == .cell)) = false := by decide +kernel) (hc : τ.calm = true := by rfl) (hs : ∀ env x, foldedSetIterable iter env x = pure x := by intro _ _; rfl) :
    DPS Ω τ (.Assign [.Name y py] (.DictComp kx vx [⟨tg, iter, ifs, 0⟩] scope pos) spos) (dSet i (dDc di gd dt dk dv (own.map (·.2)))) := Hd.mk fun X ft F0 E tk F M H σ σ' D e0 g r h => by
  refine wS_of (ps_setDc (i := i) (ft.calm hc) (by rw [ft.N]; exact ft.nd) (by rw [ft.N]; exact hN) (by rw [ft.sc]; exact hy) (sw_trueD (by rw [ft.sc]; exact hk) (by rw [ft.sc]; exact hy) hl hf) pi_wI (blkOk_by (by rw [ft.N, ft.sc]; exact hok))
    (fun s H0 C cl fp => ⟨fun pins s1 σ1 H1 v u Q1 I1 rv q => q s H0 C cl fp pins s1 u I1 rv⟩) (fun s H0 C cl fp => ⟨fun pins s1 σ1 H1 Q1 I1 q => q s H0 C cl fp pins s1 I1⟩) (fun s H0 C cl fp => ⟨fun pins s1 σ1 H1 Q1 I1 q => q s H0 C cl fp pins s1 I1⟩) (fun s H0 C cl fp => ⟨fun pins s1 σ1 H1 Q1 I1 q => q s H0 C cl fp pins s1 I1⟩) (hs _))
    (ddc_t own hok hi hg ht hk0 he hv ft tk e0 g r h ?_)
  rintro v H1 ⟨F1, M1, d, e1, g1, r1, q⟩
  exact ⟨F1, M1, _, e1, g1, (r.mono e1).set1 i r1, q⟩
/-- a target of names of which one is a cell -/
theorem dps_asgC {is : List Nat} {gd : DG} (he : DP Ω τ e de) (hg : DPG Ω τ is tg gd) (hw : ∀ env : Env, env.scope = τ.sc → swappedStores [tg] e env = pure none) (hs : ∀ env, swapsWithSole [tg] e pos.line env = pure false := by intro _; rfl) (h1 : ∀ env, (assignEach [tg] env).map (·.2) = [assign tg env] := by intro _; rfl) :
    DPS Ω τ (.Assign [tg] e pos) (dAsg de gd) := Hd.mk fun X ft F0 E tk F M H σ σ' D e0 g r h => by
  refine wS_of (ps_asg pe_wE pg_wG (hs _) (hw _ ft.sc) (h1 _)) (wE_mono (he.run X ft F0 E tk F M H σ σ' _ e0 g r h) ?_)
  rintro v H1 ⟨F1, M1, y, e1, g1, r1, q⟩
  exact wG_mono (hg.run X ft F0 E tk F1 M1 H1 σ σ' v y _ (e0.trans e1) g1 (r.mono e1) r1 q) fun _ _ z => z.2.back e1
/-- name = [..] or {..} where the store is not exchanged -/
theorem dps_setC {ls : List Nat} {p' : Pos} (L : StOk τ.N ls τ.sc τ.own) (i : Nat) (he : DP Ω τ e de) (hs : ∀ env : Env, env.scope = τ.sc → swapsWith e (some (.Name x p')) pos.line env = pure false) (hN : τ.N[i]? = some x := by rfl) (hi : i ∈ ls := by decide) : DPS Ω τ (.Assign [.Name x p'] e pos) (dSet i de) := Hd.mk fun X ft F0 E tk F M H σ σ' D e0 g r h => by
  refine wS_of (ps_set (i := i) (by rw [ft.N]; exact ft.nd) (by rw [ft.N]; exact hN) (fit_loc ft L hN hi) pe_wE (hs _ ft.sc) (ft.fn x (L.loc i hi x hN).2 (L.loc i hi x hN).1)) (wE_mono (he.run X ft F0 E tk F M H σ σ' _ e0 g r h) ?_)
  rintro v H1 ⟨F1, M1, y, e1, g1, r1, q⟩
  exact ⟨F1, M1, _, e1, g1, (r.mono e1).set1 i r1, q⟩
end
end DL

/-! The deep layer, part t: comprehensions by an invariant of what changes. -/
namespace DL
open PySem PySem.Spec PyProof.Rows L2
theorem lc_invT {gd : DG} {dt : DT} {de : DE} {vs : List Nat} {σ : DSt} {Q : DQ} {xs : List D} {M : MH} (J : Nat → List D → MH → Prop) (hl : lenOk xs.length) (h0 : J 0 [] M)
    (hs : ∀ i acc p M' (hi : i < xs.length) (C : DQ) (N : MH → Prop), J i acc M' → acc.length ≤ i → M' p = none → (∀ y M5, M5 p = none → J (i + 1) (acc ++ [y]) M5 → C y (M5.put p (.lst acc))) → (∀ M5, M5 p = none → J (i + 1) acc M5 → N (M5.put p (.lst acc))) →
      gd xs[i] (wipeD σ vs) (M'.put p (.lst acc)) (fun σ2 M3 => dt σ2 M3 (fun k M4 => (k = true → de σ2 M4 C noE) ∧ (k = false → N M4)) noE) noE)
    (q : ∀ acc M', J xs.length acc M' → acc.length ≤ xs.length → Q (.lst acc) M') : LcGo gd dt de vs σ Q xs M := by
  intro p hp
  refine ⟨fun r M2 => ∃ i acc M', i ≤ xs.length ∧ r = xs.drop i ∧ J i acc M' ∧ acc.length ≤ i ∧ M' p = none ∧ M2 = M'.put p (.lst acc), ⟨0, [], M, Nat.zero_le _, by simp, h0, Nat.le_refl _, hp, rfl⟩, ?_, ?_⟩
  · rintro M2 ⟨i, acc, M', hi, hr, hJ, ha, hp', rfl⟩
    have : i = xs.length := by
      have := congrArg List.length hr
      simp at this; omega
    subst this
    refine ⟨_, MH.put_same, ?_⟩
    rw [MH.del_put hp']; exact q _ _ hJ ha
  · rintro x r M2 ⟨i, acc, M', hi, hr, hJ, ha, hp', rfl⟩
    have hlt : i < xs.length := by
      rcases Nat.lt_or_ge i xs.length with h | h
      · exact h
      · rw [List.drop_eq_nil_of_le h] at hr; cases hr
    rw [List.drop_eq_getElem_cons hlt] at hr
    cases hr
    refine hs i acc p M' hlt _ _ hJ ha hp' ?_ ?_
    · intro y M5 h5 hJ5
      refine ⟨acc, MH.put_same, ?_, i + 1, acc ++ [y], M5, hlt, rfl, hJ5, by rw [List.length_append]; exact Nat.add_le_add_right ha 1, h5, by rw [MH.put_put]⟩
      unfold lenOk at hl ⊢; omega
    · intro M5 h5 hJ5
      exact ⟨i + 1, acc, M5, hlt, rfl, hJ5, by omega, h5, rfl⟩
theorem lc_inv {gd : DG} {de : DE} {vs : List Nat} {σ : DSt} {Q : DQ} {xs : List D} {M : MH} (J : Nat → List D → MH → Prop) (hl : lenOk xs.length) (h0 : J 0 [] M)
    (hs : ∀ i acc p M' (hi : i < xs.length) (C : DQ), J i acc M' → acc.length ≤ i → M' p = none → (∀ y M5, M5 p = none → J (i + 1) (acc ++ [y]) M5 → C y (M5.put p (.lst acc))) →
      gd xs[i] (wipeD σ vs) (M'.put p (.lst acc)) (fun σ2 M3 => de σ2 M3 C noE) noE)
    (q : ∀ acc M', J xs.length acc M' → acc.length ≤ xs.length → Q (.lst acc) M') : LcGo gd dYes de vs σ Q xs M := by
  refine lc_invT J hl h0 (fun i acc p M' hi C N hJ ha hp hC hN => ?_) q
  have key := hs i acc p M' hi C hJ ha hp hC
  have e : (fun (σ2 : DSt) (M3 : MH) => dYes σ2 M3 (fun k M4 => (k = true → de σ2 M4 C noE) ∧ (k = false → N M4)) noE) = fun σ2 M3 => de σ2 M3 C noE := by
    funext σ2 M3
    simp [dYes]
  rw [e]; exact key
theorem lc_inv_range {gd : DG} {de : DE} {vs : List Nat} {σ : DSt} {Q : DQ} {lo : Int} {n : Nat} {M : MH} (J : Nat → List D → MH → Prop) (hl : lenOk n) (h0 : J 0 [] M)
    (hs : ∀ i acc p M' (C : DQ), i < n → J i acc M' → acc.length ≤ i → M' p = none → (∀ y M5, M5 p = none → J (i + 1) (acc ++ [y]) M5 → C y (M5.put p (.lst acc))) →
      gd (.int (lo + (i : Nat))) (wipeD σ vs) (M'.put p (.lst acc)) (fun σ2 M3 => de σ2 M3 C noE) noE)
    (q : ∀ acc M', J n acc M' → acc.length ≤ n → Q (.lst acc) M') : LcGo gd dYes de vs σ Q (rangeD lo n) M := by
  refine lc_inv J (by rw [rangeD_length]; exact hl) h0 (fun i acc p M' hi C hJ ha hp hC => ?_) (by rw [rangeD_length]; exact q)
  have hi' : i < n := by rwa [rangeD_length] at hi
  have e : (rangeD lo n)[i] = .int (lo + (i : Nat)) := by
    have := rangeD_get (lo := lo) hi'
    rw [List.getElem?_eq_getElem hi] at this
    exact Option.some.inj this
  rw [e]
  exact hs i acc p M' C hi' hJ ha hp hC
/-! an instance that is made and from then on stands still, by a promise of its own -/
section
variable {Ω : Wl} {τ : Sx} {X : Cx} {e : Expr} {es : List Expr} {tl : DA} {pos p : Pos} {vs : List Nat} {gs : List Str} {C : Str} {k : Nat} {ps : List Str} {sp spc : DSp}
def dMk (spc : DSp) (t : DA) : DE := fun σ M Q E => t σ M (fun ds M1 => spc ds M1 Q fun er M2 => E er σ M2) E
def MkOf (C : Str) (n : Nat) (sp spc : DSp) : Prop := ∀ (ds : List D) (M : MH) (Q : DQ) (E : Er → MH → Prop), spc ds M Q E → ds.length + 1 = n ∧ ∀ x, M x = none → sp (.ref x :: ds) (M.put x (.ins C [] [])) (fun v M2 => v = .non ∧ frzO (.ref x) M2 Q) E
theorem dp_mkO (c : CalI Ω C k ps sp) (hM : MkOf C ps.length sp spc) (S : ScOk τ.N vs gs τ.sc) (ha : DPA Ω τ (e :: es) tl) (hg : C ∈ gs := by decide) (hk : k + 1 ≤ τ.k := by decide) (hdb : (C == ("__debug__" : Str)) = false := by decide)
    (he : ∀ env, starEach (e :: es) env = (false, eval e env) :: starEach es env := by intro _; rfl) (hpl : ∀ env, (backTo pos (starEach es env)).any (·.1) = false := by intro _; rfl) : DP Ω τ (.Call (.Name C p) (e :: es) [] pos) (dMk spc tl) := Hd.mk fun X ft F0 E tk F M H σ σ' Q e0 g r h pins s I => by
  obtain ⟨f, fd, F1, Mc, hb, hm⟩ := c
  rw [← ft.K] at Mc hm
  refine wpAny_Call_Name_kw (ld_glob I (fit_gl ft S hg) (by rw [ft.mg]; exact hm) ?_ hdb)
  refine PySem.W.callWith_K (h₀ := X.base) I.ok.mod.kin Mc.kp (thn (ha.run X ft F0 E tk F M H σ σ' _ e0 g r h pos pins s I) ?_) (he _) (hpl _)
  rintro us s1 ⟨ws, H1, I1, rv, F2, M2, ds, e2, g2, r2, q⟩
  obtain ⟨hl, q⟩ := hM _ _ _ _ q
  refine ⟨I1.kIn, thn (run_made (Q := fun y M3 => frzO y M3 Q) ft Mc F1 hk hb tk I1 rv (e0.trans e2) g2 (r.mono e2) r2 hl q) ?_⟩
  rintro u s2 ⟨v, H2, I2, rv2, F3, M3, y, e3, g3, r3, q2⟩
  exact ⟨v, H2, I2, rv2, LQ.back (e2.trans e3) (frzO_ok g3 r3 q2)⟩
end
/-- the range from a place on -/
def natsD (lo n : Nat) : List D := (List.range n).map fun i => .int ((lo + i : Nat) : Int)
theorem MH.put_ne' {M : MH} {a b : Addr} {o : MO} (h : M b = none) (k : ∃ u, M a = some u) : (M.put b o) a = M a := MH.put_ne fun z => by
  obtain ⟨u, k⟩ := k
  rw [z, h] at k; cases k
end DL

/-! The deep layer, part u: texts joined. -/
namespace DL
open PySem PySem.Spec PyProof.Rows L2
section
variable {Ω : Wl} {τ : Sx} {X : Cx} {a b c e o tg iter elt : Expr} {es rest ifs : List Expr} {da db dc de : DE} {ta tb dt : DT} {tl tr : DA} {pos p p2 apos : Pos} {x m : Str} {vs : List Nat} {gs : List Str}
def dJoin (dx dy : DE) : DE := fun σ M Q E => dx σ M (fun x M1 => ∃ a, x = .str a ∧ dy σ M1 (fun y M2 => seqD y M2 fun zs => ∃ ys : List Str, zs = ys.map .str ∧ (ys.map (·.length)).sum + ys.length * a.length ≤ 16777216 ∧ Q (.str (Txt.join a ys)) M2) E) E
theorem dp_join (ho : DP Ω τ o da) (he : DP Ω τ e db) (hs : ∀ env, starEach [e] env = [(false, eval e env)] := by intro _; rfl) (hbase : ∀ env, attributeBase o "join" env (eval o env) = eval o env := by intro _; rfl) (hline : (apos.endLine == pos.line) = true := by rfl) :
    DP Ω τ (.Call (.Attribute o "join" apos) [e] [] pos) (dJoin da db) := Hd.mk fun X ft F0 E tk F M H σ σ' Q e0 g r h => by
  refine wE_of (pe_join pe_wE pe_wE (hs _) (hbase _) hline) (wE_mono (ho.run X ft F0 E tk F M H σ σ' _ e0 g r h) ?_)
  rintro x H1 ⟨F1, M1, x', e1, g1, r1, a, rfl, q1⟩
  cases r1
  refine ⟨⟨a, rfl⟩, wE_mono (he.run X ft F0 E tk F1 M1 H1 σ σ' _ (e0.trans e1) g1 (r.mono e1) q1) ?_⟩
  rintro y H2 ⟨F2, M2, y', e2, g2, r2, q2⟩
  obtain ⟨p, ws, xs, rfl, h1, h2, ys, rfl, h3, h4⟩ := seqD_ok g2 r2 q2
  rw [rpl_str h2] at h1
  exact ⟨a, p, ys, rfl, rfl, h1.symm, h3, F2, M2, _, e1.trans e2, g2, .str _, h4⟩
end
end DL

/-! The deep layer, part v: ==, != of lists and tuples of instances with an own __eq__, all alike. -/
namespace GQN
open PySem PySem.SeqAt
open AutoSeq1 (wpAny_loadPart')
open MeetsSeq MeetsSeq2 MeetsSeq3 SeqRoads2 GQ
section
variable {prog : Program} {w : World} {A : Around} {R : Result → Shared → Prop}
theorem ne_loopG (l b : Addr) (N : Nat) (I : Nat → Shared → Prop) (hl : ListI prog w A (fun e s' => R (.error e) s') l b N I)
    (fin : ∀ s, I N s → R (.ok (.ret (.bool false))) s) (k : Nat) :
    ∀ i : Nat, N - i = k → i ≤ N → ∀ s, I i s →
      wpAny (model prog w) A.in1 (Builtin.«list.__eq__.loop» ⟨[.ref l, .ref b, rawInt i, rawInt 3], []⟩) (FinOf prog w A R) (fun e s' => R (.error e) s') s := by
  induction k with
  | zero =>
    intro i hk hi s h
    obtain ⟨items, items2, n, n2, hl1, hb1, hs1, hs2, _⟩ := hl _ _ h
    have hi' : i = N := by omega
    have hR : R (.ok (.ret (.bool false))) s := fin s (hi' ▸ h)
    obtain ⟨hp, g, d, tk, os⟩ := s
    wp_walk using wpAny_loadPart' hl1, wpAny_loadPart' hb1
    have hi1 : items[((i : Nat) : Int).toNat]? = none := by simp; omega
    have hi2 : items2[((i : Nat) : Int).toNat]? = none := by simp; omega
    rw [hi1, hi2]
    wp_walk using wpAny_loadPart' hl1, wpAny_loadPart' hb1
    show R (.ok (.ret (.bool (items.size != items2.size)))) _
    rw [hs1, hs2]
    simpa using hR
  | succ k ih =>
    intro i hk hi s h
    obtain ⟨items, items2, n, n2, hl1, hb1, hs1, hs2, turn⟩ := hl _ _ h
    have hlt : i < items.size := by omega
    have hlt2 : i < items2.size := by omega
    have ht := turn hlt hlt2
    obtain ⟨hp, g, d, tk, os⟩ := s
    wp_walk using wpAny_loadPart' hl1, wpAny_loadPart' hb1
    have hi1 : items[((i : Nat) : Int).toNat]? = some items[i] := by simp [hlt]
    have hi2 : items2[((i : Nat) : Int).toNat]? = some items2[i] := by simp [hlt2]
    have hc : ((i : Int) + 1) = ((i + 1 : Nat) : Int) := by omega
    rw [hi1, hi2]
    refine wpAny_bind (wpAny_mono ht (fun r s2 h2 => ?_) fun _ _ x => x)
    obtain ⟨hr, h2⟩ := h2
    subst hr
    have hrec := ih (i + 1) (by omega) (by omega) s2 h2
    obtain ⟨hp2, g2, d2, tk2, os2⟩ := s2
    wp_walk
    rw [hc]
    exact ⟨plainId_quiet plain_eq_loop _, codeAny_builtin entry_eq_loop (by
      rw [Around.under_plainId plain_eq_loop _]
      exact hrec)⟩
theorem list_neG (l b : Addr) (N : Nat) (I : Nat → Shared → Prop) (hl : ListI prog w A (fun e s' => R (.error e) s') l b N I)
    (fin : ∀ s, I N s → R (.ok (.ret (.bool false))) s) {s : Shared} (h : I 0 s) :
    wpAny (model prog w) A.in1 (Builtin.«list.__ne__» ⟨[.ref l, .ref b], []⟩) (FinOf prog w A R) (fun e s' => R (.error e) s') s := by
  obtain ⟨items, items2, n, n2, hl1, hb1, hs1, hs2, _⟩ := hl _ _ h
  have hrec := ne_loopG (A := A) (R := R) l b N I hl fin _ 0 rfl (Nat.zero_le _) s h
  obtain ⟨hp, g, d, tk, os⟩ := s
  have f3 := AutoSeq1.sub_list_list
  have hne : ¬ (items.size != items2.size) = true := by simp [hs1, hs2]
  wp_walk using wpAny_loadPart' hl1, wpAny_loadPart' hb1
  exact ⟨plainId_quiet plain_eq_loop _, codeAny_builtin entry_eq_loop (by
    rw [Around.under_plainId plain_eq_loop _]
    exact hrec)⟩
theorem tuple_neG (l b : Addr) (items items2 : Array Value) (n n2 : Nat) (dd dd2 : Option Addr) (sl sl2 : Array (Option Value)) (hsz : items.size = items2.size) (I : Nat → Shared → Prop)
    (turn : ∀ i (h1 : i < items.size) (h2 : i < items2.size) s, I i s → wpAny (model prog w) A.in1 (eqBool items[i] items2[i]) (fun r s' => r = true ∧ I (i + 1) s') (fun e s' => R (.error e) s') s)
    (fin : ∀ s, I items.size s → R (.ok (.ret (.bool false))) s) {s : Shared} (hl1 : s.heap.get? l = some { cls := .type "tuple", dict := dd, data := .seq items n, slots := sl }) (hb1 : s.heap.get? b = some { cls := .type "tuple", dict := dd2, data := .seq items2 n2, slots := sl2 }) (h : I 0 s) :
    wpAny (model prog w) A.in1 (Builtin.«tuple.__ne__» ⟨[.ref l, .ref b], []⟩) (FinOf prog w A R) (fun e s' => R (.error e) s') s := by
  have f2 := AutoSeq1.sub_tuple_tuple
  have hZ : (items.toList.zip items2.toList).length = items.size := by simp [hsz]
  have h0 := h
  obtain ⟨hp, g, d, tk, os⟩ := s
  wp_walk using wpAny_loadPart' hl1, wpAny_loadPart' hb1, wpAny_forIn_list _ (fun rest b s' => b.1 = none ∧ ∃ i, rest = (items.toList.zip items2.toList).drop i ∧ i ≤ items.size ∧ I i s') _
  case turn =>
    rintro ⟨y, x⟩ rest b s' ⟨hb', i, hz, hi, hI⟩
    have hlt : i < (items.toList.zip items2.toList).length := by
      rcases Nat.lt_or_ge i (items.toList.zip items2.toList).length with h' | h'
      · exact h'
      · rw [List.drop_of_length_le h'] at hz; cases hz
    have h1 : i < items.size := hZ ▸ hlt
    have h2 : i < items2.size := hsz ▸ h1
    rw [List.drop_eq_getElem_cons hlt] at hz
    injection hz with hyx hrest
    have hy : y = items[i] := by have := congrArg Prod.fst hyx; simpa using this
    have hx : x = items2[i] := by have := congrArg Prod.snd hyx; simpa using this
    subst hy hx
    refine wpAny_bind (wpAny_mono (turn i h1 h2 s' hI) (fun r s2 q2 => ?_) fun _ _ x => x)
    obtain ⟨hr, q2⟩ := q2
    subst hr
    wp_walk
    exact ⟨rfl, i + 1, hrest, h1, q2⟩
  case fin =>
    rintro ⟨b1, b2⟩ s' ⟨hb', i, hz, hi, hI⟩
    simp only at hb'
    subst hb'
    have hge : items.size ≤ i := by
      rcases Nat.lt_or_ge i (items.toList.zip items2.toList).length with h' | h'
      · rw [List.drop_eq_getElem_cons h'] at hz; cases hz
      · exact hZ ▸ h'
    have hi' : i = items.size := by omega
    have hR : R (.ok (.ret (.bool false))) s' := fin s' (hi' ▸ hI)
    wp_walk
    simpa [Builtin.Tuple.tupleCompareSizes, hsz] using hR
  case h =>
    exact ⟨rfl, 0, rfl, Nat.zero_le _, h0⟩
end
section
variable {prog : Program} {w : World} {A : Around} {E : Value → Shared → Prop} {s : Shared}
theorem rc_nlistG {l b : Addr} {N : Nat} {Q : Value → Shared → Prop} (hu : A.units < cLine) (I : Nat → Shared → Prop) (hl : ListI prog w A E l b N I)
    (fin : ∀ s, I N s → Q (.bool false) s) (h : I 0 s) : wpAny (model prog w) A (richCompare .NotEq (.ref l) (.ref b)) Q E s := by
  obtain ⟨items, items2, n, n2, hl1, hb1, _, _, _⟩ := hl _ _ h
  refine wpAny_richCompare_same_room (op := .NotEq) ⟨_, hl1, rfl⟩ ⟨_, hb1, rfl⟩ F.slot_list_ne (call_here F.slot_list_ne ⟨_, hl1, rfl⟩ F.entry_list_ne (F.args_list_ne_2 _ _) ?_) hu
  exact list_neG (R := wants (fun v s' => v ≠ .notImplemented ∧ Q v s') E) l b N I hl (fun s' q => ⟨(fun x => nomatch x), fin s' q⟩) h
theorem rc_ntupG {l b : Addr} {items items2 : Array Value} {Q : Value → Shared → Prop} (hsz : items.size = items2.size) (hu : A.units < cLine) (I : Nat → Shared → Prop)
    (hl : s.heap.IsTuple l items) (hb : s.heap.IsTuple b items2)
    (turn : ∀ i (h1 : i < items.size) (h2 : i < items2.size) s, I i s → wpAny (model prog w) A.in1 (eqBool items[i] items2[i]) (fun r s' => r = true ∧ I (i + 1) s') E s)
    (fin : ∀ s, I items.size s → Q (.bool false) s) (h : I 0 s) : wpAny (model prog w) A (richCompare .NotEq (.ref l) (.ref b)) Q E s := by
  obtain ⟨⟨cls, dd, data, sl⟩, ho, hc, n, hd⟩ := id hl
  obtain ⟨⟨cls2, dd2, data2, sl2⟩, ho2, hc2, n2, hd2⟩ := id hb
  simp only at hc hd hc2 hd2
  subst hc hd hc2 hd2
  refine wpAny_richCompare_same_room (op := .NotEq) ⟨_, ho, rfl⟩ ⟨_, ho2, rfl⟩ F.slot_tuple_ne (call_here F.slot_tuple_ne ⟨_, ho, rfl⟩ F.entry_tuple_ne (F.args_tuple_ne_2 _ _) ?_) hu
  exact tuple_neG (R := wants (fun v s' => v ≠ .notImplemented ∧ Q v s') E) l b items items2 n n2 dd dd2 sl sl2 hsz I turn (fun s' q => ⟨(fun x => nomatch x), fin s' q⟩) ho ho2 h
end
end GQN
namespace DL
open PySem PySem.Spec PyProof.Rows L2
section
variable {Ω : Wl} {τ : Sx} {X : Cx} {C : Str} {k : Nat} {sp : DSp}
/-- two values of an own class, alike by its __eq__ -/
def eqOne (C : Str) (sp : DSp) (M : MH) (d e : D) : Prop := insD C d M fun _ _ => insD C e M fun _ _ => sp [d, e] M (fun v M2 => v = .bl true ∧ M2 = M) fun _ _ => False
def eqPairs (C : Str) (sp : DSp) (M : MH) : List D → List D → Prop
  | [], [] => True
  | d :: ds, e :: es => eqOne C sp M d e ∧ eqPairs C sp M ds es
  | _, _ => False
theorem eqPairs.len {M : MH} : ∀ {ds es : List D}, eqPairs C sp M ds es → ds.length = es.length
  | [], [], _ => rfl
  | _ :: _, _ :: _, h => congrArg (· + 1) (eqPairs.len h.2)
  | [], _ :: _, h => h.elim
  | _ :: _, [], h => h.elim
theorem eqPairs.at {M : MH} : ∀ {ds es : List D} {i : Nat} {d e : D}, eqPairs C sp M ds es → ds[i]? = some d → es[i]? = some e → eqOne C sp M d e
  | [], _, _, _, _, _, h, _ => by simp at h
  | _ :: _, [], _, _, _, h, _, _ => h.elim
  | _ :: _, _ :: _, 0, _, _, h, h1, h2 => by simp at h1 h2; subst h1; subst h2; exact h.1
  | _ :: _, _ :: _, i + 1, _, _, h, h1, h2 => eqPairs.at (i := i) h.2 (by simpa using h1) (by simpa using h2)
/-- == within, by the own __eq__ -/
theorem eqb_own (c : CalS Ω C "__eq__" k ["self", "other"] sp) (ft : Fit Ω τ X) {A : Around} (room : Room k A) (gd : A.guards = some []) (fr : A.frames = some X.stack) {F : Hp} {M : MH} {H : Hp} {x y : V} {d e : D} (g : G X.K F M H) (rx : Rp X.K F x d) (ry : Rp X.K F y e) (h : eqOne C sp M d e)
    {pins : List (Addr × Obj)} {σ : L2.St} {s : Shared} {v u : Value} (I : Inv X pins σ H s) (rv : RelV x v) (ru : RelV y u) :
    wpAny (model X.prog X.w) A (eqBool v u) (fun r s' => r = true ∧ ∃ H' F', Inv X pins σ H' s' ∧ Ex F F' ∧ G X.K F' M H') X.xe s := by
  obtain ⟨f, fd, F1, hb, hs, hf⟩ := c
  rw [← ft.K] at hs hf
  obtain ⟨q0, dx, fvs, ns, fs, rfl, h1, h2, h3, h⟩ := insD_ok g rx h
  obtain ⟨q1, dy, gvs, ms, gs', rfl, k1, k2, k3, h⟩ := insD_ok g ry h
  obtain rfl : v = Value.ref q0 := rv
  obtain rfl : u = Value.ref q1 := ru
  by_cases hab : q0 = q1
  · subst hab
    exact SeqAt.EqAt.same (A := A) (s := s) (.ref q0) X.prog X.w X.xe _ ⟨rfl, H, F, I, Ex.refl F, g⟩
  · obtain ⟨mA, O, _⟩ := ins_get I.hok h1
    obtain ⟨mB, O', _⟩ := ins_get I.hok k1
    obtain ⟨od, J, _⟩ := O.look
    obtain ⟨od', J', _⟩ := O'.look
    obtain ⟨m', hF⟩ := I.fr
    refine GQ.eqBool_refG hab (PySem.W.cmp_K (op := .Eq) (tb := .ref (clsA X.K C)) room.units0 hF I.ok.mod.kin J J'.type (by simp [PySem.W.notFirst]) hs hf ?_)
    refine wpAny_mono (call_at (E' := X.xe) ft F1 room gd fr hb I (ws := [.ref q0, .ref q1]) (.cons rfl (.cons rfl .nil)) (lift_no (ds := [d, e]) g (.cons rx (.cons ry .nil)) rfl h)) ?_ fun _ _ z => z
    rintro w t ⟨v, H2, I2, rw', F2, M2, z, e2, g2, r2, rfl, rfl⟩
    cases r2
    cases rw'
    exact ⟨true, rfl, rfl, H2, F2, I2, e2, g2⟩
def eqOwnL (C : Str) (sp : DSp) (neg : Bool) : Op2 := fun x y M Q => match x, y with
  | .lst xs, .lst ys => eqPairs C sp M xs ys ∧ Q (.bl (!neg)) M
  | .tup xs, .tup ys => eqPairs C sp M xs ys ∧ Q (.bl (!neg)) M
  | _, _ => False
theorem rc_ownL (c : CalS Ω C "__eq__" k ["self", "other"] sp) (ft : Fit Ω τ X) (hk : k + 1 ≤ τ.k) (neg : Bool) : OpD X (richCompare (if neg then .NotEq else .Eq)) (eqOwnL C sp neg) := by
  intro F M H x y x' y' Q g rx ry h pins s σ v u I rv ru
  have room : Room (k + 1) X.A := ft.room.mono hk
  have hu : X.A.units < cLine := by have := room.un; omega
  unfold eqOwnL at h
  split at h
  · rename_i xs ys
    obtain ⟨hp, q⟩ := h
    cases rx with | lst hl rl =>
    cases ry with | lst hm rm =>
    rename_i l ws m us
    obtain rfl : v = Value.ref l := rv
    obtain rfl : u = Value.ref m := ru
    have len : ws.length = us.length := by rw [rl.length, rm.length, hp.len]
    let J : Nat → Shared → Prop := fun _ s' => ∃ H' F', Inv X pins σ H' s' ∧ Ex F F' ∧ G X.K F' M H'
    have hJ : ∀ i s', J i s' → ∃ (items items2 : Array Value) (n n2 : Nat), s'.heap.get? l = some { cls := .type "list", data := .seq items n } ∧ s'.heap.get? m = some { cls := .type "list", data := .seq items2 n2 } ∧ items.size = ws.length ∧ items2.size = ws.length ∧
        ∀ (h1 : i < items.size) (h2 : i < items2.size), wpAny (model X.prog X.w) X.A.in1 (eqBool items[i] items2[i]) (fun r s'' => r = true ∧ J (i + 1) s'') X.xe s' := by
      rintro i s' ⟨H', F', I', e', g'⟩
      obtain ⟨z1, its, n, r1, o1⟩ := I'.hok l _ (g'.ex _ _ (e' _ _ hl))
      obtain ⟨z2, its2, n2, r2, o2⟩ := I'.hok m _ (g'.ex _ _ (e' _ _ hm))
      refine ⟨its.toArray, its2.toArray, n, n2, o1, o2, by rw [List.size_toArray]; exact r1.length.symm, by rw [List.size_toArray, len]; exact r2.length.symm, fun h1 h2 => ?_⟩
      have i1 : i < ws.length := by rw [r1.length]; simpa using h1
      have i2 : i < us.length := by rw [← len]; exact i1
      have j1 : i < xs.length := by rw [← rl.length]; exact i1
      have j2 : i < ys.length := by rw [← rm.length]; exact i2
      obtain ⟨x1, hx1, rx1⟩ := rl.get (List.getElem?_eq_getElem j1)
      obtain ⟨y1, hy1, ry1⟩ := rm.get (List.getElem?_eq_getElem j2)
      obtain ⟨u1, hu1, ru1⟩ := r1.get hx1
      obtain ⟨v1, hv1, rv1⟩ := r2.get hy1
      have q1 : its.toArray[i] = u1 := by
        have : its[i]? = some its.toArray[i] := by
          have h1' : i < its.length := by simpa using h1
          rw [List.getElem?_eq_getElem h1'] <;> simp
        rw [this] at hu1; exact Option.some.inj hu1
      have q2 : its2.toArray[i] = v1 := by
        have : its2[i]? = some its2.toArray[i] := by
          have h2' : i < its2.length := by simpa using h2
          rw [List.getElem?_eq_getElem h2'] <;> simp
        rw [this] at hv1; exact Option.some.inj hv1
      rw [q1, q2]
      refine wpAny_mono (eqb_own c ft room.in1 ft.gd I'.env0.frames g' (rx1.mono e') (ry1.mono e') (hp.at (List.getElem?_eq_getElem j1) (List.getElem?_eq_getElem j2)) I' ru1 rv1) (fun r s'' z => ?_) fun _ _ z => z
      obtain ⟨hr, H2, F2, I2, e2, g2⟩ := z
      exact ⟨hr, H2, F2, I2, e'.trans e2, g2⟩
    have j0 : J 0 s := ⟨H, F, I, Ex.refl F, g⟩
    have fin : ∀ b, b = !neg → ∀ s', J ws.length s' → EP X pins σ (LQ X.K F Q) (.bool b) s' := fun b hb s' ⟨H', F', I', e', g'⟩ => ⟨.bl b, H', I', rfl, F', M, .bl b, e', g', .bl b, by rw [hb]; exact q⟩
    cases neg with
    | false => exact GQ.rc_listG hu J hJ (fin true rfl) j0
    | true => exact GQN.rc_nlistG hu J hJ (fin false rfl) j0
  · rename_i xs ys
    obtain ⟨hp, q⟩ := h
    cases rx with | tup hl rl =>
    cases ry with | tup hm rm =>
    rename_i l ws m us
    obtain rfl : v = Value.ref l := rv
    obtain rfl : u = Value.ref m := ru
    have len : ws.length = us.length := by rw [rl.length, rm.length, hp.len]
    let J : Nat → Shared → Prop := fun _ s' => ∃ H' F', Inv X pins σ H' s' ∧ Ex F F' ∧ G X.K F' M H'
    obtain ⟨its, r1, t1, z1⟩ := I.tuple (SqT.fz (hl.mono g.ex))
    obtain ⟨its2, r2, t2, z2⟩ := I.tuple (SqT.fz (hm.mono g.ex))
    have hJ : ∀ i (h1 : i < its.toArray.size) (h2 : i < its2.toArray.size) s', J i s' → wpAny (model X.prog X.w) X.A.in1 (eqBool its.toArray[i] its2.toArray[i]) (fun r s'' => r = true ∧ J (i + 1) s'') X.xe s' := by
      rintro i h1 h2 s' ⟨H', F', I', e', g'⟩
      have i1 : i < ws.length := by rw [r1.length]; simpa using h1
      have i2 : i < us.length := by rw [← len]; exact i1
      have j1 : i < xs.length := by rw [← rl.length]; exact i1
      have j2 : i < ys.length := by rw [← rm.length]; exact i2
      obtain ⟨x1, hx1, rx1⟩ := rl.get (List.getElem?_eq_getElem j1)
      obtain ⟨y1, hy1, ry1⟩ := rm.get (List.getElem?_eq_getElem j2)
      obtain ⟨u1, hu1, ru1⟩ := r1.get hx1
      obtain ⟨v1, hv1, rv1⟩ := r2.get hy1
      have q1 : its.toArray[i] = u1 := by
        have : its[i]? = some its.toArray[i] := by
          have h1' : i < its.length := by simpa using h1
          rw [List.getElem?_eq_getElem h1'] <;> simp
        rw [this] at hu1; exact Option.some.inj hu1
      have q2 : its2.toArray[i] = v1 := by
        have : its2[i]? = some its2.toArray[i] := by
          have h2' : i < its2.length := by simpa using h2
          rw [List.getElem?_eq_getElem h2'] <;> simp
        rw [this] at hv1; exact Option.some.inj hv1
      rw [q1, q2]
      refine wpAny_mono (eqb_own c ft room.in1 ft.gd I'.env0.frames g' (rx1.mono e') (ry1.mono e') (hp.at (List.getElem?_eq_getElem j1) (List.getElem?_eq_getElem j2)) I' ru1 rv1) (fun r s'' z => ?_) fun _ _ z => z
      obtain ⟨hr, H2, F2, I2, e2, g2⟩ := z
      exact ⟨hr, H2, F2, I2, e'.trans e2, g2⟩
    have j0 : J 0 s := ⟨H, F, I, Ex.refl F, g⟩
    have sz : its.toArray.size = its2.toArray.size := by rw [List.size_toArray, List.size_toArray, ← r1.length, ← r2.length, len]
    have fin : ∀ b, b = !neg → ∀ s', J its.toArray.size s' → EP X pins σ (LQ X.K F Q) (.bool b) s' := fun b hb s' ⟨H', F', I', e', g'⟩ => ⟨.bl b, H', I', rfl, F', M, .bl b, e', g', .bl b, by rw [hb]; exact q⟩
    cases neg with
    | false => exact GQ.rc_tupG sz hu J t1 t2 hJ (fin true rfl) j0
    | true => exact GQN.rc_ntupG sz hu J t1 t2 hJ (fin false rfl) j0
  · exact h.elim
theorem opD_eqOL (c : CalS Ω C "__eq__" k ["self", "other"] sp) (ft : Fit Ω τ X) (hk : k + 1 ≤ τ.k) : OpD X (compareOp .Eq) (eqOwnL C sp false) := rc_ownL c ft hk false
theorem opD_neOL (c : CalS Ω C "__eq__" k ["self", "other"] sp) (ft : Fit Ω τ X) (hk : k + 1 ≤ τ.k) : OpD X (compareOp .NotEq) (eqOwnL C sp true) := rc_ownL c ft hk true
end
end DL

/-! The deep layer, part w: {k: v} of one pair, dict(a list of pairs). -/
namespace DL
open PySem PySem.Spec PyProof.Rows L2
section
variable {Ω : Wl} {τ : Sx} {X : Cx} {a b c e o f kx vx : Expr} {da db dc de dv dk : DE} {pos p p2 : Pos}
/-- {k: v} -/
def dDk1 (dk dv : DE) : DE := fun σ M Q E => ∀ p, M p = none → dk σ (M.put p (dkO [])) (fun x M1 => dv σ M1 (fun y M2 => ∃ k, keyD x = some k ∧ M2 p = some (dkO []) ∧ Q (.ref p) (M2.put p (dkO [(k, y)]))) E) E
theorem dp_dk1 (hk : DP Ω τ kx dk) (hv : DP Ω τ vx dv) : DP Ω τ (.Dict [some kx] [vx] pos) (dDk1 dk dv) := Hd.mk fun X ft F0 E tk F M H σ σ' Q e0 g r h => by
  refine wE_of (pe_disp (pps_cons pe_wE pe_wE pps_nil) rfl rfl (by simp) (by simp)) fun p hp => ?_
  have g0 : G X.K F (M.put p (dkO [])) (upd H p (.dK [])) := g.newM hp (o := .dK []) (u := dkO []) ⟨[], upd_same, rfl, .nil⟩
  refine go2 hk hv ft tk e0 g0 r (h p (g.fresh hp).2) ?_
  rintro F' M' H' x y x' y' e' g' rx ry ⟨k, hk, hm, q⟩
  obtain ⟨kvs, h4, h5⟩ := dk_of_mo g' hm
  have e5 : kvs = [] := by
    have := h5.length
    cases kvs with
    | nil => rfl
    | cons _ _ => cases this
  subst e5
  refine ⟨h4, [(k, y)], by rw [keyD_ok rx hk]; rfl, by simp, ?_⟩
  have eM : mergeK [] [(k, y)] = [(k, y)] := by simp [mergeK, putK]
  rw [eM]
  exact ⟨F', _, .ref p, e', g_setK g' hm (t := [(k, y')]) ⟨rfl, .cons ry .nil⟩, .ref p, q⟩
/-- a list of pairs, told as a table -/
def prsD : List D → Option TabK
  | [] => some []
  | .tup [x, y] :: r => match keyD x, prsD r with
    | some k, some t => some ((k, y) :: t)
    | _, _ => none
  | _ => none
theorem prsD_ok {K : PySem.W.Frag} {F : Hp} : ∀ {vs : List V} {ds : List D} {t : TabK}, RpL K F vs ds → prsD ds = some t → ∃ (ps : List Addr) (kvs : List (Key × V)), vs = ps.map V.ref ∧ Paired (fun p kv => SqT K F p [kV kv.1, kv.2]) ps kvs ∧ TabR K F kvs t
  | _, _, _, .nil, h => by
    cases h
    exact ⟨[], [], rfl, .nil, ⟨rfl, .nil⟩⟩
  | _, _, _, .cons (d := d) (ds := ds0) r1 r2, h => by
    cases d <;> first | (simp [prsD] at h; done) | skip
    rename_i xs
    match xs, h with
    | [x, y], h =>
      simp only [prsD] at h
      cases e1 : keyD x with
      | none => rw [e1] at h; cases h
      | some k =>
        cases e2 : prsD ds0 with
        | none => rw [e1, e2] at h; cases h
        | some t' =>
          rw [e1, e2] at h
          cases h
          obtain ⟨ps, kvs, rfl, h2, h3⟩ := prsD_ok r2 e2
          cases r1 with | tup hs hr =>
          obtain ⟨u, w, rfl, ru, rw'⟩ := rpl2 hr
          refine ⟨_ :: ps, (k, w) :: kvs, rfl, .cons ?_ h2, ⟨by simp [h3.ks], .cons rw' h3.vs⟩⟩
          have := SqT.fz (K := K) hs
          rw [keyD_ok ru e1] at this
          exact this
    | [], h => simp [prsD] at h
    | [_], h => simp [prsD] at h
    | _ :: _ :: _ :: _, h => simp [prsD] at h
theorem paired_mono {α β : Type} {R S : α → β → Prop} (h : ∀ a b, R a b → S a b) : ∀ {xs : List α} {ys : List β}, Paired R xs ys → Paired S xs ys
  | _, _, .nil => .nil
  | _, _, .cons a b => .cons (h _ _ a) (paired_mono h b)
/-- dict(a list of pairs) -/
def dicPO : D → MH → DQ → Prop := fun d M Q => lstD d M fun xs => ∃ t, prsD xs = some t ∧ ∀ p, M p = none → Q (.ref p) (M.put p (dkO (mergeD [] t)))
theorem cb_dictP (ft : Fit Ω τ X) (hc : τ.calm = true) : CallB X (.type "dict") (ob1 dicPO) := callB1 fun F M H v d Q g r q => by
  obtain ⟨p, ws, xs, rfl, h1, h2, t, h3, h4⟩ := lstD_ok g r q
  obtain ⟨ps, kvs, rfl, h5, h6⟩ := prsD_ok h2 h3
  refine wC_of (call_dictP (ft.calm hc)) ⟨p, ps, kvs, rfl, SqL.of h1, paired_mono (fun _ _ z => g.ex.st z) h5, fun l hl => ?_⟩
  have m := TabR.merge h6 (⟨rfl, .nil⟩ : TabR X.K F [] [])
  exact ⟨F, _, .ref l, Ex.refl F, g.newM hl (o := .dK (mergeK [] kvs)) (u := dkO (mergeD [] t)) ⟨_, upd_same, m.ks, m.vs⟩, .ref l, h4 l (g.fresh hl).2⟩
end
theorem boot_dict : bootBuiltins "dict" = some (.type "dict") := by decide +kernel
theorem prsD_map (key : Nat → Key) (kd val : Nat → D) (hk : ∀ i, keyD (kd i) = some (key i)) : ∀ l : List Nat, prsD (l.map fun i => .tup [kd i, val i]) = some (l.map fun i => (key i, val i))
  | [] => rfl
  | i :: l => by
    simp only [List.map_cons, prsD, hk i, prsD_map key kd val hk l]
end DL

/-! Things and rows as data. -/
namespace DL
open PySem PySem.Spec PyProof.Rows L2
def rowD (ws : List Str) : D := .obj "Row" ["line"] [.tup (ws.map .str)]
def lettersL : List Nat := (("abcdefghijklmnopqrstuvwxyz" : Str)).cps.toList
def goodW (w : Str) : Prop := 0 < w.length ∧ w.length < 9 ∧ ∀ c ∈ w.cps.toList, c ∈ lettersL
structure GoodT (ws : List Str) : Prop where
  some : 0 < ws.length
  few : ws.length ≤ 40
  good : ∀ w ∈ ws, goodW w
  nd : ws.Nodup
theorem goodW.ok {w : Str} (h : goodW w) : PyData.strOk w = true := by
  unfold PyData.strOk
  rw [Array.all_eq_true_iff_forall_mem]
  intro c hc
  have h1 := h.2.2 c (Array.mem_toList_iff.mpr hc)
  have h2 : ∀ c ∈ lettersL, c < 0x110000 := by decide +kernel
  simpa using h2 c h1
theorem ok_strs {n : Nat} {ws : List Str} (h : ∀ w ∈ ws, goodW w) : ∀ x ∈ ws.map D.str, okN n x := by
  intro x hx
  obtain ⟨w, hw, rfl⟩ := List.mem_map.mp hx
  have := (h w hw).ok
  cases n <;> simpa [okN] using this
theorem cutD_take {α : Type} (xs : List α) (i : Nat) (h : i ≤ xs.length) : cutD xs none (some (i : Int)) = xs.take i := by
  have e : HT.sIx xs.length xs.length (some (i : Int)) = i := by
    simp only [HT.sIx]
    first
      | omega
      | (split <;> omega)
  unfold cutD
  rw [e]
  simp [HT.sIx]
theorem not_before {ws : List Str} (nd : ws.Nodup) {i : Nat} (h : i < ws.length) : (((ws.map D.str).take i).any fun z => eqD z (.str ws[i])) = false := by
  rw [List.any_eq_false]
  intro z hz
  rw [← List.map_take] at hz
  obtain ⟨w, hw, rfl⟩ := List.mem_map.mp hz
  obtain ⟨j, hj, rfl⟩ := List.getElem_of_mem hw
  rw [List.length_take] at hj
  rw [List.getElem_take]
  simp only [eqD]
  have : ws[j] ≠ ws[i] := (List.pairwise_iff_getElem.mp nd) j i (by omega) h (by omega)
  simpa using this
/-- the words between a and b turned round -/
def turnW (ws : List Str) (a b : Nat) : List Str := ws.take a ++ ((ws.drop a).take (b - a)).reverse ++ ws.drop b
theorem turnW_perm (ws : List Str) {a b : Nat} (h : a ≤ b) : (turnW ws a b).Perm ws := by
  unfold turnW
  have e : ws = ws.take a ++ ((ws.drop a).take (b - a) ++ ws.drop b) := by
    have h1 : ws.drop b = (ws.drop a).drop (b - a) := by rw [List.drop_drop]; congr 1; omega
    rw [h1, List.take_append_drop, List.take_append_drop]
  conv => rhs; rw [e]
  rw [List.append_assoc]
  exact List.Perm.append_left _ (List.Perm.append_right _ (List.reverse_perm _))
theorem GoodT.perm {ws vs : List Str} (G : GoodT ws) (h : vs.Perm ws) : GoodT vs :=
  ⟨by rw [h.length_eq]; exact G.some, by rw [h.length_eq]; exact G.few, fun w hw => G.good w (h.mem_iff.mp hw), h.nodup_iff.mpr G.nd⟩
theorem cut_map {α β : Type} (f : α → β) (xs : List α) (lo hi : Option Int) : cutD (xs.map f) lo hi = (cutD xs lo hi).map f := by
  unfold cutD
  rw [List.length_map, List.map_take, List.map_drop]
theorem cut_mid {α : Type} (xs : List α) (a b : Nat) (h : a ≤ b) (h2 : b ≤ xs.length) : cutD xs (some (a : Int)) (some (b : Int)) = (xs.drop a).take (b - a) := by
  unfold cutD
  rw [HT.sIx_nat, HT.sIx_nat, Nat.min_eq_left h2, Nat.min_eq_left (by omega)]
theorem cut_end {α : Type} (xs : List α) (b : Nat) (h2 : b ≤ xs.length) : cutD xs (some (b : Int)) none = xs.drop b := by
  unfold cutD
  rw [HT.sIx_nat, HT.sIx_none, Nat.min_eq_left h2]
  exact List.take_of_length_le (by rw [List.length_drop]; exact Nat.le_refl _)
theorem okN_tupS {ws : List Str} (G : GoodT ws) : okN 50 (.tup (ws.map .str)) := ok_strs (n := 49) G.good
theorem okN_bl {n : Nat} {b : Bool} : okN n (.bl b) = True := by cases n <;> simp [okN]
theorem okN_int {n : Nat} {b : Int} : okN n (.int b) = True := by cases n <;> simp [okN]
theorem okN_non {n : Nat} : okN n .non = True := by cases n <;> simp [okN]
theorem rowD_inj {a b : List Str} : (rowD a = rowD b) = (a = b) := by
  unfold rowD
  apply propext
  constructor
  · intro h
    simp only [D.obj.injEq, List.cons.injEq, D.tup.injEq, true_and, and_true] at h
    exact (List.map_inj_right (fun x y h => by cases h; rfl)).mp h
  · rintro rfl; rfl
theorem obj_row {ws : List Str} : D.obj "Row" ["line"] [.tup (ws.map .str)] = rowD ws := rfl
theorem ins_row {ws : List Str} {M : MH} {R : List Str → List D → Prop} : insD "Row" (rowD ws) M R = R ["line"] [.tup (ws.map .str)] := by
  unfold insD rowD; simp
theorem isC_row {ws : List Str} {M : MH} : isC "Row" (rowD ws) M = some true := by
  unfold isC rowD; simp
theorem row_ne {ws : List Str} : (rowD ws = .non) = False := by unfold rowD; simp
theorem ts_NoneType_bool : tySub "NoneType" "bool" = false := by decide
theorem ts_NoneType_int : tySub "NoneType" "int" = false := by decide
theorem ts_NoneType_str : tySub "NoneType" "str" = false := by decide
theorem ts_NoneType_tuple : tySub "NoneType" "tuple" = false := by decide
theorem ts_NoneType_list : tySub "NoneType" "list" = false := by decide
theorem ts_bool_bool : tySub "bool" "bool" = true := by decide
theorem ts_bool_int : tySub "bool" "int" = true := by decide
theorem ts_bool_str : tySub "bool" "str" = false := by decide
theorem ts_bool_tuple : tySub "bool" "tuple" = false := by decide
theorem ts_bool_list : tySub "bool" "list" = false := by decide
theorem ts_int_bool : tySub "int" "bool" = false := by decide
theorem ts_int_int : tySub "int" "int" = true := by decide
theorem ts_int_str : tySub "int" "str" = false := by decide
theorem ts_int_tuple : tySub "int" "tuple" = false := by decide
theorem ts_int_list : tySub "int" "list" = false := by decide
theorem ts_str_bool : tySub "str" "bool" = false := by decide
theorem ts_str_int : tySub "str" "int" = false := by decide
theorem ts_str_str : tySub "str" "str" = true := by decide
theorem ts_str_tuple : tySub "str" "tuple" = false := by decide
theorem ts_str_list : tySub "str" "list" = false := by decide
theorem ts_tuple_bool : tySub "tuple" "bool" = false := by decide
theorem ts_tuple_int : tySub "tuple" "int" = false := by decide
theorem ts_tuple_str : tySub "tuple" "str" = false := by decide
theorem ts_tuple_tuple : tySub "tuple" "tuple" = true := by decide
theorem ts_tuple_list : tySub "tuple" "list" = false := by decide
theorem ts_list_bool : tySub "list" "bool" = false := by decide
theorem ts_list_int : tySub "list" "int" = false := by decide
theorem ts_list_str : tySub "list" "str" = false := by decide
theorem ts_list_tuple : tySub "list" "tuple" = false := by decide
theorem ts_list_list : tySub "list" "list" = true := by decide
theorem strs_inj {a b : List Str} : (a.map D.str = b.map D.str) = (a = b) := propext ⟨fun h => (List.map_inj_right (fun x y h => by cases h; rfl)).mp h, fun h => by rw [h]⟩
theorem ints_inj {a b : List Int} : (a.map D.int = b.map D.int) = (a = b) := propext ⟨fun h => (List.map_inj_right (fun x y h => by cases h; rfl)).mp h, fun h => by rw [h]⟩
theorem ex_ins {C : Str} {ns : List Str} {fs : List D} {P : Str → List Str → List D → Prop} : (∃ C' ns' fs', MO.ins C ns fs = .ins C' ns' fs' ∧ P C' ns' fs') = P C ns fs := by
  apply propext
  constructor
  · rintro ⟨_, _, _, h, p⟩
    cases h; exact p
  · intro h; exact ⟨_, _, _, rfl, h⟩
theorem ex_ins2 {C : Str} {ns : List Str} {fs : List D} {P : List Str → List D → Prop} : (∃ ns' fs', MO.ins C ns fs = .ins C ns' fs' ∧ P ns' fs') = P ns fs := by
  apply propext
  constructor
  · rintro ⟨_, _, h, p⟩
    cases h; exact p
  · intro h; exact ⟨_, _, rfl, h⟩
section
variable {C C' : Str} {ns : List Str} {fs xs : List D} {M : MH} {R : List Str → List D → Prop} {a : Addr} {b : Bool} {i : Int} {s : Str}
theorem insD_obj : insD C (.obj C ns fs) M R = R ns fs := by unfold insD; simp
theorem insD_ref : insD C (.ref a) M R = ∃ ns fs, M a = some (.ins C ns fs) ∧ R ns fs := rfl
theorem isC_obj : isC C (.obj C ns fs) M = some true := by unfold isC; simp
theorem isC_ref : isC C (.ref a) M = match M a with
    | some (.ins C' _ _) => if C' = C then some true else none
    | some (.lst _) => some false
    | _ => none := rfl
theorem isC_non : isC C .non M = some false := rfl
theorem isC_bl : isC C (.bl b) M = some false := rfl
theorem isC_int : isC C (.int i) M = some false := rfl
theorem isC_str : isC C (.str s) M = some false := rfl
theorem isC_tup : isC C (.tup xs) M = some false := rfl
theorem isC_lst : isC C (.lst xs) M = some false := rfl
end
def isI : D → Bool
  | .int _ => true
  | _ => false
theorem eqDL_strs : ∀ ws vs : List Str, eqDL (ws.map .str) (vs.map .str) = decide (ws = vs)
  | [], [] => by simp [eqDL]
  | [], _ :: _ => by simp [eqDL]
  | _ :: _, [] => by simp [eqDL]
  | w :: ws, v :: vs => by
    simp only [List.map_cons, eqDL, eqD, eqDL_strs ws vs]
    rw [Bool.eq_iff_iff]
    simp
def btw (d : D) (a b : Int) : Bool := match d with
  | .int i => decide (a ≤ i) && decide (i ≤ b)
  | _ => false
end DL

/-! Plain laws: rings of a map of 0 .. N - 1 to itself; how many there are when two places are exchanged. -/
namespace DL.W
def itr (f : Nat → Nat) : Nat → Nat → Nat
  | 0, i => i
  | k + 1, i => f (itr f k i)
theorem itr_add (f : Nat → Nat) (a : Nat) : ∀ b i, itr f (a + b) i = itr f b (itr f a i)
  | 0, _ => rfl
  | b + 1, i => by
    show f (itr f (a + b) i) = f (itr f b (itr f a i))
    rw [itr_add f a b i]
theorem itr_shift (f : Nat → Nat) (k i : Nat) : itr f (k + 1) i = itr f k (f i) := by
  rw [Nat.add_comm, itr_add]; rfl
structure PermN (N : Nat) (f : Nat → Nat) : Prop where
  lt : ∀ i, i < N → f i < N
  inj : ∀ i j, i < N → j < N → f i = f j → i = j
theorem PermN.itr_lt {N f} (h : PermN N f) {i : Nat} (hi : i < N) : ∀ k, itr f k i < N
  | 0 => hi
  | k + 1 => h.lt _ (h.itr_lt hi k)
theorem PermN.itr_inj {N f} (h : PermN N f) {i j : Nat} (hi : i < N) (hj : j < N) : ∀ k, itr f k i = itr f k j → i = j
  | 0, e => e
  | k + 1, e => h.itr_inj hi hj k (h.inj _ _ (h.itr_lt hi k) (h.itr_lt hj k) e)
theorem nodup_sub_len {α : Type} [DecidableEq α] : ∀ {l l' : List α}, l.Nodup → (∀ x ∈ l, x ∈ l') → l.length ≤ l'.length
  | [], _, _, _ => Nat.zero_le _
  | a :: l, l', nd, h => by
    rw [List.nodup_cons] at nd
    have ha : a ∈ l' := h a List.mem_cons_self
    have ih := nodup_sub_len (l := l) (l' := l'.erase a) nd.2 fun x hx => by
      have hne : x ≠ a := fun e => nd.1 (e ▸ hx)
      exact (List.mem_erase_of_ne hne).mpr (h x (List.mem_cons_of_mem _ hx))
    rw [List.length_erase_of_mem ha] at ih
    have : 0 < l'.length := List.length_pos_of_mem ha
    rw [List.length_cons]; omega
theorem nodup_map_of {α β : Type} {g : α → β} : ∀ {l : List α}, l.Nodup → (∀ x ∈ l, ∀ y ∈ l, g x = g y → x = y) → (l.map g).Nodup
  | [], _, _ => List.nodup_nil
  | a :: l, nd, h => by
    rw [List.nodup_cons] at nd
    rw [List.map_cons, List.nodup_cons]
    refine ⟨fun hm => ?_, nodup_map_of nd.2 fun x hx y hy => h x (List.mem_cons_of_mem _ hx) y (List.mem_cons_of_mem _ hy)⟩
    obtain ⟨b, hb, e⟩ := List.mem_map.mp hm
    have := h b (List.mem_cons_of_mem _ hb) a List.mem_cons_self e
    exact nd.1 (this ▸ hb)
theorem PermN.period {N f} (h : PermN N f) {i : Nat} (hi : i < N) : ∃ p, 0 < p ∧ p ≤ N ∧ itr f p i = i := by
  by_cases H : ∃ a b, a < b ∧ b ≤ N ∧ itr f a i = itr f b i
  · obtain ⟨a, b, hab, hb, e⟩ := H
    refine ⟨b - a, by omega, by omega, ?_⟩
    have e2 : itr f b i = itr f a (itr f (b - a) i) := by rw [← itr_add]; congr 1; omega
    rw [e2] at e
    exact (h.itr_inj hi (h.itr_lt hi _) a e).symm
  · exfalso
    have nd : ((List.range (N + 1)).map fun k => itr f k i).Nodup := nodup_map_of List.nodup_range fun x hx y hy e => by
      rw [List.mem_range] at hx hy
      rcases Nat.lt_trichotomy x y with l | l | l
      · exact absurd ⟨x, y, l, by omega, e⟩ H
      · exact l
      · exact absurd ⟨y, x, l, by omega, e.symm⟩ H
    have := nodup_sub_len (l' := List.range N) nd fun x hx => by
      obtain ⟨k, _, rfl⟩ := List.mem_map.mp hx
      exact List.mem_range.mpr (h.itr_lt hi k)
    simp only [List.length_map, List.length_range] at this
    omega
theorem PermN.surj {N f} (h : PermN N f) {j : Nat} (hj : j < N) : ∃ i, i < N ∧ f i = j := by
  obtain ⟨p, hp, _, e⟩ := h.period hj
  obtain ⟨k, rfl⟩ : ∃ k, p = k + 1 := ⟨p - 1, by omega⟩
  exact ⟨itr f k j, h.itr_lt hj k, e⟩
def conn (f : Nat → Nat) (i j : Nat) : Prop := ∃ k, itr f k i = j
theorem conn.refl {f : Nat → Nat} (i : Nat) : conn f i i := ⟨0, rfl⟩
theorem conn.trans {f : Nat → Nat} {i j k : Nat} (a : conn f i j) (b : conn f j k) : conn f i k := by
  obtain ⟨m, rfl⟩ := a
  obtain ⟨n, rfl⟩ := b
  exact ⟨m + n, itr_add f m n i⟩
theorem itr_mul {f : Nat → Nat} {p i : Nat} (e : itr f p i = i) : ∀ m, itr f (p * m) i = i
  | 0 => rfl
  | m + 1 => by rw [Nat.mul_succ, itr_add, itr_mul e m, e]
theorem conn.symm {N f} (h : PermN N f) {i j : Nat} (hi : i < N) (c : conn f i j) : conn f j i := by
  obtain ⟨k, rfl⟩ := c
  obtain ⟨p, hp, _, e⟩ := h.period hi
  refine ⟨p * (k + 1) - k, ?_⟩
  rw [← itr_add]
  have : k + (p * (k + 1) - k) = p * (k + 1) := by
    have : k + 1 ≤ p * (k + 1) := Nat.le_mul_of_pos_left _ hp
    omega
  rw [this, itr_mul e]
theorem conn.lt {N f} (h : PermN N f) {i j : Nat} (hi : i < N) (c : conn f i j) : j < N := by
  obtain ⟨k, rfl⟩ := c; exact h.itr_lt hi k
theorem itr_congr {N : Nat} {f g : Nat → Nat} (h : PermN N f) (e : ∀ i, i < N → f i = g i) {i : Nat} (hi : i < N) : ∀ k, itr f k i = itr g k i
  | 0 => rfl
  | k + 1 => by
    show f (itr f k i) = g (itr g k i)
    rw [← itr_congr h e hi k, e _ (h.itr_lt hi k)]
theorem PermN.congr {N f g} (h : PermN N f) (e : ∀ i, i < N → f i = g i) : PermN N g :=
  ⟨fun i hi => e i hi ▸ h.lt i hi, fun i j hi hj q => h.inj i j hi hj (by rw [e i hi, e j hj, q])⟩
/-- one of each ring -/
structure Reps (N : Nat) (f : Nat → Nat) (l : List Nat) : Prop where
  lt : ∀ i ∈ l, i < N
  ne : l.Pairwise fun i j => ¬ conn f i j
  all : ∀ i, i < N → ∃ j ∈ l, conn f j i
theorem reps_le {N : Nat} {f : Nat → Nat} {l l' : List Nat} (h : PermN N f) (a : ∀ i ∈ l, i < N) (b : l.Pairwise fun i j => ¬ conn f i j) (c : ∀ i, i < N → ∃ j ∈ l', conn f j i) (d : ∀ i ∈ l', i < N) : l.length ≤ l'.length := by
  let g : Nat → Nat := fun i => if hi : i < N then Classical.choose (c i hi) else 0
  have hg : ∀ i, i < N → g i ∈ l' ∧ conn f (g i) i := fun i hi => by
    have : g i = Classical.choose (c i hi) := dif_pos hi
    rw [this]
    exact Classical.choose_spec (c i hi)
  have nd : (l.map g).Nodup := by
    rw [List.nodup_iff_pairwise_ne, List.pairwise_map]
    refine List.Pairwise.imp_of_mem (fun {i j} hi hj hn e => hn ?_) b
    have h1 := hg i (a i hi)
    have h2 := hg j (a j hj)
    rw [← e] at h2
    exact (h1.2.symm h (d _ h1.1)).trans h2.2
  have := nodup_sub_len (l' := l') nd fun x hx => by
    obtain ⟨i, hi, rfl⟩ := List.mem_map.mp hx
    exact (hg i (a i hi)).1
  rwa [List.length_map] at this
theorem reps_len {N : Nat} {f : Nat → Nat} {l l' : List Nat} (h : PermN N f) (a : Reps N f l) (b : Reps N f l') : l.length = l'.length :=
  Nat.le_antisymm (reps_le h a.lt a.ne b.all b.lt) (reps_le h b.lt b.ne a.all a.lt)

/-! the greatest one taken out -/
def contr (z : Nat) (f : Nat → Nat) (x : Nat) : Nat := if f x = z then f z else f x
def cyc : Nat → (Nat → Nat) → Nat
  | 0, _ => 0
  | N + 1, f => cyc N (contr N f) + if f N = N then 1 else 0
theorem cyc_congr : ∀ {N : Nat} {f g : Nat → Nat}, (∀ i, i < N → f i = g i) → cyc N f = cyc N g
  | 0, _, _, _ => rfl
  | N + 1, f, g, e => by
    have h : ∀ i, i < N → contr N f i = contr N g i := fun i hi => by
      unfold contr
      rw [e i (by omega), e N (by omega)]
    rw [cyc, cyc, cyc_congr h, e N (by omega)]
theorem PermN.contr {N f} (h : PermN (N + 1) f) : PermN N (contr N f) := by
  have key : ∀ i, i < N → f i = N → f N < N := fun i hi e => by
    have h1 := h.lt N (by omega)
    have h2 : f N ≠ N := fun e2 => by
      have := h.inj i N (by omega) (by omega) (by rw [e, e2]); omega
    omega
  refine ⟨fun i hi => ?_, fun i j hi hj e => ?_⟩
  · unfold W.contr
    by_cases e : f i = N
    · rw [if_pos e]; exact key i hi e
    · rw [if_neg e]; have := h.lt i (by omega); omega
  · unfold W.contr at e
    by_cases e1 : f i = N
    · by_cases e2 : f j = N
      · exact h.inj i j (by omega) (by omega) (by rw [e1, e2])
      · rw [if_pos e1, if_neg e2] at e
        have := h.inj N j (by omega) (by omega) e; omega
    · by_cases e2 : f j = N
      · rw [if_neg e1, if_pos e2] at e
        have := h.inj i N (by omega) (by omega) e; omega
      · rw [if_neg e1, if_neg e2] at e
        exact h.inj i j (by omega) (by omega) e
theorem conn_contr_of {N f} (h : PermN (N + 1) f) {i j : Nat} (hj : j < N) : ∀ k, ∀ i, i < N → itr f k i = j → conn (contr N f) i j := by
  intro k
  induction k using Nat.strongRecOn with
  | ind k ih =>
    intro i hi e
    cases k with
    | zero => exact ⟨0, e⟩
    | succ k =>
      rw [itr_shift] at e
      by_cases hN : f i = N
      · rw [hN] at e
        cases k with
        | zero => simp only [itr] at e; omega
        | succ k =>
          rw [itr_shift] at e
          have hlt : f N < N := by
            have h1 := h.lt N (by omega)
            have h2 : f N ≠ N := fun e2 => by
              have := h.inj i N (by omega) (by omega) (by rw [hN, e2]); omega
            omega
          have h1 := ih k (by omega) (f N) hlt e
          have h2 : conn (contr N f) i (f N) := ⟨1, by show contr N f i = _; unfold contr; rw [if_pos hN]⟩
          exact h2.trans h1
      · have hlt : f i < N := by have := h.lt i (by omega); omega
        have h1 := ih k (by omega) (f i) hlt e
        have h2 : conn (contr N f) i (f i) := ⟨1, by show contr N f i = _; unfold contr; rw [if_neg hN]⟩
        exact h2.trans h1
theorem conn_of_contr {N : Nat} {f : Nat → Nat} : ∀ k i : Nat, conn f i (itr (contr N f) k i)
  | 0, i => .refl i
  | k + 1, i => by
    refine conn.trans (conn_of_contr (N := N) k i) ?_
    show conn f (itr (contr N f) k i) (contr N f (itr (contr N f) k i))
    generalize itr (contr N f) k i = x
    unfold contr
    by_cases e : f x = N
    · rw [if_pos e]; exact ⟨2, by show f (f x) = _; rw [e]⟩
    · rw [if_neg e]; exact ⟨1, rfl⟩
theorem conn_contr {N f} (h : PermN (N + 1) f) {i j : Nat} (hi : i < N) (hj : j < N) : conn (contr N f) i j ↔ conn f i j :=
  ⟨fun ⟨k, e⟩ => e ▸ conn_of_contr k i, fun ⟨k, e⟩ => conn_contr_of h (i := i) hj k i hi e⟩
theorem reps_ex : ∀ {N f}, PermN N f → ∃ l, Reps N f l ∧ l.length = cyc N f
  | 0, f, _ => ⟨[], ⟨fun _ h => (List.not_mem_nil h).elim, .nil, fun i h => absurd h (Nat.not_lt_zero i)⟩, rfl⟩
  | N + 1, f, h => by
    obtain ⟨l, r, e⟩ := reps_ex h.contr
    by_cases hN : f N = N
    · have stay : ∀ k, itr f k N = N := fun k => by
        induction k with
        | zero => rfl
        | succ k ih => show f (itr f k N) = N; rw [ih, hN]
      refine ⟨N :: l, ⟨fun i hi => ?_, ?_, fun i hi => ?_⟩, by rw [cyc, if_pos hN, List.length_cons, e]⟩
      · rcases List.mem_cons.mp hi with rfl | hi
        · omega
        · have := r.lt i hi; omega
      · rw [List.pairwise_cons]
        refine ⟨fun j hj => fun ⟨k, q⟩ => ?_, ?_⟩
        · rw [stay] at q; have := r.lt j hj; omega
        · exact List.Pairwise.imp_of_mem (fun {i j} hi hj hn c => hn ((conn_contr h (r.lt i hi) (r.lt j hj)).mpr c)) r.ne
      · by_cases e2 : i = N
        · exact ⟨N, List.mem_cons_self, e2 ▸ .refl _⟩
        · obtain ⟨j, hj, c⟩ := r.all i (by omega)
          exact ⟨j, List.mem_cons_of_mem _ hj, (conn_contr h (r.lt j hj) (by omega)).mp c⟩
    · refine ⟨l, ⟨fun i hi => ?_, ?_, fun i hi => ?_⟩, by rw [cyc, if_neg hN, Nat.add_zero, e]⟩
      · have := r.lt i hi; omega
      · exact List.Pairwise.imp_of_mem (fun {i j} hi hj hn c => hn ((conn_contr h (r.lt i hi) (r.lt j hj)).mpr c)) r.ne
      · by_cases e2 : i = N
        · subst e2
          have hlt : f i < i := by have := h.lt i (by omega); omega
          obtain ⟨j, hj, c⟩ := r.all (f i) hlt
          refine ⟨j, hj, ((conn_contr h (r.lt j hj) hlt).mp c).trans (conn.symm h (by omega) ⟨1, rfl⟩)⟩
        · obtain ⟨j, hj, c⟩ := r.all i (by omega)
          exact ⟨j, hj, (conn_contr h (r.lt j hj) (by omega)).mp c⟩
theorem Reps.cyc {N : Nat} {f : Nat → Nat} {l : List Nat} (h : PermN N f) (r : Reps N f l) : l.length = cyc N f := by
  obtain ⟨l', r', e⟩ := reps_ex h
  rw [reps_len h r r', e]
theorem cyc_le {N f} (h : PermN N f) : cyc N f ≤ N := by
  obtain ⟨l, r, e⟩ := reps_ex h
  have nd : l.Nodup := List.Pairwise.imp (fun {i j} hn (e : i = j) => hn (e ▸ conn.refl i)) r.ne
  have := nodup_sub_len (l' := List.range N) nd fun x hx => List.mem_range.mpr (r.lt x hx)
  rw [List.length_range] at this
  omega
/-! two places exchanged -/
def sw (f : Nat → Nat) (a c x : Nat) : Nat := if x = a then f c else if x = c then f a else f x
theorem sw_comm {f : Nat → Nat} {a c : Nat} (h : a ≠ c) : sw f a c = sw f c a := by
  funext x
  unfold sw
  by_cases h1 : x = a
  · subst h1; rw [if_pos rfl, if_neg h, if_pos rfl]
  · rw [if_neg h1]
    by_cases h2 : x = c
    · rw [if_pos h2, if_pos h2]
    · rw [if_neg h2, if_neg h2, if_neg h1]
theorem PermN.sw {N f} (h : PermN N f) {a c : Nat} (ha : a < N) (hc : c < N) : PermN N (sw f a c) := by
  refine ⟨fun i hi => ?_, fun i j hi hj e => ?_⟩
  · unfold W.sw; split
    · exact h.lt c hc
    · split
      · exact h.lt a ha
      · exact h.lt i hi
  · have inv : ∀ x, x < N → ∃ y, y < N ∧ W.sw f a c x = f y ∧ x = if y = a then c else if y = c then a else y := fun x hx => by
      unfold W.sw
      by_cases h1 : x = a
      · rw [if_pos h1]
        refine ⟨c, hc, rfl, ?_⟩
        by_cases h2 : c = a
        · rw [if_pos h2]; rw [h1, h2]
        · rw [if_neg h2, if_pos rfl, h1]
      · rw [if_neg h1]
        by_cases h2 : x = c
        · rw [if_pos h2]; exact ⟨a, ha, rfl, by rw [if_pos rfl, h2]⟩
        · rw [if_neg h2]; exact ⟨x, hx, rfl, by rw [if_neg h1, if_neg h2]⟩
    obtain ⟨y, hy, e1, e2⟩ := inv i hi
    obtain ⟨z, hz, e3, e4⟩ := inv j hj
    rw [e1, e3] at e
    have := h.inj y z hy hz e
    rw [e2, e4, this]
theorem contr_sw {N f} {a c : Nat} (ha : a < N) (hc : c < N) : ∀ x, x < N → contr N (sw f a c) x = sw (contr N f) a c x := fun x hx => by
  have eN : sw f a c N = f N := by unfold sw; rw [if_neg (by omega), if_neg (by omega)]
  unfold contr
  rw [eN]
  unfold sw
  by_cases h1 : x = a
  · rw [if_pos h1, if_pos h1]
  · rw [if_neg h1, if_neg h1]
    by_cases h2 : x = c
    · rw [if_pos h2, if_pos h2]
    · rw [if_neg h2, if_neg h2]
/-- the cases with the greatest place among both -/
theorem sw_top {N f} (h : PermN (N + 1) f) {a : Nat} (ha : a < N) :
    (f N = N ∧ cyc (N + 1) f = cyc (N + 1) (sw f a N) + 1) ∨ (f a = N ∧ cyc (N + 1) (sw f a N) = cyc (N + 1) f + 1) ∨
    ∃ x0, x0 < N ∧ x0 ≠ a ∧ contr N f x0 = f N ∧ f N ≠ N ∧ cyc (N + 1) f = cyc N (contr N f) ∧ cyc (N + 1) (sw f a N) = cyc N (sw (contr N f) a x0) := by
  have ga : sw f a N a = f N := by unfold sw; rw [if_pos rfl]
  have gN : sw f a N N = f a := by unfold sw; rw [if_neg (by omega), if_pos rfl]
  have gx : ∀ x, x ≠ a → x < N → sw f a N x = f x := fun x h1 h2 => by unfold sw; rw [if_neg h1, if_neg (by omega)]
  by_cases h1 : f N = N
  · left
    refine ⟨h1, ?_⟩
    have fa : f a ≠ N := fun e => by have := h.inj a N (by omega) (by omega) (by rw [e, h1]); omega
    have same : ∀ x, x < N → contr N f x = contr N (sw f a N) x := fun x hx => by
      have fx : f x ≠ N := fun e => by have := h.inj x N (by omega) (by omega) (by rw [e, h1]); omega
      by_cases e : x = a
      · subst e
        unfold contr
        rw [ga, gN, if_neg fx, if_pos h1]
      · unfold contr
        rw [gx x e hx, if_neg fx, if_neg fx]
    rw [cyc, cyc, cyc_congr same, gN, if_pos h1, if_neg fa]
  · by_cases h2 : f a = N
    · right; left
      refine ⟨h2, ?_⟩
      have same : ∀ x, x < N → contr N (sw f a N) x = contr N f x := fun x hx => by
        by_cases e : x = a
        · subst e
          unfold contr
          rw [ga, if_neg h1, if_pos h2]
        · have fx : f x ≠ N := fun q => e (h.inj x a (by omega) (by omega) (by rw [q, h2]))
          unfold contr
          rw [gx x e hx, if_neg fx, if_neg fx]
      rw [cyc, cyc, cyc_congr same, gN, if_pos h2, if_neg h1]
    · right; right
      obtain ⟨x0, hx0, e0⟩ := h.surj (j := N) (by omega)
      have n0 : x0 ≠ N := fun e => h1 (by rw [e] at e0; exact e0)
      have na : x0 ≠ a := fun e => h2 (by rw [e] at e0; exact e0)
      refine ⟨x0, by omega, na, by unfold contr; rw [if_pos e0], h1, by rw [cyc, if_neg h1]; rfl, ?_⟩
      have same : ∀ x, x < N → contr N (sw f a N) x = sw (contr N f) a x0 x := fun x hx => by
        by_cases e : x = a
        · subst e
          show (if sw f x N x = N then sw f x N N else sw f x N x) = sw (contr N f) x x0 x
          rw [ga, if_neg h1]
          unfold sw contr
          rw [if_pos rfl, if_pos e0]
        · by_cases e2 : x = x0
          · subst e2
            show (if sw f a N x = N then sw f a N N else sw f a N x) = sw (contr N f) a x x
            rw [gx x e hx, if_pos e0, gN]
            unfold sw contr
            rw [if_neg e, if_pos rfl, if_neg h2]
          · have fx : f x ≠ N := fun q => e2 (h.inj x x0 (by omega) hx0 (by rw [q, e0]))
            show (if sw f a N x = N then sw f a N N else sw f a N x) = sw (contr N f) a x0 x
            rw [gx x e hx, if_neg fx]
            unfold sw contr
            rw [if_neg e, if_neg e2, if_neg fx]
      rw [cyc, cyc_congr same, gN, if_neg h2]; rfl
theorem sw_one : ∀ {N f}, PermN N f → ∀ {a c : Nat}, a < N → c < N → a ≠ c → cyc N (sw f a c) = cyc N f + 1 ∨ cyc N f = cyc N (sw f a c) + 1
  | 0, _, _, _, _, ha, _, _ => absurd ha (Nat.not_lt_zero _)
  | N + 1, f, h, a, c, ha, hc, ne => by
    have top : ∀ a, a < N → cyc (N + 1) (sw f a N) = cyc (N + 1) f + 1 ∨ cyc (N + 1) f = cyc (N + 1) (sw f a N) + 1 := fun a ha => by
      rcases sw_top h ha with ⟨_, e⟩ | ⟨_, e⟩ | ⟨x0, h0, na, _, _, e1, e2⟩
      · exact .inr e
      · exact .inl e
      · rw [e1, e2]
        exact sw_one h.contr ha h0 (Ne.symm na)
    by_cases h1 : c = N
    · subst h1; exact top a (by omega)
    · by_cases h2 : a = N
      · subst h2
        rw [sw_comm ne]
        exact top c (by omega)
      · have eN : sw f a c N = f N := by unfold sw; rw [if_neg (by omega), if_neg (by omega)]
        rw [cyc, cyc, cyc_congr (contr_sw (f := f) (a := a) (c := c) (by omega) (by omega)), eN]
        rcases sw_one h.contr (a := a) (c := c) (by omega) (by omega) ne with e | e
        · left; omega
        · right; omega
/-- where a place comes to stand for itself -/
theorem sw_fix : ∀ {N f}, PermN N f → ∀ {a c : Nat}, a < N → c < N → a ≠ c → f c = a → cyc N (sw f a c) = cyc N f + 1
  | 0, _, _, _, _, ha, _, _, _ => absurd ha (Nat.not_lt_zero _)
  | N + 1, f, h, a, c, ha, hc, ne, hf => by
    by_cases h1 : c = N
    · subst h1
      rcases sw_top h (a := a) (by omega) with ⟨e0, _⟩ | ⟨_, e⟩ | ⟨x0, h0, na, e0, _, e1, e2⟩
      · omega
      · exact e
      · rw [e1, e2]
        exact sw_fix h.contr (by omega) h0 (Ne.symm na) (by rw [e0, hf])
    · by_cases h2 : a = N
      · subst h2
        rw [sw_comm ne]
        rcases sw_top h (a := c) (by omega) with ⟨e0, _⟩ | ⟨_, e⟩ | ⟨x0, h0, na, e0, n0, e1, e2⟩
        · have := h.inj a c (by omega) (by omega) (by rw [e0, hf]); omega
        · exact e
        · exfalso
          have : f x0 = a := by
            unfold contr at e0
            by_cases q : f x0 = a
            · exact q
            · rw [if_neg q] at e0
              have := h.inj x0 a (by omega) (by omega) e0; omega
          exact na (h.inj x0 c (by omega) (by omega) (by rw [this, hf]))
      · have eN : sw f a c N = f N := by unfold sw; rw [if_neg (by omega), if_neg (by omega)]
        rw [cyc, cyc, cyc_congr (contr_sw (f := f) (a := a) (c := c) (by omega) (by omega)), eN, sw_fix h.contr (a := a) (c := c) (by omega) (by omega) ne (by unfold contr; rw [if_neg (by omega), hf])]
        omega
/-! read backwards; called otherwise -/
theorem conn_inv {N f g} (h : PermN N f) (e : ∀ i, i < N → g (f i) = i) {i : Nat} (hi : i < N) : ∀ k, itr g k (itr f k i) = i
  | 0 => rfl
  | k + 1 => by
    rw [itr_shift]
    show itr g k (g (f (itr f k i))) = i
    rw [e _ (h.itr_lt hi k), conn_inv h e hi k]
theorem cyc_inv {N f g} (h : PermN N f) (hg : PermN N g) (e : ∀ i, i < N → g (f i) = i) : cyc N g = cyc N f := by
  obtain ⟨l, r, el⟩ := reps_ex h
  have back : ∀ i j, i < N → conn f i j → conn g j i := fun i j hi ⟨k, q⟩ => ⟨k, q ▸ conn_inv h e hi k⟩
  have e' : ∀ i, i < N → f (g i) = i := fun i hi => by
    obtain ⟨j, hj, rfl⟩ := h.surj hi
    rw [e j hj]
  have forth : ∀ i j, i < N → conn g i j → conn f j i := fun i j hi ⟨k, q⟩ => ⟨k, q ▸ conn_inv hg e' hi k⟩
  have r' : Reps N g l := ⟨r.lt, List.Pairwise.imp_of_mem (fun {i j} hi hj hn c => hn ((forth i j (r.lt i hi) c).symm h (r.lt j hj))) r.ne, fun i hi => by
    obtain ⟨j, hj, c⟩ := r.all i hi
    exact ⟨j, hj, (back j i (r.lt j hj) c).symm hg hi⟩⟩
  rw [← r'.cyc hg, el]
theorem cyc_conj {N f g σ} (h : PermN N f) (hg : PermN N g) (hσ : PermN N σ) (e : ∀ i, i < N → g (σ i) = σ (f i)) : cyc N g = cyc N f := by
  obtain ⟨l, r, el⟩ := reps_ex h
  have step : ∀ i, i < N → ∀ k, itr g k (σ i) = σ (itr f k i) := fun i hi k => by
    induction k with
    | zero => rfl
    | succ k ih => show g (itr g k (σ i)) = σ (f (itr f k i)); rw [ih, e _ (h.itr_lt hi k)]
  have r' : Reps N g (l.map σ) := by
    refine ⟨fun i hi => ?_, ?_, fun i hi => ?_⟩
    · obtain ⟨j, hj, rfl⟩ := List.mem_map.mp hi
      exact hσ.lt j (r.lt j hj)
    · rw [List.pairwise_map]
      refine List.Pairwise.imp_of_mem (fun {i j} hi hj hn c => hn ?_) r.ne
      obtain ⟨k, q⟩ := c
      rw [step i (r.lt i hi)] at q
      exact ⟨k, hσ.inj _ _ (h.itr_lt (r.lt i hi) k) (r.lt j hj) q⟩
    · obtain ⟨i0, hi0, rfl⟩ := hσ.surj hi
      obtain ⟨j, hj, k, q⟩ := r.all i0 hi0
      exact ⟨σ j, List.mem_map.mpr ⟨j, hj, rfl⟩, k, by rw [step j (r.lt j hj), q]⟩
  have := r'.cyc hg
  rw [List.length_map] at this
  rw [← this, el]
end DL.W

/-! Plain laws: the web of the gaps of numbers, its rings, and what an exchange does to them. -/
namespace DL.W
/-! ### rings as lists -/
def per (N : Nat) (f : Nat → Nat) (g : Nat) : Nat := ((List.range N).find? fun k => decide (itr f (k + 1) g = g)).getD 0 + 1
theorem per_ok {N f} (h : PermN N f) {g : Nat} (hg : g < N) : itr f (per N f g) g = g ∧ per N f g ≤ N ∧ ∀ k, 0 < k → k < per N f g → itr f k g ≠ g := by
  obtain ⟨p, hp, hpN, e⟩ := h.period hg
  cases q : (List.range N).find? fun k => decide (itr f (k + 1) g = g) with
  | none =>
    rw [List.find?_eq_none] at q
    have := q (p - 1) (List.mem_range.mpr (by omega))
    rw [show p - 1 + 1 = p by omega] at this
    exact absurd (decide_eq_true e) this
  | some k =>
    have hper : per N f g = k + 1 := by unfold per; rw [q]; rfl
    rw [hper]
    obtain ⟨h1, l1, l2, h2, h3⟩ := List.find?_eq_some_iff_append.mp q
    have hk : k = l1.length := by
      have e1 : (List.range N)[l1.length]? = (l1 ++ k :: l2)[l1.length]? := by rw [h2]
      rw [List.getElem?_append_right (Nat.le_refl _), Nat.sub_self, List.getElem?_cons_zero] at e1
      have := (List.getElem?_eq_some_iff.mp e1)
      obtain ⟨a, b⟩ := this
      rw [List.getElem_range] at b
      exact b.symm
    have hlt : k < N := by
      have := congrArg List.length h2
      rw [List.length_range, List.length_append, List.length_cons] at this
      omega
    refine ⟨of_decide_eq_true h1, by omega, fun m hm0 hm e2 => ?_⟩
    have hm1 : m - 1 < l1.length := by omega
    have e1 : l1[m - 1]? = some (m - 1) := by
      have e3 : (List.range N)[m - 1]? = (l1 ++ k :: l2)[m - 1]? := by rw [h2]
      rw [List.getElem?_append_left hm1, List.getElem?_range (by omega)] at e3
      exact e3.symm
    have hmem : m - 1 ∈ l1 := List.mem_of_getElem? e1
    have := h3 _ hmem
    rw [show m - 1 + 1 = m by omega] at this
    simp [e2] at this
theorem per_pos {N f g} : 0 < per N f g := Nat.succ_pos _
def ring (N : Nat) (f : Nat → Nat) (g : Nat) : List Nat := (List.range (per N f g)).map fun k => itr f k g
theorem itr_mod {N f} (h : PermN N f) {g : Nat} (hg : g < N) (k : Nat) : itr f k g = itr f (k % per N f g) g := by
  conv => lhs; rw [← Nat.div_add_mod k (per N f g), itr_add, itr_mul (per_ok h hg).1]
theorem mem_ring {N f} (h : PermN N f) {g x : Nat} (hg : g < N) : x ∈ ring N f g ↔ conn f g x := by
  unfold ring
  rw [List.mem_map]
  constructor
  · rintro ⟨k, _, rfl⟩; exact ⟨k, rfl⟩
  · rintro ⟨k, rfl⟩
    exact ⟨k % per N f g, List.mem_range.mpr (Nat.mod_lt _ per_pos), (itr_mod h hg k).symm⟩
theorem ring_nd {N f} (h : PermN N f) {g : Nat} (hg : g < N) : (ring N f g).Nodup := by
  refine nodup_map_of List.nodup_range fun x hx y hy e => ?_
  rw [List.mem_range] at hx hy
  have key : ∀ x y, x < y → y < per N f g → itr f x g = itr f y g → False := fun x y hxy hy e => by
    have e2 : itr f y g = itr f x (itr f (y - x) g) := by rw [← itr_add]; congr 1; omega
    rw [e2] at e
    exact (per_ok h hg).2.2 (y - x) (by omega) (by omega) (h.itr_inj hg (h.itr_lt hg _) x e).symm
  rcases Nat.lt_trichotomy x y with l | l | l
  · exact (key x y l hy e).elim
  · exact l
  · exact (key y x l hx e.symm).elim
def first (N : Nat) (f : Nat → Nat) (g : Nat) : Bool := decide (∀ h, h < g → g ∉ ring N f h)
def ringsL (N : Nat) (f : Nat → Nat) (m : Nat) : List (List Nat) := ((List.range m).filter (first N f)).map (ring N f)
theorem ringsL_succ {N f} (m : Nat) : ringsL N f (m + 1) = ringsL N f m ++ (if first N f m = true then [ring N f m] else []) := by
  unfold ringsL
  rw [List.range_succ, List.filter_append, List.map_append]
  congr 1
  by_cases e : first N f m = true <;> simp [e]
theorem covered {N f} (h : PermN N f) : ∀ {x : Nat}, x < N → ∃ g, g ≤ x ∧ first N f g = true ∧ conn f g x := by
  intro x
  induction x using Nat.strongRecOn with
  | ind x ih =>
    intro hx
    by_cases e : first N f x = true
    · exact ⟨x, Nat.le_refl _, e, .refl x⟩
    · unfold first at e
      rw [decide_eq_true_eq] at e
      have : ∃ g, g < x ∧ x ∈ ring N f g := by
        apply Classical.byContradiction
        intro q
        exact e fun g hg hm => q ⟨g, hg, hm⟩
      obtain ⟨g, hg, hm⟩ := this
      obtain ⟨g2, h1, h2, h3⟩ := ih g hg (by omega)
      exact ⟨g2, by omega, h2, h3.trans ((mem_ring h (by omega)).mp hm)⟩
theorem mem_ringsL {N f} (h : PermN N f) {m x : Nat} (hm : m ≤ N) : (∃ r ∈ ringsL N f m, x ∈ r) ↔ ∃ g, g < m ∧ x ∈ ring N f g := by
  constructor
  · rintro ⟨r, hr, hx⟩
    obtain ⟨g, hg, rfl⟩ := List.mem_map.mp hr
    exact ⟨g, List.mem_range.mp (List.mem_filter.mp hg).1, hx⟩
  · rintro ⟨g, hg, hx⟩
    obtain ⟨g2, h1, h2, h3⟩ := covered h (show g < N by omega)
    refine ⟨ring N f g2, List.mem_map.mpr ⟨g2, List.mem_filter.mpr ⟨List.mem_range.mpr (by omega), h2⟩, rfl⟩, (mem_ring h (by omega)).mpr (h3.trans ((mem_ring h (by omega)).mp hx))⟩
theorem ringsL_len {N f} (h : PermN N f) : (ringsL N f N).length = cyc N f := by
  unfold ringsL
  rw [List.length_map]
  refine Reps.cyc h ⟨fun i hi => List.mem_range.mp (List.mem_filter.mp hi).1, ?_, fun i hi => ?_⟩
  · refine List.Pairwise.imp_of_mem (fun {i j} hi hj hlt c => ?_) (List.Pairwise.filter _ List.pairwise_lt_range)
    have h1 := (List.mem_filter.mp hj).2
    unfold first at h1
    rw [decide_eq_true_eq] at h1
    exact h1 i hlt ((mem_ring h (List.mem_range.mp (List.mem_filter.mp hi).1)).mpr c)
  · obtain ⟨g, h1, h2, h3⟩ := covered h hi
    exact ⟨g, List.mem_filter.mpr ⟨List.mem_range.mpr (by omega), h2⟩, h3⟩
/-! ### numbers with both ends -/
def IsP (ns : List Nat) : Prop := ns.Perm (List.range' 1 ns.length)
def padN (ns : List Nat) : List Nat := 0 :: (ns ++ [ns.length + 1])
theorem padN_len (ns : List Nat) : (padN ns).length = ns.length + 2 := by simp [padN]
theorem padN_perm {ns : List Nat} (h : IsP ns) : (padN ns).Perm (List.range (ns.length + 2)) := by
  have e : List.range (ns.length + 2) = 0 :: (List.range' 1 ns.length ++ [ns.length + 1]) := by
    rw [List.range_eq_range', List.range'_succ, show (ns.length + 1) = ns.length + 1 from rfl, List.range'_concat]
    simp [Nat.add_comm]
  rw [e]
  exact List.Perm.cons _ (List.Perm.append_right _ h)
theorem padN_nd {ns : List Nat} (h : IsP ns) : (padN ns).Nodup := (padN_perm h).nodup_iff.mpr List.nodup_range
theorem padN_mem {ns : List Nat} (h : IsP ns) {x : Nat} : x ∈ padN ns ↔ x < ns.length + 2 := by rw [(padN_perm h).mem_iff, List.mem_range]
theorem padN_get {ns : List Nat} (h : IsP ns) {i : Nat} (hi : i < ns.length + 2) : (padN ns)[i]? = some ((padN ns).getD i 0) ∧ (padN ns).getD i 0 < ns.length + 2 := by
  have hi2 : i < (padN ns).length := by rw [padN_len]; exact hi
  have e2 : (padN ns).getD i 0 = (padN ns)[i] := by rw [List.getD_eq_getElem?_getD, List.getElem?_eq_getElem hi2]; rfl
  rw [e2]
  exact ⟨List.getElem?_eq_getElem hi2, (padN_mem h).mp (List.getElem_mem _)⟩
theorem idxOf_get {l : List Nat} (nd : l.Nodup) {i : Nat} (hi : i < l.length) : l.idxOf l[i] = i := by
  have h := idxOf_first (k := l[i]) (ns := l) (List.getElem_mem hi)
  have h1 : l.idxOf l[i] < l.length := (List.getElem?_eq_some_iff.mp h.1).1
  have h2 : l[l.idxOf l[i]] = l[i] := (List.getElem?_eq_some_iff.mp h.1).2
  exact (List.getElem_inj nd).mp h2
theorem get_idxOf {l : List Nat} {x : Nat} (h : x ∈ l) : l.idxOf x < l.length ∧ l[l.idxOf x]? = some x := ⟨(List.getElem?_eq_some_iff.mp (idxOf_first h).1).1, (idxOf_first h).1⟩
theorem pad_idx {ns : List Nat} (h : IsP ns) {i : Nat} (hi : i < ns.length + 2) : (padN ns).idxOf ((padN ns).getD i 0) = i := by
  have hi2 : i < (padN ns).length := by rw [padN_len]; exact hi
  have e2 : (padN ns).getD i 0 = (padN ns)[i] := by rw [List.getD_eq_getElem?_getD, List.getElem?_eq_getElem hi2]; rfl
  rw [e2, idxOf_get (padN_nd h) hi2]
theorem pad_of_idx {ns : List Nat} (h : IsP ns) {x : Nat} (hx : x < ns.length + 2) : (padN ns).idxOf x < ns.length + 2 ∧ (padN ns).getD ((padN ns).idxOf x) 0 = x := by
  obtain ⟨h1, h2⟩ := get_idxOf ((padN_mem h).mpr hx)
  rw [padN_len] at h1
  exact ⟨h1, by rw [List.getD_eq_getElem?_getD, h2]; rfl⟩
theorem pad_0 {ns : List Nat} : (padN ns).getD 0 0 = 0 := rfl
theorem pad_last {ns : List Nat} : (padN ns).getD (ns.length + 1) 0 = ns.length + 1 := by
  rw [List.getD_eq_getElem?_getD]
  unfold padN
  rw [List.getElem?_cons_succ, List.getElem?_append_right (Nat.le_refl _), Nat.sub_self]; rfl
theorem pad_in {ns : List Nat} {i : Nat} (h : i < ns.length) : (padN ns).getD (i + 1) 0 = ns[i] := by
  rw [List.getD_eq_getElem?_getD]
  unfold padN
  rw [List.getElem?_cons_succ, List.getElem?_append_left h, List.getElem?_eq_getElem h]; rfl
theorem pad_pos {ns : List Nat} (h : IsP ns) {i : Nat} (hi : i < ns.length + 2) (h0 : 0 < i) : 0 < (padN ns).getD i 0 := by
  apply Nat.pos_of_ne_zero
  intro e
  have := pad_idx h hi
  rw [e, show (padN ns).idxOf 0 = 0 from by have := pad_idx h (i := 0) (by omega); rwa [pad_0] at this] at this
  omega
theorem pad_low {ns : List Nat} (h : IsP ns) {i : Nat} (hi : i < ns.length + 1) : (padN ns).getD i 0 < ns.length + 1 := by
  have h1 := (padN_get h (i := i) (by omega)).2
  have h2 : (padN ns).getD i 0 ≠ ns.length + 1 := fun e => by
    have h3 := pad_idx h (i := i) (by omega)
    have h4 := pad_idx h (i := ns.length + 1) (by omega)
    rw [pad_last] at h4
    rw [e, h4] at h3; omega
  omega
/-- the gap to which a gap leads -/
def lead (ns : List Nat) (g : Nat) : Nat := (padN ns).idxOf ((padN ns).getD (g + 1) 0 - 1)
/-- the same, gaps told by what is ahead of them -/
def phi (ns : List Nat) (u : Nat) : Nat := (padN ns).getD ((padN ns).idxOf u + 1) 0 - 1
theorem idx_low {ns : List Nat} (h : IsP ns) {u : Nat} (hu : u < ns.length + 1) : (padN ns).idxOf u < ns.length + 1 := by
  obtain ⟨h1, h2⟩ := pad_of_idx h (x := u) (by omega)
  have : (padN ns).idxOf u ≠ ns.length + 1 := fun e => by
    rw [e, pad_last] at h2; omega
  omega
theorem permN_pad {ns : List Nat} (h : IsP ns) : PermN (ns.length + 1) fun g => (padN ns).getD g 0 :=
  ⟨fun i hi => pad_low h hi, fun i j hi hj e => by
    have h1 := pad_idx h (i := i) (by omega)
    have h2 := pad_idx h (i := j) (by omega)
    have e' : (padN ns).getD i 0 = (padN ns).getD j 0 := e
    rw [← h1, ← h2, e']⟩
theorem permN_phi {ns : List Nat} (h : IsP ns) : PermN (ns.length + 1) (phi ns) := by
  refine ⟨fun u hu => ?_, fun u v hu hv e => ?_⟩
  · have h1 := idx_low h hu
    have h2 := (padN_get h (i := (padN ns).idxOf u + 1) (by omega)).2
    have h3 := pad_pos h (i := (padN ns).idxOf u + 1) (by omega) (by omega)
    unfold phi; omega
  · have h1 := idx_low h hu
    have h2 := idx_low h hv
    have h3 := pad_pos h (i := (padN ns).idxOf u + 1) (by omega) (by omega)
    have h4 := pad_pos h (i := (padN ns).idxOf v + 1) (by omega) (by omega)
    unfold phi at e
    have e2 : (padN ns).getD ((padN ns).idxOf u + 1) 0 = (padN ns).getD ((padN ns).idxOf v + 1) 0 := by omega
    have h5 := pad_idx h (i := (padN ns).idxOf u + 1) (by omega)
    have h6 := pad_idx h (i := (padN ns).idxOf v + 1) (by omega)
    rw [e2, h6] at h5
    have h7 := (pad_of_idx h (x := u) (by omega)).2
    have h8 := (pad_of_idx h (x := v) (by omega)).2
    rw [← h7, ← h8]
    congr 1; omega
theorem pad_lead {ns : List Nat} (h : IsP ns) {g : Nat} (hg : g < ns.length + 1) : (padN ns).getD (lead ns g) 0 = (padN ns).getD (g + 1) 0 - 1 := by
  have h1 := (padN_get h (i := g + 1) (by omega)).2
  exact (pad_of_idx h (x := (padN ns).getD (g + 1) 0 - 1) (by omega)).2
theorem permN_lead {ns : List Nat} (h : IsP ns) : PermN (ns.length + 1) (lead ns) := by
  refine ⟨fun g hg => ?_, fun i j hi hj e => ?_⟩
  · have h1 := (padN_get h (i := g + 1) (by omega)).2
    have h2 := pad_pos h (i := g + 1) (by omega) (by omega)
    exact idx_low h (by omega)
  · have h1 := pad_lead h hi
    have h2 := pad_lead h hj
    rw [e] at h1
    have h3 := pad_pos h (i := i + 1) (by omega) (by omega)
    have h4 := pad_pos h (i := j + 1) (by omega) (by omega)
    have e2 : (padN ns).getD (i + 1) 0 = (padN ns).getD (j + 1) 0 := by omega
    have h5 := pad_idx h (i := i + 1) (by omega)
    have h6 := pad_idx h (i := j + 1) (by omega)
    rw [e2, h6] at h5; omega
/-- how many rings -/
def nrings (ns : List Nat) : Nat := cyc (ns.length + 1) (lead ns)
def far (ns : List Nat) : Nat := (ns.length + 1 - nrings ns) / 2
theorem nrings_phi {ns : List Nat} (h : IsP ns) : nrings ns = cyc (ns.length + 1) (phi ns) := by
  refine (cyc_conj (σ := fun g => (padN ns).getD g 0) (permN_lead h) (permN_phi h) (permN_pad h) fun i hi => ?_).symm
  show phi ns ((padN ns).getD i 0) = (padN ns).getD (lead ns i) 0
  rw [pad_lead h hi]
  unfold phi
  rw [pad_idx h (by omega)]
theorem nrings_le {ns : List Nat} (h : IsP ns) : nrings ns ≤ ns.length + 1 := cyc_le (permN_lead h)
/-! ### an exchange -/
def swapL {α : Type} (xs : List α) (p q r s : Nat) : List α := xs.take p ++ ((xs.drop r).take (s - r) ++ ((xs.drop q).take (r - q) ++ ((xs.drop p).take (q - p) ++ xs.drop s)))
def ixS (p q r s i : Nat) : Nat := if i < p then i else if i < p + (s - r) then r + (i - p) else if i < p + (s - q) then q + (i - (p + (s - r))) else if i < s then p + (i - (p + (s - q))) else i
structure Exch (n p q r s : Nat) : Prop where
  pq : p < q
  qr : q ≤ r
  rs : r < s
  sn : s ≤ n
theorem swapL_get {α : Type} {xs : List α} {p q r s : Nat} (e : Exch xs.length p q r s) (i : Nat) : (swapL xs p q r s)[i]? = xs[ixS p q r s i]? := by
  obtain ⟨h1, h2, h3, h4⟩ := e
  have l1 : (xs.take p).length = p := by rw [List.length_take]; omega
  have l2 : ((xs.drop r).take (s - r)).length = s - r := by rw [List.length_take, List.length_drop]; omega
  have l3 : ((xs.drop q).take (r - q)).length = r - q := by rw [List.length_take, List.length_drop]; omega
  have l4 : ((xs.drop p).take (q - p)).length = q - p := by rw [List.length_take, List.length_drop]; omega
  unfold swapL ixS
  by_cases c1 : i < p
  · rw [if_pos c1, List.getElem?_append_left (by omega), List.getElem?_take, if_pos c1]
  · rw [if_neg c1, List.getElem?_append_right (by omega), l1]
    by_cases c2 : i < p + (s - r)
    · rw [if_pos c2, List.getElem?_append_left (by omega), List.getElem?_take, if_pos (by omega), List.getElem?_drop]
    · rw [if_neg c2, List.getElem?_append_right (by omega), l2]
      by_cases c3 : i < p + (s - q)
      · rw [if_pos c3, List.getElem?_append_left (by omega), List.getElem?_take, if_pos (by omega), List.getElem?_drop]
        congr 1; omega
      · rw [if_neg c3, List.getElem?_append_right (by omega), l3]
        by_cases c4 : i < s
        · rw [if_pos c4, List.getElem?_append_left (by omega), List.getElem?_take, if_pos (by omega), List.getElem?_drop]
          congr 1; omega
        · rw [if_neg c4, List.getElem?_append_right (by omega), l4, List.getElem?_drop]
          congr 1; omega
theorem swapL_perm {α : Type} {xs : List α} {p q r s : Nat} (e : Exch xs.length p q r s) : (swapL xs p q r s).Perm xs := by
  obtain ⟨h1, h2, h3, h4⟩ := e
  have e1 : xs = xs.take p ++ ((xs.drop p).take (q - p) ++ ((xs.drop q).take (r - q) ++ ((xs.drop r).take (s - r) ++ xs.drop s))) := by
    have a1 : xs.drop s = (xs.drop r).drop (s - r) := by rw [List.drop_drop]; congr 1; omega
    have a2 : xs.drop r = (xs.drop q).drop (r - q) := by rw [List.drop_drop]; congr 1; omega
    have a3 : xs.drop q = (xs.drop p).drop (q - p) := by rw [List.drop_drop]; congr 1; omega
    rw [a1, List.take_append_drop, a2, List.take_append_drop, a3, List.take_append_drop, List.take_append_drop]
  conv => rhs; rw [e1]
  unfold swapL
  refine List.Perm.append_left _ ?_
  generalize (xs.drop r).take (s - r) = A
  generalize (xs.drop q).take (r - q) = B
  generalize (xs.drop p).take (q - p) = C
  generalize xs.drop s = E
  have h5 : (A ++ (B ++ (C ++ E))).Perm (C ++ (A ++ (B ++ E))) := by
    have h6 := List.Perm.append_right E (List.perm_append_comm (l₁ := A ++ B) (l₂ := C))
    simpa only [List.append_assoc] using h6
  have h7 : (A ++ (B ++ E)).Perm (B ++ (A ++ E)) := by
    have h6 := List.Perm.append_right E (List.perm_append_comm (l₁ := A) (l₂ := B))
    simpa only [List.append_assoc] using h6
  exact h5.trans (List.Perm.append_left _ h7)
theorem swapL_len {α : Type} {xs : List α} {p q r s : Nat} (e : Exch xs.length p q r s) : (swapL xs p q r s).length = xs.length := (swapL_perm e).length_eq
theorem IsP.swap {ns : List Nat} (h : IsP ns) {p q r s : Nat} (e : Exch ns.length p q r s) : IsP (swapL ns p q r s) := by
  unfold IsP
  rw [swapL_len e]
  exact (swapL_perm e).trans h
def ixP (p q r s i : Nat) : Nat := if i = 0 then 0 else ixS p q r s (i - 1) + 1
theorem ixS_lt {n p q r s i : Nat} (e : Exch n p q r s) (h : i < n) : ixS p q r s i < n := by
  obtain ⟨h1, h2, h3, h4⟩ := e
  unfold ixS
  split
  · exact h
  · split
    · omega
    · split
      · omega
      · split <;> omega
theorem pad_swap {ns : List Nat} {p q r s : Nat} (e : Exch ns.length p q r s) {i : Nat} (hi : i < ns.length + 2) : (padN (swapL ns p q r s)).getD i 0 = (padN ns).getD (ixP p q r s i) 0 := by
  have hl := swapL_len e
  unfold ixP
  by_cases h0 : i = 0
  · subst h0; rfl
  · rw [if_neg h0]
    obtain ⟨j, rfl⟩ : ∃ j, i = j + 1 := ⟨i - 1, by omega⟩
    rw [Nat.add_sub_cancel]
    by_cases h1 : j < ns.length
    · have h2 := ixS_lt e h1
      rw [pad_in (by rw [hl]; exact h1), pad_in h2]
      have := swapL_get e j
      rw [List.getElem?_eq_getElem (by rw [hl]; exact h1), List.getElem?_eq_getElem h2] at this
      exact Option.some.inj this
    · have h2 : j = ns.length := by omega
      have h3 : ixS p q r s j = j := by
        obtain ⟨h1, h2, h3, h4⟩ := e
        unfold ixS
        rw [if_neg (by omega), if_neg (by omega), if_neg (by omega), if_neg (by omega)]
      rw [h3, h2]
      have := pad_last (ns := swapL ns p q r s)
      rw [hl] at this
      rw [this, pad_last]
theorem ixP_lt {n p q r s i : Nat} (e : Exch n p q r s) (h : i < n + 1) : ixP p q r s i < n + 1 := by
  unfold ixP
  split
  · omega
  · have := ixS_lt e (i := i - 1) (by omega); omega
/-- what an exchange makes of the web -/
theorem phi_swap {ns : List Nat} (h : IsP ns) {p q r s : Nat} (e : Exch ns.length p q r s) {u : Nat} (hu : u < ns.length + 1) :
    phi (swapL ns p q r s) u = sw (sw (phi ns) ((padN ns).getD p 0) ((padN ns).getD r 0)) ((padN ns).getD q 0) ((padN ns).getD s 0) u := by
  have hl := swapL_len e
  have h' := h.swap e
  have hu' : u < (swapL ns p q r s).length + 1 := by rw [hl]; exact hu
  -- u stands at i behind the exchange
  obtain ⟨i, hi, rfl⟩ : ∃ i, i < ns.length + 1 ∧ u = (padN ns).getD (ixP p q r s i) 0 := by
    refine ⟨(padN (swapL ns p q r s)).idxOf u, by have := idx_low h' hu'; rwa [hl] at this, ?_⟩
    have h1 := idx_low h' hu'
    rw [hl] at h1
    rw [← pad_swap e (by omega)]
    exact ((pad_of_idx h' (x := u) (by rw [hl]; omega)).2).symm
  have left : phi (swapL ns p q r s) ((padN ns).getD (ixP p q r s i) 0) = (padN ns).getD (ixP p q r s (i + 1)) 0 - 1 := by
    unfold phi
    rw [← pad_swap e (i := i) (by omega), pad_idx h' (by rw [hl]; omega), pad_swap e (by omega)]
  rw [left]
  have same : ∀ a b, a < ns.length + 1 → b < ns.length + 1 → ((padN ns).getD a 0 = (padN ns).getD b 0 ↔ a = b) := fun a b ha hb => ⟨fun q => (permN_pad h).inj a b ha hb q, fun q => by rw [q]⟩
  have ph : ∀ a, a < ns.length + 1 → phi ns ((padN ns).getD a 0) = (padN ns).getD (a + 1) 0 - 1 := fun a ha => by
    unfold phi; rw [pad_idx h (by omega)]
  have hx := ixP_lt e (i := i) hi
  obtain ⟨h1, h2, h3, h4⟩ := e
  unfold sw
  simp only [same (ixP p q r s i) q hx (by omega), same (ixP p q r s i) s hx (by omega), same (ixP p q r s i) p hx (by omega), same (ixP p q r s i) r hx (by omega), same s p (by omega) (by omega), same s r (by omega) (by omega), same q p (by omega) (by omega), same q r (by omega) (by omega), ph (ixP p q r s i) hx, ph s (by omega), ph q (by omega), ph p (by omega), ph r (by omega)]
  have key : ∀ a b : Nat, a = b → (padN ns).getD a 0 - 1 = (padN ns).getD b 0 - 1 := fun a b q => by rw [q]
  unfold ixP ixS
  rw [if_neg (show ¬ i + 1 = 0 by omega), Nat.add_sub_cancel]
  repeat' split
  all_goals first | (exfalso; omega) | (apply key; omega)
theorem nrings_swap {ns : List Nat} (h : IsP ns) {p q r s : Nat} (e : Exch ns.length p q r s) : nrings (swapL ns p q r s) = nrings ns + 2 ∨ nrings (swapL ns p q r s) = nrings ns ∨ nrings ns = nrings (swapL ns p q r s) + 2 := by
  have hl := swapL_len e
  have e0 : cyc (ns.length + 1) (phi (swapL ns p q r s)) = cyc (ns.length + 1) (sw (sw (phi ns) ((padN ns).getD p 0) ((padN ns).getD r 0)) ((padN ns).getD q 0) ((padN ns).getD s 0)) := cyc_congr fun u hu => phi_swap h e hu
  rw [nrings_phi h, nrings_phi (h.swap e), hl, e0]
  have d : ∀ a b, a < ns.length + 1 → b < ns.length + 1 → a ≠ b → (padN ns).getD a 0 ≠ (padN ns).getD b 0 := fun a b ha hb ne q => ne ((permN_pad h).inj a b ha hb q)
  obtain ⟨h1, h2, h3, h4⟩ := e
  have b := fun a (ha : a < ns.length + 1) => pad_low h ha
  have s1 := sw_one (permN_phi h) (a := (padN ns).getD p 0) (c := (padN ns).getD r 0) (b p (by omega)) (b r (by omega)) (d p r (by omega) (by omega) (by omega))
  have s2 := sw_one ((permN_phi h).sw (a := (padN ns).getD p 0) (c := (padN ns).getD r 0) (b p (by omega)) (b r (by omega))) (a := (padN ns).getD q 0) (c := (padN ns).getD s 0) (b q (by omega)) (b s (by omega)) (d q s (by omega) (by omega) (by omega))
  omega
end DL.W

/-! Numbers and rings as data. -/
namespace DL
open PySem PySem.Spec PyProof.Rows L2
abbrev nat1 (n : Nat) : D := .int (n : Nat)
def nats (ns : List Nat) : List D := ns.map fun n => D.int (n : Nat)
theorem nats_len {ns : List Nat} : (nats ns).length = ns.length := by simp [nats]
theorem nats_get {ns : List Nat} {i : Nat} (h : i < ns.length) : (nats ns)[i]? = some (.int (ns[i] : Nat)) := by
  unfold nats; rw [List.getElem?_map, List.getElem?_eq_getElem h]; rfl
theorem nats_at {ns : List Nat} {i : Nat} (h : i < ns.length) : atI (nats ns) (i : Int) = some (.int (ns[i] : Nat)) := atI_some rfl (nats_get h)
theorem nats_elem {ns : List Nat} {i : Nat} (h : i < (nats ns).length) : (nats ns)[i] = .int (ns[i]'(by rwa [nats_len] at h) : Nat) := by simp [nats]
theorem nats_app {a b : List Nat} : nats a ++ nats b = nats (a ++ b) := by simp [nats]
theorem nats_cons {a : Nat} {b : List Nat} : D.int (a : Nat) :: nats b = nats (a :: b) := rfl
theorem nats_nil : ([] : List D) = nats [] := rfl
theorem nats_inj {a b : List Nat} : (nats a = nats b) = (a = b) := propext ⟨fun h => (List.map_inj_right (fun x y h => by have := D.int.inj h; omega)).mp h, fun h => by rw [h]⟩
theorem nats_ok {n : Nat} {ns : List Nat} : ∀ x ∈ nats ns, okN n x := fun x hx => by
  obtain ⟨m, _, rfl⟩ := List.mem_map.mp hx
  rw [okN_int]; trivial
theorem ok_lstN {ns : List Nat} {n : Nat} : okN (n + 1) (.lst (nats ns)) := nats_ok
theorem ok_tupN {ns : List Nat} {n : Nat} : okN (n + 1) (.tup (nats ns)) := nats_ok
theorem nats_ints {ns : List Nat} : nats ns = (ns.map fun n : Nat => ((n : Nat) : Int)).map D.int := by simp [nats]
theorem any_nats {ns : List Nat} {k : Nat} : ((nats ns).any fun z => eqD z (.int (k : Nat))) = decide (k ∈ ns) := by
  unfold nats
  rw [List.any_map]
  induction ns with
  | nil => rfl
  | cons n ns ih =>
    rw [List.any_cons, ih]
    rw [Bool.eq_iff_iff]
    simp only [Function.comp, eqD, Bool.or_eq_true, beq_iff_eq, decide_eq_true_eq, List.mem_cons]
    constructor
    · rintro (h | h)
      · left; omega
      · right; exact h
    · rintro (h | h)
      · left; omega
      · right; exact h
theorem nats_eq : ∀ {a b : List Nat}, eqDL (nats a) (nats b) = decide (a = b)
  | [], [] => by simp [nats, eqDL]
  | [], _ :: _ => by simp [nats, eqDL]
  | _ :: _, [] => by simp [nats, eqDL]
  | x :: a, y :: b => by
    have ih := nats_eq (a := a) (b := b)
    unfold nats at ih ⊢
    simp only [List.map_cons, eqDL, eqD, ih]
    rw [Bool.eq_iff_iff]
    simp only [Bool.and_eq_true, beq_iff_eq, decide_eq_true_eq, List.cons.injEq]
    constructor
    · rintro ⟨h1, h2⟩; exact ⟨by omega, h2⟩
    · rintro ⟨h1, h2⟩; exact ⟨by omega, h2⟩
/-- a list or a tuple of numbers -/
def numsD (d : D) (ns : List Nat) : Prop := d = .lst (nats ns) ∨ d = .tup (nats ns)
theorem numsD_lst {a b : List Nat} : numsD (.lst (nats a)) b = (a = b) := by
  unfold numsD; simp [nats_inj]
theorem numsD_tup {a b : List Nat} : numsD (.tup (nats a)) b = (a = b) := by
  unfold numsD; simp [nats_inj]
/-- how many turns a law takes -/
theorem turns_of (c : Int) (n : Nat) (h0 : 2 ≤ c) (h1 : c ≤ 100) : ∃ m : Nat, m ≤ 100 ∧ (if (if c < n then c else (n : Int)) > 2 then (if c < n then c else (n : Int)) else 2) = m := by
  refine ⟨(if (if c < n then c else (n : Int)) > 2 then (if c < n then c else (n : Int)) else 2).toNat, ?_, ?_⟩ <;> (repeat' split) <;> omega
theorem all_true {m : Nat} : (List.range m).map (fun _ => D.bl true) = (List.replicate m true).map D.bl := by
  rw [List.map_replicate]
  apply List.ext_getElem <;> simp
theorem all_rep {m : Nat} : (List.replicate m true).all _root_.id = true := by simp
/-- lists of lists, tuples of tuples -/
def ringD (r : List Nat) : D := .lst (nats r)
def ringT (r : List Nat) : D := .tup (nats r)
/-- the dict of the places of numbers -/
def placeT (ps : List Nat) : TabK := (List.range ps.length).foldl (fun t i => dPut t (Sum.inl ((ps.getD i 0 : Nat) : Int)) (.int (i : Nat))) []
theorem fold_get {ps : List Nat} (nd : ps.Nodup) : ∀ m, m ≤ ps.length → ∀ i, i < ps.length → dGet ((List.range m).foldl (fun t i => dPut t (Sum.inl ((ps.getD i 0 : Nat) : Int)) (.int (i : Nat))) ([] : TabK)) (Sum.inl ((ps.getD i 0 : Nat) : Int)) = if i < m then some (.int (i : Nat)) else none
  | 0, _, i, _ => by rw [if_neg (Nat.not_lt_zero i)]; rfl
  | m + 1, hm, i, hi => by
    rw [List.range_succ, List.foldl_append]
    show dGet (dPut _ (Sum.inl ((ps.getD m 0 : Nat) : Int)) (.int (m : Nat))) _ = _
    rw [dGet_put, fold_get nd m (by omega) i hi]
    have ei : ps.getD i 0 = ps[i] := by rw [List.getD_eq_getElem?_getD, List.getElem?_eq_getElem hi]; rfl
    have em : ps.getD m 0 = ps[m] := by rw [List.getD_eq_getElem?_getD, List.getElem?_eq_getElem (show m < ps.length by omega)]; rfl
    by_cases h : i = m
    · subst h; rw [if_pos rfl, if_pos (by omega)]
    · have hne : ¬ ((Sum.inl ((ps.getD i 0 : Nat) : Int) : Key) = Sum.inl ((ps.getD m 0 : Nat) : Int)) := fun q => h (by
        have q2 := Sum.inl.inj q
        rw [ei, em] at q2
        exact (List.getElem_inj nd).mp (by omega))
      rw [if_neg hne]
      by_cases h2 : i < m
      · rw [if_pos h2, if_pos (by omega)]
      · rw [if_neg h2, if_neg (by omega)]
theorem placeT_get {ps : List Nat} (nd : ps.Nodup) {x : Nat} (hx : x ∈ ps) : dGet (placeT ps) (Sum.inl ((x : Nat) : Int)) = some (.int (ps.idxOf x : Nat)) := by
  obtain ⟨h1, h2⟩ := W.get_idxOf hx
  have h3 : ps.getD (ps.idxOf x) 0 = x := by rw [List.getD_eq_getElem?_getD, h2]; rfl
  have := fold_get nd ps.length (Nat.le_refl _) (ps.idxOf x) h1
  rw [h3, if_pos h1] at this
  exact this
theorem fold_len {key : Nat → Key} {val : Nat → D} : ∀ n, ((List.range n).foldl (fun t i => dPut t (key i) (val i)) ([] : TabK)).length ≤ n
  | 0 => Nat.le_refl _
  | n + 1 => by
    rw [List.range_succ, List.foldl_append]
    exact Nat.le_trans (dPut_len _ _ _) (Nat.add_le_add_right (fold_len n) 1)
/-- a dict of which only the keys are asked: known ones -/
def keyIn (t : TabK) (x : Nat) : Bool := (dGet t (Sum.inl ((x : Nat) : Int))).isSome
theorem keyIn_merge {t : TabK} {r : List Nat} {x : Nat} : keyIn (mergeD t ((List.range r.length).foldl (fun t i => dPut t (Sum.inl ((r.getD i 0 : Nat) : Int)) (.bl true)) [])) x = (keyIn t x || decide (x ∈ r)) := by
  have key : ∀ (m : Nat), m ≤ r.length → ∀ x, keyIn ((List.range m).foldl (fun t i => dPut t (Sum.inl ((r.getD i 0 : Nat) : Int)) (.bl true)) ([] : TabK)) x = decide (x ∈ r.take m) := by
    intro m
    induction m with
    | zero => intro _ x; simp [keyIn, dGet]
    | succ m ih =>
      intro hm x
      rw [List.range_succ, List.foldl_append]
      have em : r.getD m 0 = r[m] := by rw [List.getD_eq_getElem?_getD, List.getElem?_eq_getElem (show m < r.length by omega)]; rfl
      show (dGet (dPut _ (Sum.inl ((r.getD m 0 : Nat) : Int)) (.bl true)) _).isSome = _
      rw [dGet_put]
      have ih2 := ih (by omega) x
      unfold keyIn at ih2
      have mt : x ∈ r.take (m + 1) ↔ x ∈ r.take m ∨ x = r[m] := by rw [List.take_succ_eq_append_getElem (by omega), List.mem_append, List.mem_singleton]
      rw [em]
      by_cases h : x = r[m]
      · rw [if_pos (by rw [h])]
        exact (decide_eq_true (mt.mpr (.inr h))).symm
      · rw [if_neg (fun q => h (by have := Sum.inl.inj q; omega)), ih2]
        exact decide_eq_decide.mpr ⟨fun h2 => mt.mpr (.inl h2), fun h2 => (mt.mp h2).resolve_right h⟩
  have rev : ∀ (s : TabK) (k : Key), (dGet s.reverse k).isSome = (dGet s k).isSome := by
    intro s k
    rw [← dGet_any, ← dGet_any, List.any_reverse]
  unfold keyIn
  rw [dGet_merge_of]
  have k2 := key r.length (Nat.le_refl _) x
  unfold keyIn at k2
  rw [List.take_length] at k2
  have r2 := rev ((List.range r.length).foldl (fun t i => dPut t (Sum.inl ((r.getD i 0 : Nat) : Int)) (.bl true)) ([] : TabK)) (Sum.inl ((x : Nat) : Int))
  rw [k2] at r2
  cases q : dGet ((List.range r.length).foldl (fun t i => dPut t (Sum.inl ((r.getD i 0 : Nat) : Int)) (.bl true)) ([] : TabK)).reverse (Sum.inl ((x : Nat) : Int)) with
  | none =>
    rw [q] at r2
    rw [← r2]; simp
  | some d =>
    rw [q] at r2
    rw [← r2]; simp
/-! ### numbers of things -/
def numsOf (ws vs : List Str) : List Nat := ws.map fun w => vs.idxOf w + 1
theorem numsOf_isP {ws vs : List Str} (G1 : GoodT ws) (G2 : GoodT vs) (hp : ws.Perm vs) : W.IsP (numsOf ws vs) := by
  have hl : (numsOf ws vs).length = vs.length := by simp [numsOf, hp.length_eq]
  unfold W.IsP
  rw [hl]
  have h1 : (numsOf ws vs).Perm (numsOf vs vs) := List.Perm.map _ hp
  have h2 : numsOf vs vs = List.range' 1 vs.length := by
    apply List.ext_getElem
    · simp [numsOf]
    · intro i h3 h4
      have hi : i < vs.length := by simpa [numsOf] using h3
      simp only [numsOf, List.getElem_map, List.getElem_range']
      have := idxOf_first (k := vs[i]) (ns := vs) (List.getElem_mem hi)
      have h5 : vs.idxOf vs[i] < vs.length := (List.getElem?_eq_some_iff.mp this.1).1
      have h6 : vs[vs.idxOf vs[i]] = vs[i] := (List.getElem?_eq_some_iff.mp this.1).2
      have h7 : vs.idxOf vs[i] = i := (List.getElem_inj G2.nd).mp h6
      rw [h7]; omega
  rw [← h2]; exact h1
def ringsOf (ns : List Nat) : List (List Nat) := W.ringsL (ns.length + 1) (W.lead ns) (ns.length + 1)
theorem ringsOf_len {ns : List Nat} (h : W.IsP ns) : (ringsOf ns).length = W.nrings ns := W.ringsL_len (W.permN_lead h)
/-! ### family C -/

/-- a list or a tuple -/
def seqDD (d : D) (xs : List D) : Prop := d = .lst xs ∨ d = .tup xs
def stepD (p q r s : Nat) : D := .tup [.int p, .int q, .int r, .int s]
theorem stepD_inj {a b c d e f g h : Nat} : (stepD a b c d = stepD e f g h) = (a = e ∧ b = f ∧ c = g ∧ d = h) := by
  unfold stepD
  apply propext
  constructor
  · intro q
    simp only [D.tup.injEq, List.cons.injEq, D.int.injEq, and_true] at q
    omega
  · rintro ⟨rfl, rfl, rfl, rfl⟩; rfl
theorem near_swap {ns : List Nat} {p q r s : Nat} : W.swapL (nats ns) p q r s = nats (W.swapL ns p q r s) := by
  simp [W.swapL, nats, List.map_take, List.map_drop]
theorem range_nats {n : Nat} : rangeD 1 n = nats (List.range' 1 n) := by
  apply List.ext_getElem
  · simp [rangeD, nats]
  · intro i h1 h2
    simp [rangeD, nats]
theorem isP_range {n : Nat} : W.IsP (List.range' 1 n) := by
  unfold W.IsP
  rw [List.length_range']
/-- the words by numbers -/
def byN (ws : List Str) (ns : List Nat) : List Str := ns.map fun n => ws.getD (n - 1) ""
theorem byN_len {ws : List Str} {ns : List Nat} : (byN ws ns).length = ns.length := by simp [byN]
theorem byN_good {ws : List Str} {ns : List Nat} (G : GoodT ws) (nd : ns.Nodup) (h : ∀ n ∈ ns, 1 ≤ n ∧ n ≤ ws.length) (h0 : 0 < ns.length) : GoodT (byN ws ns) := by
  have get : ∀ n ∈ ns, ∃ hn : n - 1 < ws.length, ws.getD (n - 1) "" = ws[n - 1] := fun n hn => by
    obtain ⟨h1, h2⟩ := h n hn
    exact ⟨by omega, by rw [List.getD_eq_getElem?_getD, List.getElem?_eq_getElem (show n - 1 < ws.length by omega)]; rfl⟩
  refine ⟨by rw [byN_len]; exact h0, ?_, ?_, ?_⟩
  · rw [byN_len]
    have := W.nodup_sub_len (l' := List.range' 1 ws.length) nd fun n hn => by
      have := h n hn
      rw [List.mem_range'_1]; omega
    rw [List.length_range'] at this
    have := G.few; omega
  · intro w hw
    obtain ⟨n, hn, rfl⟩ := List.mem_map.mp hw
    obtain ⟨h1, e⟩ := get n hn
    rw [e]; exact G.good _ (List.getElem_mem h1)
  · refine W.nodup_map_of nd fun x hx y hy e => ?_
    obtain ⟨h1, e1⟩ := get x hx
    obtain ⟨h2, e2⟩ := get y hy
    rw [e1, e2] at e
    have := (List.getElem_inj G.nd).mp e
    have := h x hx
    have := h y hy
    omega
/-- one order of numbers by another one -/
def byO (ts ns : List Nat) : List Nat := ns.map fun n => ts.getD (n - 1) 0
theorem IsP.mem {ns : List Nat} (h : W.IsP ns) {n : Nat} : n ∈ ns ↔ 1 ≤ n ∧ n ≤ ns.length := by
  have : n ∈ ns ↔ n ∈ List.range' 1 ns.length := List.Perm.mem_iff h
  rw [this, List.mem_range'_1]; omega
theorem IsP.nd {ns : List Nat} (h : W.IsP ns) : ns.Nodup := (List.Perm.nodup_iff h).mpr (List.nodup_range' (step := 1))
theorem byO_isP {ts ns : List Nat} (ht : W.IsP ts) (hn : W.IsP ns) (hl : ts.length = ns.length) : W.IsP (byO ts ns) := by
  have e : (byO ts ns).length = ts.length := by simp [byO, hl]
  unfold W.IsP
  rw [e]
  have h1 : (byO ts ns).Perm (byO ts (List.range' 1 ns.length)) := List.Perm.map _ hn
  have h2 : byO ts (List.range' 1 ns.length) = ts := by
    apply List.ext_getElem
    · simp [byO, hl]
    · intro i h3 h4
      simp [byO, List.getElem?_eq_getElem h4]
  rw [h2] at h1
  exact h1.trans ht
theorem byN_byO {ws : List Str} {ts ns : List Nat} (hn : W.IsP ns) (hl : ts.length = ns.length) : byN ws (byO ts ns) = ns.map fun n => (byN ws ts).getD (n - 1) "" := by
  unfold byN byO
  rw [List.map_map]
  apply List.map_congr_left
  intro n h
  obtain ⟨h1, h2⟩ := (IsP.mem hn).mp h
  have h3 : n - 1 < ts.length := by omega
  simp [List.getElem?_eq_getElem h3]
/-- numbers told by where words stand -/
theorem numsOf_byO {ws : List Str} {ts ns : List Nat} (G : GoodT (byN ws ts)) (hn : W.IsP ns) (hl : ts.length = ns.length) : numsOf (byN ws (byO ts ns)) (byN ws ts) = ns := by
  rw [byN_byO hn hl]
  unfold numsOf
  rw [List.map_map]
  conv => rhs; rw [← List.map_id ns]
  apply List.map_congr_left
  intro n h
  obtain ⟨h1, h2⟩ := (IsP.mem hn).mp h
  have h3 : n - 1 < (byN ws ts).length := by rw [byN_len]; omega
  show (byN ws ts).idxOf ((byN ws ts).getD (n - 1) "") + 1 = id n
  have e : (byN ws ts).getD (n - 1) "" = (byN ws ts)[n - 1] := by rw [List.getD_eq_getElem?_getD, List.getElem?_eq_getElem h3]; rfl
  rw [e]
  have := idxOf_first (k := (byN ws ts)[n - 1]) (ns := byN ws ts) (List.getElem_mem h3)
  have h5 : (byN ws ts).idxOf (byN ws ts)[n - 1] < (byN ws ts).length := (List.getElem?_eq_some_iff.mp this.1).1
  have h6 : (byN ws ts)[(byN ws ts).idxOf (byN ws ts)[n - 1]] = (byN ws ts)[n - 1] := (List.getElem?_eq_some_iff.mp this.1).2
  have h7 := (List.getElem_inj G.nd).mp h6
  rw [h7]; show n - 1 + 1 = n; omega
theorem byN_perm {ws : List Str} {ns : List Nat} (hn : W.IsP ns) (hl : ns.length = ws.length) : (byN ws ns).Perm ws := by
  have h1 : (byN ws ns).Perm (byN ws (List.range' 1 ns.length)) := List.Perm.map _ hn
  have h2 : byN ws (List.range' 1 ns.length) = ws := by
    apply List.ext_getElem
    · simp [byN, hl]
    · intro i h3 h4
      simp [byN, List.getElem?_eq_getElem h4]
  rwa [h2] at h1
def fixW : List Str := ["rings", "a", "show", "within", "put", "undo", "zz", "names"]
def sgn (k : Nat) : Nat := 97 + k % 26
def labW (st : Str) (k : Nat) : Str := st ++ ⟨(List.replicate (1 + k / 26) #[sgn k]).foldl (· ++ ·) #[]⟩
def stems : List Str := ["", "x", "abc"]
theorem lab_good : ∀ st ∈ stems, ((List.range 40).map (labW st)).Nodup ∧ ∀ w ∈ (List.range 40).map (labW st), 0 < w.length ∧ w.length < 9 ∧ ∀ c ∈ w.cps.toList, c ∈ lettersL := by decide +kernel
theorem fix_good : fixW.Nodup ∧ ∀ w ∈ fixW, 0 < w.length ∧ w.length < 9 ∧ ∀ c ∈ w.cps.toList, c ∈ lettersL := by decide +kernel
theorem goodT_sub {ws vs : List Str} (h : ws.Sublist vs) (nd : vs.Nodup) (g : ∀ w ∈ vs, goodW w) (h0 : 0 < ws.length) (h1 : ws.length ≤ 40) : GoodT ws :=
  ⟨h0, h1, fun w hw => g w (h.subset hw), h.nodup nd⟩
theorem lab_T {st : Str} (hs : st ∈ stems) {n : Nat} (h0 : 0 < n) (h1 : n ≤ 40) : GoodT ((List.range n).map (labW st)) := by
  obtain ⟨nd, g⟩ := lab_good st hs
  refine goodT_sub (vs := (List.range 40).map (labW st)) ?_ nd g (by simp; omega) (by simp; omega)
  have : List.range n = (List.range 40).take n := by rw [List.take_range]; congr 1; omega
  rw [this, List.map_take]
  exact List.take_sublist _ _
end DL

/-! Plain laws: numbers in their order, numbers read the other way, one exchange. -/
namespace DL.W
theorem isP_rg {n : Nat} : IsP (List.range' 1 n) := by unfold IsP; rw [List.length_range']
theorem IsP.mem {ns : List Nat} (h : IsP ns) {n : Nat} : n ∈ ns ↔ 1 ≤ n ∧ n ≤ ns.length := DL.IsP.mem h
theorem IsP.nd {ns : List Nat} (h : IsP ns) : ns.Nodup := DL.IsP.nd h
theorem getD_lt {α : Type} {l : List α} {i : Nat} {d : α} (h : i < l.length) : l.getD i d = l[i] := by rw [List.getD_eq_getElem?_getD, List.getElem?_eq_getElem h]; rfl
/-! ### in order -/
theorem cyc_id : ∀ {N : Nat} {f : Nat → Nat}, (∀ i, i < N → f i = i) → cyc N f = N
  | 0, _, _ => rfl
  | N + 1, f, h => by
    rw [cyc, if_pos (h N (by omega)), cyc_id (f := contr N f) fun i hi => by unfold contr; rw [h i (by omega), if_neg (by omega)]]
theorem id_of_cyc : ∀ {N : Nat} {f : Nat → Nat}, PermN N f → cyc N f = N → ∀ i, i < N → f i = i
  | 0, _, _, _, i, hi => absurd hi (Nat.not_lt_zero i)
  | N + 1, f, h, e, i, hi => by
    rw [cyc] at e
    have h1 := cyc_le h.contr
    by_cases hN : f N = N
    · rw [if_pos hN] at e
      have ih := id_of_cyc h.contr (by omega)
      by_cases hi2 : i = N
      · rw [hi2, hN]
      · have := ih i (by omega)
        unfold contr at this
        by_cases q : f i = N
        · exact absurd (h.inj i N (by omega) (by omega) (by rw [q, hN])) hi2
        · rwa [if_neg q] at this
    · rw [if_neg hN] at e; omega
theorem pad_rg {n g : Nat} (hg : g < n + 2) : (padN (List.range' 1 n)).getD g 0 = g := by
  by_cases h0 : g = 0
  · subst h0; rfl
  · obtain ⟨j, rfl⟩ : ∃ j, g = j + 1 := ⟨g - 1, by omega⟩
    by_cases h1 : j < n
    · rw [pad_in (by rw [List.length_range']; exact h1), List.getElem_range']; omega
    · have : j = n := by omega
      subst this
      have := pad_last (ns := List.range' 1 j)
      rwa [List.length_range'] at this
theorem lead_rg {n g : Nat} (hg : g < n + 1) : lead (List.range' 1 n) g = g := by
  unfold lead
  rw [pad_rg (by omega), Nat.add_sub_cancel]
  have := pad_idx (isP_rg (n := n)) (i := g) (by rw [List.length_range']; omega)
  rwa [pad_rg (by omega)] at this
theorem nrings_rg {n : Nat} : nrings (List.range' 1 n) = n + 1 := by
  unfold nrings
  rw [List.length_range']
  exact cyc_id fun i hi => lead_rg hi
theorem far_rg {n : Nat} : far (List.range' 1 n) = 0 := by
  unfold far
  rw [nrings_rg, List.length_range', Nat.sub_self]
theorem rg_of_nrings {ns : List Nat} (h : IsP ns) (e : nrings ns = ns.length + 1) : ns = List.range' 1 ns.length := by
  have hid := id_of_cyc (permN_lead h) e
  have step : ∀ g, g < ns.length + 1 → (padN ns).getD (g + 1) 0 = (padN ns).getD g 0 + 1 := fun g hg => by
    have h1 := pad_lead h hg
    rw [hid g hg] at h1
    have := pad_pos h (i := g + 1) (by omega) (by omega)
    omega
  have all : ∀ g, g < ns.length + 2 → (padN ns).getD g 0 = g := by
    intro g
    induction g with
    | zero => intro _; rfl
    | succ g ih => intro hg; rw [step g (by omega), ih (by omega)]
  apply List.ext_getElem
  · rw [List.length_range']
  · intro i h1 h2
    have := all (i + 1) (by omega)
    rw [pad_in h1] at this
    rw [this, List.getElem_range']; omega
/-! ### the other way -/
def invN (ns : List Nat) : List Nat := (List.range' 1 ns.length).map fun v => ns.idxOf v + 1
theorem invN_len {ns : List Nat} : (invN ns).length = ns.length := by simp [invN]
theorem idx_pad {ns : List Nat} (h : IsP ns) {v : Nat} (h1 : 1 ≤ v) (h2 : v ≤ ns.length) : (padN ns).idxOf v = ns.idxOf v + 1 := by
  have hv : v ∈ ns := h.mem.mpr ⟨h1, h2⟩
  obtain ⟨h3, h4⟩ := get_idxOf hv
  have h5 : (padN ns).getD (ns.idxOf v + 1) 0 = v := by rw [pad_in h3]; exact (List.getElem?_eq_some_iff.mp h4).2
  have := pad_idx h (i := ns.idxOf v + 1) (by omega)
  rwa [h5] at this
theorem invN_isP {ns : List Nat} (h : IsP ns) : IsP (invN ns) := by
  unfold IsP
  rw [invN_len]
  have h1 : (invN ns).Perm (ns.map fun v => ns.idxOf v + 1) := List.Perm.map _ h.symm
  have h2 : (ns.map fun v => ns.idxOf v + 1) = List.range' 1 ns.length := by
    apply List.ext_getElem
    · simp
    · intro i h3 h4
      have hi : i < ns.length := by simpa using h3
      rw [List.getElem_map, idxOf_get h.nd hi, List.getElem_range']; omega
  rw [← h2]; exact h1
theorem pad_inv {ns : List Nat} (h : IsP ns) {x : Nat} (hx : x < ns.length + 2) : (padN (invN ns)).getD x 0 = (padN ns).idxOf x := by
  by_cases h0 : x = 0
  · subst h0
    have := pad_idx h (i := 0) (by omega)
    rw [pad_0] at this
    rw [this]; rfl
  · by_cases h1 : x = ns.length + 1
    · subst h1
      have := pad_last (ns := invN ns)
      rw [invN_len] at this
      rw [this]
      have h2 := pad_idx h (i := ns.length + 1) (by omega)
      rw [pad_last] at h2
      exact h2.symm
    · obtain ⟨j, rfl⟩ : ∃ j, x = j + 1 := ⟨x - 1, by omega⟩
      rw [pad_in (by rw [invN_len]; omega), idx_pad h (by omega) (by omega)]
      simp [invN, Nat.add_comm]
theorem idx_inv {ns : List Nat} (h : IsP ns) {y : Nat} (hy : y < ns.length + 2) : (padN (invN ns)).idxOf y = (padN ns).getD y 0 := by
  have h1 := (padN_get h hy).2
  have h2 := pad_idx (invN_isP h) (i := (padN ns).getD y 0) (by rw [invN_len]; exact h1)
  rw [pad_inv h h1, pad_idx h hy] at h2
  exact h2
theorem nrings_inv {ns : List Nat} (h : IsP ns) : nrings (invN ns) = nrings ns := by
  have hi := invN_isP h
  have pA := permN_lead h
  have pB : PermN (ns.length + 1) (lead (invN ns)) := by have := permN_lead hi; rwa [invN_len] at this
  let C : Nat → Nat := fun x => (padN ns).idxOf ((padN ns).getD x 0 + 1) - 1
  have CA : ∀ g, g < ns.length + 1 → C (lead ns g) = g := fun g hg => by
    show (padN ns).idxOf ((padN ns).getD (lead ns g) 0 + 1) - 1 = g
    have h1 := pad_pos h (i := g + 1) (by omega) (by omega)
    rw [pad_lead h hg, Nat.sub_add_cancel h1, pad_idx h (by omega)]; omega
  have pC : PermN (ns.length + 1) C := by
    refine ⟨fun x hx => ?_, fun x y hx hy e => ?_⟩
    · obtain ⟨g, hg, rfl⟩ := pA.surj hx
      rw [CA g hg]; exact hg
    · obtain ⟨g, hg, rfl⟩ := pA.surj hx
      obtain ⟨k, hk, rfl⟩ := pA.surj hy
      rw [CA g hg, CA k hk] at e
      rw [e]
  have e1 : cyc (ns.length + 1) C = cyc (ns.length + 1) (lead ns) := cyc_inv pA pC CA
  have e2 : cyc (ns.length + 1) (lead (invN ns)) = cyc (ns.length + 1) C := cyc_conj (σ := fun g => (padN ns).getD g 0) pC pB (permN_pad h) fun x hx => by
    show lead (invN ns) ((padN ns).getD x 0) = (padN ns).getD (C x) 0
    have h1 := pad_low h hx
    have h2 := (pad_of_idx h (x := (padN ns).getD x 0 + 1) (by omega)).1
    show (padN (invN ns)).idxOf ((padN (invN ns)).getD ((padN ns).getD x 0 + 1) 0 - 1) = _
    rw [pad_inv h (by omega), idx_inv h (by omega)]
  unfold nrings
  rw [invN_len, e2, e1]
theorem far_inv {ns : List Nat} (h : IsP ns) : far (invN ns) = far ns := by
  unfold far; rw [nrings_inv h, invN_len]
/-! ### an exchange, from near -/
theorem far_swap {ns : List Nat} (h : IsP ns) {p q r s : Nat} (e : Exch ns.length p q r s) : far (swapL ns p q r s) ≤ far ns + 1 ∧ far ns ≤ far (swapL ns p q r s) + 1 := by
  have h1 := nrings_swap h e
  have h2 := nrings_le h
  have h3 := nrings_le (h.swap e)
  rw [swapL_len e] at h3
  unfold far
  rw [swapL_len e]
  omega
theorem swap_ne {n p q r s : Nat} (e : Exch n p q r s) : swapL (List.range' 1 n) p q r s ≠ List.range' 1 n := by
  intro z
  have e' : Exch (List.range' 1 n).length p q r s := by rw [List.length_range']; exact e
  have h1 := swapL_get e' p
  rw [z] at h1
  obtain ⟨h2, h3, h4, h5⟩ := e
  have h6 : ixS p q r s p = r := by
    unfold ixS
    rw [if_neg (by omega), if_pos (by omega)]; omega
  rw [h6, List.getElem?_range' (by omega), List.getElem?_range' (by omega)] at h1
  have := Option.some.inj h1
  omega
theorem far_one {n p q r s : Nat} (e : Exch n p q r s) : far (swapL (List.range' 1 n) p q r s) = 1 := by
  have e' : Exch (List.range' 1 n).length p q r s := by rw [List.length_range']; exact e
  have h1 := nrings_swap isP_rg e'
  have h3 := nrings_le (isP_rg.swap e')
  have hl := swapL_len e'
  rw [nrings_rg] at h1
  have ne : nrings (swapL (List.range' 1 n) p q r s) ≠ n + 1 := fun z => by
    have := rg_of_nrings (isP_rg.swap e') (by rw [z, hl, List.length_range'])
    rw [hl, List.length_range'] at this
    exact swap_ne e this
  rw [hl, List.length_range'] at h3
  have hn : 2 ≤ n := by obtain ⟨a, b, c, d⟩ := e; omega
  unfold far
  rw [hl, List.length_range']
  omega
end DL.W
namespace DL
open PySem
theorem numsOf_swap {ws vs : List Str} {p q r s : Nat} : numsOf (W.swapL ws p q r s) vs = W.swapL (numsOf ws vs) p q r s := by
  simp [numsOf, W.swapL, List.map_take, List.map_drop]
theorem numsOf_len {ws vs : List Str} : (numsOf ws vs).length = ws.length := by simp [numsOf]
theorem numsOf_self {ws : List Str} (nd : ws.Nodup) : numsOf ws ws = List.range' 1 ws.length := by
  apply List.ext_getElem
  · simp [numsOf]
  · intro i h3 h4
    have hi : i < ws.length := by simpa [numsOf] using h3
    simp only [numsOf, List.getElem_map, List.getElem_range']
    have := idxOf_first (k := ws[i]) (ns := ws) (List.getElem_mem hi)
    have h5 : ws.idxOf ws[i] < ws.length := (List.getElem?_eq_some_iff.mp this.1).1
    have h6 : ws[ws.idxOf ws[i]] = ws[i] := (List.getElem?_eq_some_iff.mp this.1).2
    have h7 : ws.idxOf ws[i] = i := (List.getElem_inj nd).mp h6
    rw [h7]; omega
theorem idxS {ws : List Str} (nd : ws.Nodup) {i : Nat} (hi : i < ws.length) : ws.idxOf ws[i] = i := by
  have := idxOf_first (k := ws[i]) (ns := ws) (List.getElem_mem hi)
  have h5 : ws.idxOf ws[i] < ws.length := (List.getElem?_eq_some_iff.mp this.1).1
  have h6 : ws[ws.idxOf ws[i]] = ws[i] := (List.getElem?_eq_some_iff.mp this.1).2
  exact (List.getElem_inj nd).mp h6
theorem getS {ws : List Str} {w : Str} (h : w ∈ ws) : ∃ hi : ws.idxOf w < ws.length, ws[ws.idxOf w] = w := by
  have := idxOf_first h
  exact ⟨(List.getElem?_eq_some_iff.mp this.1).1, (List.getElem?_eq_some_iff.mp this.1).2⟩
theorem numsOf_inv {ws vs : List Str} (nd : ws.Nodup) (nd2 : vs.Nodup) (hp : ws.Perm vs) : numsOf vs ws = W.invN (numsOf ws vs) := by
  apply List.ext_getElem
  · simp [numsOf, W.invN, hp.length_eq]
  · intro j h1 h2
    have hj : j < vs.length := by simpa [numsOf] using h1
    obtain ⟨hi, e⟩ := getS (hp.mem_iff.mpr (List.getElem_mem hj))
    have hi2 : ws.idxOf vs[j] < (numsOf ws vs).length := by rw [numsOf_len]; exact hi
    have e3 : (numsOf ws vs)[ws.idxOf vs[j]] = j + 1 := by
      simp only [numsOf, List.getElem_map]
      rw [e, idxS nd2 hj]
    have nd3 : (numsOf ws vs).Nodup := W.nodup_map_of nd fun x hx y hy q => by
      obtain ⟨a1, a2⟩ := getS (hp.mem_iff.mp hx)
      obtain ⟨b1, b2⟩ := getS (hp.mem_iff.mp hy)
      have q2 : vs.idxOf x = vs.idxOf y := by omega
      rw [← a2, ← b2]
      congr 1
    have e4 : (numsOf ws vs).idxOf (j + 1) = ws.idxOf vs[j] := by
      have := W.idxOf_get nd3 hi2
      rwa [e3] at this
    simp only [W.invN, List.getElem_map, List.getElem_range', Nat.one_mul]
    rw [show 1 + j = j + 1 by omega, e4]
    simp [numsOf]
/-- the distance of two rows -/
def dist (ws vs : List Str) : Nat := W.far (numsOf ws vs)
theorem dist_comm {ws vs : List Str} (G1 : GoodT ws) (G2 : GoodT vs) (hp : ws.Perm vs) : dist ws vs = dist vs ws := by
  unfold dist
  rw [numsOf_inv G1.nd G2.nd hp, W.far_inv (numsOf_isP G1 G2 hp)]
theorem dist_self {ws : List Str} (G : GoodT ws) : dist ws ws = 0 := by
  unfold dist
  rw [numsOf_self G.nd, W.far_rg]
theorem dist_one {ws : List Str} (G : GoodT ws) {p q r s : Nat} (e : W.Exch ws.length p q r s) : dist (W.swapL ws p q r s) ws = 1 := by
  unfold dist
  rw [numsOf_swap, numsOf_self G.nd, W.far_one e]
theorem dist_swap {ws vs : List Str} (G1 : GoodT ws) (G2 : GoodT vs) (hp : ws.Perm vs) {p q r s : Nat} (e : W.Exch ws.length p q r s) : dist (W.swapL ws p q r s) vs ≤ dist ws vs + 1 ∧ dist ws vs ≤ dist (W.swapL ws p q r s) vs + 1 := by
  unfold dist
  rw [numsOf_swap]
  exact W.far_swap (numsOf_isP G1 G2 hp) (by rw [numsOf_len]; exact e)
end DL

/-! Plain laws: rows whose distance is known. -/
namespace DL.W
theorem pad_rev {n i : Nat} (hi : i < n + 2) : (padN (List.range' 1 n).reverse).getD i 0 = if i = 0 then 0 else if i ≤ n then n + 1 - i else n + 1 := by
  by_cases h0 : i = 0
  · subst h0; rfl
  · rw [if_neg h0]
    obtain ⟨j, rfl⟩ : ∃ j, i = j + 1 := ⟨i - 1, by omega⟩
    by_cases h1 : j + 1 ≤ n
    · rw [if_pos h1, pad_in (by rw [List.length_reverse, List.length_range']; omega), List.getElem_reverse, List.getElem_range', List.length_range']; omega
    · rw [if_neg h1]
      have : j = n := by omega
      subst this
      have := pad_last (ns := (List.range' 1 j).reverse)
      rwa [List.length_reverse, List.length_range'] at this
theorem isP_rev {n : Nat} : IsP (List.range' 1 n).reverse := by
  unfold IsP
  rw [List.length_reverse, List.length_range']
  exact List.reverse_perm _
theorem lead_rev {n g : Nat} (hn : 1 ≤ n) (hg : g < n + 1) : lead (List.range' 1 n).reverse g = if g = n then 1 else if g + 1 = n then 0 else g + 2 := by
  have hl : (List.range' 1 n).reverse.length = n := by rw [List.length_reverse, List.length_range']
  have idx : ∀ i, i < n + 2 → (padN (List.range' 1 n).reverse).idxOf (if i = 0 then 0 else if i ≤ n then n + 1 - i else n + 1) = i := fun i hi => by
    have := pad_idx (isP_rev (n := n)) (i := i) (by rw [hl]; exact hi)
    rwa [pad_rev hi] at this
  unfold lead
  rw [pad_rev (by omega), if_neg (by omega)]
  by_cases h1 : g = n
  · rw [if_pos h1, if_neg (by omega)]
    have := idx 1 (by omega)
    rw [if_neg (by omega), if_pos hn] at this
    exact this
  · rw [if_neg h1, if_pos (by omega)]
    by_cases h2 : g + 1 = n
    · rw [if_pos h2]
      have := idx 0 (by omega)
      rw [if_pos rfl] at this
      rw [show n + 1 - (g + 1) - 1 = 0 by omega]; exact this
    · rw [if_neg h2]
      have := idx (g + 2) (by omega)
      rw [if_neg (by omega), if_pos (by omega)] at this
      rw [show n + 1 - (g + 1) - 1 = n + 1 - (g + 2) by omega]; exact this
theorem far_rev {n : Nat} (hn : 1 ≤ n) : far (List.range' 1 n).reverse = n / 2 := by
  have hl : (List.range' 1 n).reverse.length = n := by rw [List.length_reverse, List.length_range']
  have pf : PermN (n + 1) (lead (List.range' 1 n).reverse) := by have := permN_lead (isP_rev (n := n)); rwa [hl] at this
  have up : ∀ (b k : Nat), b + 2 * k ≤ n → conn (lead (List.range' 1 n).reverse) b (b + 2 * k) := fun b k => by
    induction k with
    | zero => intro _; exact .refl _
    | succ k ih =>
      intro h
      refine (ih (by omega)).trans ⟨1, ?_⟩
      show lead _ (b + 2 * k) = _
      rw [lead_rev hn (by omega), if_neg (by omega), if_neg (by omega)]; omega
  have nr : nrings (List.range' 1 n).reverse = if n % 2 = 0 then 1 else 2 := by
    unfold nrings
    rw [hl]
    by_cases h : n % 2 = 0
    · rw [if_pos h]
      have c01 : conn (lead (List.range' 1 n).reverse) 0 1 := by
        have h1 := up 0 (n / 2) (by omega)
        rw [show 0 + 2 * (n / 2) = n by omega] at h1
        exact h1.trans ⟨1, by show lead _ n = 1; rw [lead_rev hn (by omega), if_pos rfl]⟩
      have r : Reps (n + 1) (lead (List.range' 1 n).reverse) [0] := ⟨fun i hi => by rw [List.mem_singleton] at hi; omega, List.pairwise_singleton _ _, fun i hi => ⟨0, List.mem_singleton.mpr rfl, by
        by_cases p : i % 2 = 0
        · have := up 0 (i / 2) (by omega)
          rwa [show 0 + 2 * (i / 2) = i by omega] at this
        · have := up 1 (i / 2) (by omega)
          rw [show 1 + 2 * (i / 2) = i by omega] at this
          exact c01.trans this⟩⟩
      exact (r.cyc pf).symm
    · rw [if_neg h]
      have par : ∀ k i, i < n + 1 → itr (lead (List.range' 1 n).reverse) k i % 2 = i % 2 := by
        intro k
        induction k with
        | zero => intro i _; rfl
        | succ k ih =>
          intro i hi
          have h1 := pf.itr_lt hi k
          show lead _ (itr (lead (List.range' 1 n).reverse) k i) % 2 = i % 2
          rw [← ih i hi, lead_rev hn h1]
          split
          · omega
          · split <;> omega
      have m01 : ∀ i : Nat, i % 2 ∈ [0, 1] := fun i => by
        have : i % 2 = 0 ∨ i % 2 = 1 := by omega
        rcases this with e | e <;> simp [e]
      have r : Reps (n + 1) (lead (List.range' 1 n).reverse) [0, 1] := ⟨fun i hi => by simp at hi; omega, by
        rw [List.pairwise_pair]
        rintro ⟨k, e⟩
        have := par k 0 (by omega)
        rw [e] at this; omega, fun i hi => ⟨i % 2, m01 i, by
        have := up (i % 2) (i / 2) (by omega)
        rwa [show i % 2 + 2 * (i / 2) = i by omega] at this⟩⟩
      exact (r.cyc pf).symm
  unfold far
  rw [nr, hl]
  split <;> omega
/-! moved, taken elsewhere, two exchanged: each one exchange -/
theorem rot_swap {n c : Nat} (h0 : 0 < c) (h1 : c < n) : (List.range' 1 n).drop c ++ (List.range' 1 n).take c = swapL (List.range' 1 n) 0 c c n := by
  unfold swapL
  have l : (List.range' 1 n).length = n := List.length_range' ..
  have e1 : ((List.range' 1 n).drop c).take (n - c) = (List.range' 1 n).drop c := List.take_of_length_le (by rw [List.length_drop, l]; exact Nat.le_refl _)
  have e2 : (List.range' 1 n).drop n = [] := List.drop_eq_nil_of_le (by rw [l]; exact Nat.le_refl _)
  rw [e1, e2]
  simp
theorem get_range {n i : Nat} : (List.range' 1 n)[i]? = if i < n then some (i + 1) else none := by
  by_cases h : i < n
  · rw [if_pos h, List.getElem?_range' h]; congr 1; omega
  · rw [if_neg h, List.getElem?_eq_none (by rw [List.length_range']; omega)]
theorem get_ins {α : Type} {l : List α} {t i : Nat} {x : α} (ht : t ≤ l.length) : (l.take t ++ [x] ++ l.drop t)[i]? = if i < t then l[i]? else if i = t then some x else l[i - 1]? := by
  have l1 : (l.take t).length = t := by rw [List.length_take]; omega
  by_cases h1 : i < t
  · rw [if_pos h1, List.append_assoc, List.getElem?_append_left (by omega), List.getElem?_take, if_pos h1]
  · rw [if_neg h1, List.append_assoc, List.getElem?_append_right (by omega), l1]
    by_cases h2 : i = t
    · rw [if_pos h2, h2, Nat.sub_self]; rfl
    · rw [if_neg h2]
      obtain ⟨j, hj⟩ : ∃ j, i - t = j + 1 := ⟨i - t - 1, by omega⟩
      rw [hj, List.cons_append, List.nil_append, List.getElem?_cons_succ, List.getElem?_drop]
      congr 1; omega
theorem get_cut {α : Type} {l : List α} {a i : Nat} (ha : a < l.length) : (l.take a ++ l.drop (a + 1))[i]? = if i < a then l[i]? else l[i + 1]? := by
  have l1 : (l.take a).length = a := by rw [List.length_take]; omega
  by_cases h1 : i < a
  · rw [if_pos h1, List.getElem?_append_left (by omega), List.getElem?_take, if_pos h1]
  · rw [if_neg h1, List.getElem?_append_right (by omega), l1, List.getElem?_drop]
    congr 1; omega
def movN (n a t : Nat) : List Nat := let rest := (List.range' 1 n).take a ++ (List.range' 1 n).drop (a + 1); rest.take t ++ [a + 1] ++ rest.drop t
theorem mov_len {n a t : Nat} (ha : a < n) : (movN n a t).length = n := by
  unfold movN
  simp only [List.length_append, List.length_take, List.length_drop, List.length_range', List.length_cons, List.length_nil]
  omega
theorem mov_get {n a t : Nat} (ha : a < n) (ht : t < n) (i : Nat) : (movN n a t)[i]? = if i < n then some ((if i < t then (if i < a then i else i + 1) else if i = t then a else if i - 1 < a then i - 1 else i) + 1) else none := by
  have lr : ((List.range' 1 n).take a ++ (List.range' 1 n).drop (a + 1)).length = n - 1 := by
    simp only [List.length_append, List.length_take, List.length_drop, List.length_range']; omega
  unfold movN
  simp only
  rw [get_ins (by rw [lr]; omega), get_cut (by rw [List.length_range']; exact ha), get_cut (by rw [List.length_range']; exact ha)]
  simp only [get_range]
  repeat' split
  all_goals first | rfl | (exfalso; omega) | (congr 1; omega)
theorem mov_swap {n a t : Nat} (ha : a < n) (ht : t < n) (ne : a ≠ t) : ∃ p q r s, Exch n p q r s ∧ movN n a t = swapL (List.range' 1 n) p q r s := by
  have ex : ∀ {p q r s}, Exch n p q r s → (∀ i, i < n → (if i < t then (if i < a then i else i + 1) else if i = t then a else if i - 1 < a then i - 1 else i) = ixS p q r s i) → movN n a t = swapL (List.range' 1 n) p q r s := fun {p q r s} e h => by
    have e' : Exch (List.range' 1 n).length p q r s := by rw [List.length_range']; exact e
    apply List.ext_getElem?
    intro i
    rw [swapL_get e', mov_get ha ht, get_range]
    by_cases hi : i < n
    · rw [if_pos hi, if_pos (ixS_lt e hi), h i hi]
    · rw [if_neg hi]
      have : ¬ ixS p q r s i < n := by
        obtain ⟨a1, a2, a3, a4⟩ := e
        unfold ixS
        rw [if_neg (by omega), if_neg (by omega), if_neg (by omega), if_neg (by omega)]; exact hi
      rw [if_neg this]
  by_cases h : a < t
  · refine ⟨a, a + 1, a + 1, t + 1, ⟨by omega, by omega, by omega, by omega⟩, ex ⟨by omega, by omega, by omega, by omega⟩ fun i hi => ?_⟩
    unfold ixS
    repeat' split
    all_goals omega
  · refine ⟨t, a, a, a + 1, ⟨by omega, by omega, by omega, by omega⟩, ex ⟨by omega, by omega, by omega, by omega⟩ fun i hi => ?_⟩
    unfold ixS
    repeat' split
    all_goals omega
theorem mov_same {n a : Nat} (ha : a < n) : movN n a a = List.range' 1 n := by
  apply List.ext_getElem?
  intro i
  rw [mov_get ha ha, get_range]
  by_cases hi : i < n
  · rw [if_pos hi, if_pos hi]
    congr 2
    repeat' split
    all_goals omega
  · rw [if_neg hi, if_neg hi]
def pairN (n a t : Nat) : List Nat := ((List.range' 1 n).set a (t + 1)).set t (a + 1)
theorem pair_get {n a t : Nat} (ha : a < n) (ht : t < n) (i : Nat) : (pairN n a t)[i]? = if i < n then some ((if i = t then a else if i = a then t else i) + 1) else none := by
  unfold pairN
  rw [List.getElem?_set, List.getElem?_set, List.length_set, List.length_range', get_range]
  repeat' split
  all_goals first | rfl | (exfalso; omega) | (congr 1; omega) | skip
theorem pair_swap {n a t : Nat} (ha : a < n) (ht : t < n) (ne : a ≠ t) : ∃ p q r s, Exch n p q r s ∧ pairN n a t = swapL (List.range' 1 n) p q r s := by
  have ex : ∀ {p q r s}, Exch n p q r s → (∀ i, i < n → (if i = t then a else if i = a then t else i) = ixS p q r s i) → pairN n a t = swapL (List.range' 1 n) p q r s := fun {p q r s} e h => by
    have e' : Exch (List.range' 1 n).length p q r s := by rw [List.length_range']; exact e
    apply List.ext_getElem?
    intro i
    rw [swapL_get e', pair_get ha ht, get_range]
    by_cases hi : i < n
    · rw [if_pos hi, if_pos (ixS_lt e hi), h i hi]
    · rw [if_neg hi]
      have : ¬ ixS p q r s i < n := by
        obtain ⟨a1, a2, a3, a4⟩ := e
        unfold ixS
        rw [if_neg (by omega), if_neg (by omega), if_neg (by omega), if_neg (by omega)]; exact hi
      rw [if_neg this]
  by_cases h : a < t
  · refine ⟨a, a + 1, t, t + 1, ⟨by omega, by omega, by omega, by omega⟩, ex ⟨by omega, by omega, by omega, by omega⟩ fun i hi => ?_⟩
    unfold ixS
    repeat' split
    all_goals omega
  · refine ⟨t, t + 1, a, a + 1, ⟨by omega, by omega, by omega, by omega⟩, ex ⟨by omega, by omega, by omega, by omega⟩ fun i hi => ?_⟩
    unfold ixS
    repeat' split
    all_goals omega
theorem pair_same {n a : Nat} (ha : a < n) : pairN n a a = List.range' 1 n := by
  apply List.ext_getElem?
  intro i
  rw [pair_get ha ha, get_range]
  by_cases hi : i < n
  · rw [if_pos hi, if_pos hi]
    congr 2
    repeat' split
    all_goals omega
  · rw [if_neg hi, if_neg hi]
end DL.W
namespace DL
open PySem
theorem byN_range {ws : List Str} : byN ws (List.range' 1 ws.length) = ws := by
  apply List.ext_getElem
  · simp [byN]
  · intro i h3 h4
    simp [byN, List.getElem?_eq_getElem h4]
theorem numsOf_byN {ws : List Str} (G : GoodT ws) {ns : List Nat} (hn : W.IsP ns) (hl : ns.length = ws.length) : numsOf (byN ws ns) ws = ns := by
  have h := numsOf_byO (ws := ws) (ts := List.range' 1 ws.length) (ns := ns) (by rw [byN_range]; exact G) hn (by rw [List.length_range', hl])
  have e : byO (List.range' 1 ws.length) ns = ns := by
    unfold byO
    conv => rhs; rw [← List.map_id ns]
    apply List.map_congr_left
    intro n hm
    obtain ⟨h1, h2⟩ := (IsP.mem hn).mp hm
    have : n - 1 < (List.range' 1 ws.length).length := by rw [List.length_range']; omega
    rw [W.getD_lt this, List.getElem_range']
    show 1 + 1 * (n - 1) = n
    omega
  rwa [byN_range, e] at h
theorem dist_byN {ws : List Str} (G : GoodT ws) {ns : List Nat} (hn : W.IsP ns) (hl : ns.length = ws.length) : dist (byN ws ns) ws = W.far ns := by
  unfold dist; rw [numsOf_byN G hn hl]
theorem byN_T {ws : List Str} (G : GoodT ws) {ns : List Nat} (hn : W.IsP ns) (hl : ns.length = ws.length) : GoodT (byN ws ns) := G.perm (byN_perm hn hl)
theorem nats_rev {ns : List Nat} : (nats ns).reverse = nats ns.reverse := by simp [nats]
theorem nats_set {ns : List Nat} {i k : Nat} : (nats ns).set i (.int (k : Nat)) = nats (ns.set i k) := by simp [nats, List.map_set]
theorem cut_nats (ns : List Nat) (lo hi : Option Int) : cutD (nats ns) lo hi = nats (cutD ns lo hi) := by
  unfold nats; rw [cut_map]
structure RowF (ws : List Str) (xs : List Nat) : Prop where
  nd : xs.Nodup
  bd : ∀ n ∈ xs, 1 ≤ n ∧ n ≤ ws.length
  pos : 0 < xs.length
  good : GoodT (byN ws xs)
  perm : (byN ws xs).Perm ws
  ds : dist (byN ws xs) ws = W.far xs
  ds2 : dist ws (byN ws xs) = W.far xs
theorem rowF {ws : List Str} (G : GoodT ws) {xs : List Nat} (hx : W.IsP xs) (hl : xs.length = ws.length) : RowF ws xs :=
  ⟨IsP.nd hx, fun n hn => by rw [← hl]; exact (IsP.mem hx).mp hn, by rw [hl]; exact G.some, byN_T G hx hl, byN_perm hx hl, dist_byN G hx hl, by rw [dist_comm G (byN_T G hx hl) (byN_perm hx hl).symm, dist_byN G hx hl]⟩
end DL

namespace DL
namespace W
theorem isP_sw {n p q r s : Nat} (e : Exch n p q r s) : IsP (swapL (List.range' 1 n) p q r s) := isP_rg.swap (by rw [List.length_range']; exact e)
theorem isP_mov {n a t : Nat} (ha : a < n) (ht : t < n) : IsP (movN n a t) := by
  by_cases ne : a = t
  · subst ne; rw [mov_same ha]; exact isP_rg
  · obtain ⟨p, q, r, s, e, h⟩ := mov_swap ha ht ne; rw [h]; exact isP_sw e
theorem isP_pair {n a t : Nat} (ha : a < n) (ht : t < n) : IsP (pairN n a t) := by
  by_cases ne : a = t
  · subst ne; rw [pair_same ha]; exact isP_rg
  · obtain ⟨p, q, r, s, e, h⟩ := pair_swap ha ht ne; rw [h]; exact isP_sw e
theorem pair_len {n a t : Nat} : (pairN n a t).length = n := by unfold pairN; rw [List.length_set, List.length_set, List.length_range']
theorem far_mov {n a t : Nat} (ha : a < n) (ht : t < n) : far (movN n a t) = if a = t then 0 else 1 := by
  by_cases ne : a = t
  · subst ne; rw [mov_same ha, far_rg, if_pos rfl]
  · obtain ⟨p, q, r, s, e, h⟩ := mov_swap ha ht ne; rw [h, far_one e, if_neg ne]
theorem far_pair {n a t : Nat} (ha : a < n) (ht : t < n) : far (pairN n a t) = if a = t then 0 else 1 := by
  by_cases ne : a = t
  · subst ne; rw [pair_same ha, far_rg, if_pos rfl]
  · obtain ⟨p, q, r, s, e, h⟩ := pair_swap ha ht ne; rw [h, far_one e, if_neg ne]
end W
end DL

/-! Plain laws: a row out of order has an exchange that makes two rings more; so the distance is the least number of exchanges. -/
namespace DL
namespace W
theorem least_ne {f : Nat → Nat} : ∀ m : Nat, (∀ j, j < m → f j = j) ∨ ∃ x, x < m ∧ f x ≠ x ∧ ∀ j, j < x → f j = j
  | 0 => .inl fun j hj => absurd hj (Nat.not_lt_zero _)
  | m + 1 => by
    rcases least_ne (f := f) m with h | ⟨x, h1, h2, h3⟩
    · by_cases e : f m = m
      · exact .inl fun j hj => by
          by_cases q : j = m
          · rw [q, e]
          · exact h j (by omega)
      · exact .inr ⟨m, by omega, e, h⟩
    · exact .inr ⟨x, by omega, h2, h3⟩
theorem rg_of_pad {ns : List Nat} (h : ∀ j, j < ns.length + 1 → (padN ns).getD j 0 = j) : ns = List.range' 1 ns.length := by
  apply List.ext_getElem (by rw [List.length_range'])
  intro i h1 h2
  have := h (i + 1) (by omega)
  rw [pad_in h1] at this
  rw [this, List.getElem_range']; omega
theorem top_in {ns : List Nat} (h : IsP ns) {p r : Nat} (hr : r < ns.length + 1) (low : ∀ j, j ≤ p → (padN ns).getD j 0 = j) :
    ∀ k q : Nat, ns.length + 1 - (padN ns).getD q 0 ≤ k → p < q → q ≤ r → ∃ q', p < q' ∧ q' ≤ r ∧ r < (padN ns).idxOf ((padN ns).getD q' 0 + 1)
  | 0, q, hk, h1, h2 => by
    have := pad_low h (i := q) (by omega)
    omega
  | k + 1, q, hk, h1, h2 => by
    have lw := pad_low h (i := q) (by omega)
    obtain ⟨i1, i2⟩ := pad_of_idx h (x := (padN ns).getD q 0 + 1) (by omega)
    by_cases c : r < (padN ns).idxOf ((padN ns).getD q 0 + 1)
    · exact ⟨q, h1, h2, c⟩
    · refine top_in h hr low k ((padN ns).idxOf ((padN ns).getD q 0 + 1)) (by omega) ?_ (by omega)
      refine Nat.lt_of_not_le fun le => ?_
      have e1 := low _ le
      rw [i2] at e1
      have e2 := low ((padN ns).getD q 0) (by omega)
      have := (permN_pad h).inj q ((padN ns).getD q 0) (by omega) (by omega) e2.symm
      omega
theorem good_at {ns : List Nat} (h : IsP ns) {x q : Nat} (x1 : x < ns.length + 1) (x2 : (padN ns).getD x 0 ≠ x) (x3 : ∀ j, j < x → (padN ns).getD j 0 = j) (q1 : x - 1 < q) (q2 : q ≤ (padN ns).idxOf x - 1) (q3 : (padN ns).idxOf x - 1 < (padN ns).idxOf ((padN ns).getD q 0 + 1)) :
    Exch ns.length (x - 1) q ((padN ns).idxOf x - 1) ((padN ns).idxOf ((padN ns).getD q 0 + 1) - 1) ∧ nrings (swapL ns (x - 1) q ((padN ns).idxOf x - 1) ((padN ns).idxOf ((padN ns).getD q 0 + 1) - 1)) = nrings ns + 2 := by
  have x0 : x ≠ 0 := fun e => x2 (by rw [e]; rfl)
  obtain ⟨k1, k2⟩ := pad_of_idx h (x := x) (by omega)
  have kx : x < (padN ns).idxOf x := by
    refine Nat.lt_of_not_le fun le => ?_
    by_cases e : (padN ns).idxOf x = x
    · rw [e] at k2; exact x2 k2
    · have := x3 _ (show (padN ns).idxOf x < x by omega)
      simp only [k2] at this; omega
  have kn := idx_low h (u := x) x1
  have lq := pad_low h (i := q) (by omega)
  obtain ⟨s1, s2⟩ := pad_of_idx h (x := (padN ns).getD q 0 + 1) (by omega)
  have s0 : (padN ns).idxOf ((padN ns).getD q 0 + 1) ≠ (padN ns).idxOf x := fun e => by
    rw [e, k2] at s2
    have := x3 (x - 1) (by omega)
    have := (permN_pad h).inj q (x - 1) (by omega) (by omega) (by simp only [this]; omega)
    omega
  have e : Exch ns.length (x - 1) q ((padN ns).idxOf x - 1) ((padN ns).idxOf ((padN ns).getD q 0 + 1) - 1) := ⟨q1, q2, by omega, by omega⟩
  refine ⟨e, ?_⟩
  have hl := swapL_len e
  have ec := cyc_congr fun u hu => phi_swap h e (u := u) hu
  rw [nrings_phi h, nrings_phi (h.swap e), hl, ec]
  have d : ∀ a b, a < ns.length + 1 → b < ns.length + 1 → a ≠ b → (padN ns).getD a 0 ≠ (padN ns).getD b 0 := fun a b ha hb ne q => ne ((permN_pad h).inj a b ha hb q)
  have b := fun a (ha : a < ns.length + 1) => pad_low h ha
  have ph : ∀ a, a < ns.length + 1 → phi ns ((padN ns).getD a 0) = (padN ns).getD (a + 1) 0 - 1 := fun a ha => by
    unfold phi; rw [pad_idx h (by omega)]
  obtain ⟨e1, e2, e3, e4⟩ := e
  generalize hr : (padN ns).idxOf x - 1 = r at *
  generalize hs : (padN ns).idxOf ((padN ns).getD q 0 + 1) - 1 = s at *
  have f1 : phi ns ((padN ns).getD r 0) = (padN ns).getD (x - 1) 0 := by
    rw [ph r (by omega), show r + 1 = (padN ns).idxOf x by omega, k2]
    exact (x3 (x - 1) (by omega)).symm
  have c1 := sw_fix (permN_phi h) (b (x - 1) (by omega)) (b r (by omega)) (d (x - 1) r (by omega) (by omega) (by omega)) f1
  have f2 : sw (phi ns) ((padN ns).getD (x - 1) 0) ((padN ns).getD r 0) ((padN ns).getD s 0) = (padN ns).getD q 0 := by
    unfold sw
    rw [if_neg (d s (x - 1) (by omega) (by omega) (by omega)), if_neg (d s r (by omega) (by omega) (by omega)), ph s (by omega), show s + 1 = (padN ns).idxOf ((padN ns).getD q 0 + 1) by omega, s2]
    omega
  have c2 := sw_fix ((permN_phi h).sw (b (x - 1) (by omega)) (b r (by omega))) (b q (by omega)) (b s (by omega)) (d q s (by omega) (by omega) (by omega)) f2
  omega
theorem good_x {ns : List Nat} (ne : ns ≠ List.range' 1 ns.length) : ∃ x, x < ns.length + 1 ∧ (padN ns).getD x 0 ≠ x ∧ ∀ j, j < x → (padN ns).getD j 0 = j := by
  obtain h1 | ⟨x, x1, x2, x3⟩ := least_ne (f := fun j => (padN ns).getD j 0) (ns.length + 1)
  · exact absurd (rg_of_pad h1) ne
  · exact ⟨x, x1, x2, x3⟩
theorem ahead_x {ns : List Nat} (h : IsP ns) {x : Nat} (x1 : x < ns.length + 1) (x2 : (padN ns).getD x 0 ≠ x) (x3 : ∀ j, j < x → (padN ns).getD j 0 = j) : 0 < x ∧ x < (padN ns).idxOf x ∧ (padN ns).idxOf x < ns.length + 1 := by
  have x0 : x ≠ 0 := fun e => x2 (by rw [e]; rfl)
  obtain ⟨k1, k2⟩ := pad_of_idx h (x := x) (by omega)
  have kn := idx_low h (u := x) x1
  refine ⟨by omega, Nat.lt_of_not_le fun le => ?_, kn⟩
  by_cases e : (padN ns).idxOf x = x
  · rw [e] at k2; exact x2 k2
  · have := x3 _ (show (padN ns).idxOf x < x by omega)
    simp only [k2] at this; omega
theorem good {ns : List Nat} (h : IsP ns) (ne : ns ≠ List.range' 1 ns.length) : ∃ p q r s, Exch ns.length p q r s ∧ nrings (swapL ns p q r s) = nrings ns + 2 := by
  obtain ⟨x, x1, x2, x3⟩ := good_x ne
  obtain ⟨x0, kx, kn⟩ := ahead_x h x1 x2 x3
  obtain ⟨q, q1, q2, q3⟩ := top_in h (p := x - 1) (r := (padN ns).idxOf x - 1) (by omega) (fun j hj => x3 j (by omega)) _ x (Nat.le_refl _) (by omega) (by omega)
  exact ⟨_, _, _, _, good_at h x1 x2 x3 q1 q2 q3⟩
theorem good_far {ns : List Nat} (h : IsP ns) (ne : ns ≠ List.range' 1 ns.length) : ∃ p q r s, Exch ns.length p q r s ∧ far (swapL ns p q r s) + 1 = far ns := by
  obtain ⟨p, q, r, s, e, c⟩ := good h ne
  refine ⟨p, q, r, s, e, ?_⟩
  have := nrings_le (h.swap e)
  have hl := swapL_len e
  unfold far
  omega
theorem far_zero {ns : List Nat} (h : IsP ns) : far ns = 0 ↔ ns = List.range' 1 ns.length := by
  refine ⟨fun z => ?_, fun e => by rw [e, far_rg]⟩
  refine Classical.byContradiction fun ne => ?_
  obtain ⟨p, q, r, s, e, c⟩ := good_far h ne
  omega
inductive Steps {α : Type} : Nat → List α → List α → Prop where
  | nil (xs : List α) : Steps 0 xs xs
  | cons {k : Nat} {xs ys : List α} {p q r s : Nat} (e : Exch xs.length p q r s) (t : Steps k (swapL xs p q r s) ys) : Steps (k + 1) xs ys
theorem steps_far : ∀ (k : Nat) {ns : List Nat}, IsP ns → far ns = k → Steps k ns (List.range' 1 ns.length)
  | 0, ns, h, e => by rw [← (far_zero h).mp e]; exact .nil _
  | k + 1, ns, h, e => by
    obtain ⟨p, q, r, s, x, c⟩ := good_far h (fun z => by have := (far_zero h).mpr z; omega)
    have := steps_far k (h.swap x) (by omega)
    rw [swapL_len x] at this
    exact .cons x this
theorem swapL_map {α β : Type} (g : α → β) (xs : List α) (p q r s : Nat) : swapL (xs.map g) p q r s = (swapL xs p q r s).map g := by
  unfold swapL; simp [List.map_take, List.map_drop]
theorem Steps.map {α β : Type} (g : α → β) {k : Nat} {xs ys : List α} (t : Steps k xs ys) : Steps k (xs.map g) (ys.map g) := by
  induction t with
  | nil => exact .nil _
  | cons e t ih => exact .cons (by rw [List.length_map]; exact e) (by rw [swapL_map]; exact ih)
theorem Steps.perm {α : Type} {k : Nat} {xs ys : List α} (t : Steps k xs ys) : ys.Perm xs := by
  induction t with
  | nil => exact .refl _
  | cons e t ih => exact ih.trans (swapL_perm e)
theorem Exch.rev {n p q r s : Nat} (e : Exch n p q r s) : Exch n (n - s) (n - r) (n - q) (n - p) := by
  obtain ⟨h1, h2, h3, h4⟩ := e
  exact ⟨by omega, by omega, by omega, by omega⟩
theorem swapL_rev {α : Type} {xs : List α} {p q r s : Nat} (e : Exch xs.length p q r s) : (swapL xs p q r s).reverse = swapL xs.reverse (xs.length - s) (xs.length - r) (xs.length - q) (xs.length - p) := by
  have e' : Exch xs.reverse.length (xs.length - s) (xs.length - r) (xs.length - q) (xs.length - p) := by rw [List.length_reverse]; exact e.rev
  apply List.ext_getElem?
  intro i
  by_cases hi : i < xs.length
  · have hl := swapL_len e
    have key : ixS p q r s (xs.length - 1 - i) = xs.length - 1 - ixS (xs.length - s) (xs.length - r) (xs.length - q) (xs.length - p) i := by
      obtain ⟨h1, h2, h3, h4⟩ := e
      unfold ixS
      repeat' split
      all_goals omega
    have lt := ixS_lt e.rev hi
    rw [List.getElem?_reverse (by rw [hl]; exact hi), hl, swapL_get e, swapL_get e', List.getElem?_reverse lt, key]
  · rw [List.getElem?_eq_none (by rw [List.length_reverse, swapL_len e]; omega), List.getElem?_eq_none (by rw [swapL_len e', List.length_reverse]; omega)]
theorem Steps.rev {α : Type} {k : Nat} {xs ys : List α} (t : Steps k xs ys) : Steps k xs.reverse ys.reverse := by
  induction t with
  | nil => exact .nil _
  | cons e t ih => exact .cons (by rw [List.length_reverse]; exact e.rev) (by rw [← swapL_rev e]; exact ih)
end W
end DL

/-! Plain laws: the distance of rows as the least number of exchanges; rows told by numbers. -/
namespace DL
open PySem
theorem byN_numsOf {ws vs : List Str} (hp : ws.Perm vs) : byN vs (numsOf ws vs) = ws := by
  unfold byN numsOf
  rw [List.map_map]
  conv => rhs; rw [← List.map_id ws]
  apply List.map_congr_left
  intro w hw
  obtain ⟨h1, h2⟩ := getS (hp.mem_iff.mp hw)
  show vs.getD (vs.idxOf w + 1 - 1) "" = w
  rw [Nat.add_sub_cancel, W.getD_lt h1, h2]
theorem steps_dist {ws vs : List Str} (G1 : GoodT ws) (G2 : GoodT vs) (hp : ws.Perm vs) : W.Steps (dist ws vs) ws vs := by
  have h := W.steps_far (W.far (numsOf ws vs)) (numsOf_isP G1 G2 hp) rfl
  have h2 := h.map (fun n => vs.getD (n - 1) "")
  have e1 : (numsOf ws vs).map (fun n => vs.getD (n - 1) "") = ws := byN_numsOf hp
  have e2 : (List.range' 1 (numsOf ws vs).length).map (fun n => vs.getD (n - 1) "") = vs := by
    rw [numsOf_len, hp.length_eq]; exact byN_range
  rw [e1, e2] at h2
  exact h2
theorem dist_steps {k : Nat} {ws us : List Str} (t : W.Steps k ws us) : ∀ {vs : List Str}, GoodT ws → GoodT vs → ws.Perm vs → dist ws vs ≤ dist us vs + k ∧ dist us vs ≤ dist ws vs + k := by
  induction t with
  | nil => exact fun _ _ _ => ⟨Nat.le_refl _, Nat.le_refl _⟩
  | cons e t ih =>
    intro vs G1 G2 hp
    have pe := W.swapL_perm e
    have h1 := dist_swap G1 G2 hp e
    have h2 := ih (G1.perm pe) G2 (pe.trans hp)
    omega
theorem dist_tri {ws us vs : List Str} (G1 : GoodT ws) (G2 : GoodT us) (G3 : GoodT vs) (p1 : ws.Perm us) (p2 : us.Perm vs) : dist ws vs ≤ dist ws us + dist us vs := by
  have := (dist_steps (steps_dist G1 G2 p1) G1 G3 (p1.trans p2)).1
  omega
theorem GoodT.rev {ws : List Str} (G : GoodT ws) : GoodT ws.reverse := G.perm (List.reverse_perm ws)
theorem dist_rev_le {ws vs : List Str} (G1 : GoodT ws) (G2 : GoodT vs) (hp : ws.Perm vs) : dist ws.reverse vs.reverse ≤ dist ws vs := by
  have h := (dist_steps (steps_dist G1 G2 hp).rev G1.rev G2.rev (((List.reverse_perm ws).trans hp).trans (List.reverse_perm vs).symm)).1
  rw [dist_self G2.rev] at h
  omega
theorem dist_rev {ws vs : List Str} (G1 : GoodT ws) (G2 : GoodT vs) (hp : ws.Perm vs) : dist ws.reverse vs.reverse = dist ws vs := by
  have h1 := dist_rev_le G1 G2 hp
  have h2 := dist_rev_le G1.rev G2.rev (((List.reverse_perm ws).trans hp).trans (List.reverse_perm vs).symm)
  rw [List.reverse_reverse, List.reverse_reverse] at h2
  omega
theorem dist_zero {ws vs : List Str} (G1 : GoodT ws) (G2 : GoodT vs) (hp : ws.Perm vs) : dist ws vs = 0 ↔ ws = vs := by
  refine ⟨fun z => ?_, fun e => by rw [e]; exact dist_self G2⟩
  have := (W.far_zero (numsOf_isP G1 G2 hp)).mp z
  rw [← byN_numsOf hp, this, numsOf_len, hp.length_eq, byN_range]
/-- the numbers of one line of numbers told by another -/
def relN (xs ys : List Nat) : List Nat := xs.map fun x => ys.idxOf x + 1
theorem relN_len {xs ys : List Nat} : (relN xs ys).length = xs.length := by simp [relN]
theorem idxOf_map_inj {α β : Type} [BEq α] [LawfulBEq α] [BEq β] [LawfulBEq β] {g : α → β} : ∀ {l : List α} {x : α}, (∀ y ∈ l, g y = g x → y = x) → (l.map g).idxOf (g x) = l.idxOf x
  | [], _, _ => rfl
  | y :: l, x, h => by
    rw [List.map_cons, List.idxOf_cons, List.idxOf_cons]
    by_cases e : y = x
    · subst e; simp
    · have ne : g y ≠ g x := fun q => e (h y List.mem_cons_self q)
      rw [beq_false_of_ne e, beq_false_of_ne ne]
      simp only [cond_false]
      rw [idxOf_map_inj fun z hz => h z (List.mem_cons_of_mem _ hz)]
theorem lab_inj {ws : List Str} (nd : ws.Nodup) {x y : Nat} (x1 : 1 ≤ x) (x2 : x ≤ ws.length) (y1 : 1 ≤ y) (y2 : y ≤ ws.length) (e : ws.getD (x - 1) "" = ws.getD (y - 1) "") : x = y := by
  rw [W.getD_lt (by omega : x - 1 < ws.length), W.getD_lt (by omega : y - 1 < ws.length)] at e
  have := (List.getElem_inj nd).mp e
  omega
theorem numsOf_rel {ws : List Str} (nd : ws.Nodup) {xs ys : List Nat} (hx : W.IsP xs) (hy : W.IsP ys) (lx : xs.length = ws.length) (ly : ys.length = ws.length) : numsOf (byN ws xs) (byN ws ys) = relN xs ys := by
  unfold numsOf relN
  rw [show byN ws xs = xs.map fun n => ws.getD (n - 1) "" from rfl, List.map_map]
  apply List.map_congr_left
  intro x hm
  obtain ⟨h1, h2⟩ := (IsP.mem hx).mp hm
  show (byN ws ys).idxOf (ws.getD (x - 1) "") + 1 = ys.idxOf x + 1
  congr 1
  exact idxOf_map_inj (g := fun n => ws.getD (n - 1) "") fun y hym e => by
    obtain ⟨h3, h4⟩ := (IsP.mem hy).mp hym
    exact lab_inj nd h3 (by omega) h1 (by omega) e
theorem dist_rel {ws : List Str} (G : GoodT ws) {xs ys : List Nat} (hx : W.IsP xs) (hy : W.IsP ys) (lx : xs.length = ws.length) (ly : ys.length = ws.length) : dist (byN ws xs) (byN ws ys) = W.far (relN xs ys) := by
  unfold dist; rw [numsOf_rel G.nd hx hy lx ly]
theorem relN_isP {ws : List Str} (G : GoodT ws) {xs ys : List Nat} (hx : W.IsP xs) (hy : W.IsP ys) (lx : xs.length = ws.length) (ly : ys.length = ws.length) : W.IsP (relN xs ys) := by
  rw [← numsOf_rel G.nd hx hy lx ly]
  exact numsOf_isP (byN_T G hx lx) (byN_T G hy ly) ((byN_perm hx lx).trans (byN_perm hy ly).symm)
theorem byN_perm2 {ws : List Str} {xs ys : List Nat} (hx : W.IsP xs) (hy : W.IsP ys) (lx : xs.length = ws.length) (ly : ys.length = ws.length) : (byN ws xs).Perm (byN ws ys) := (byN_perm hx lx).trans (byN_perm hy ly).symm
theorem byN_eq {ws : List Str} (G : GoodT ws) {xs ys : List Nat} (hx : W.IsP xs) (hy : W.IsP ys) (lx : xs.length = ws.length) (ly : ys.length = ws.length) : byN ws xs = byN ws ys ↔ xs = ys := by
  refine ⟨fun e => ?_, fun e => by rw [e]⟩
  rw [← numsOf_byN G hx lx, e, numsOf_byN G hy ly]
theorem byN_rev {ws : List Str} {xs : List Nat} : (byN ws xs).reverse = byN ws xs.reverse := by unfold byN; rw [List.map_reverse]
theorem nidx {ys : List Nat} {k : Nat} (h : k ∈ ys) {R : Nat → Prop} (r : R (ys.idxOf k)) : ∃ ns : List Int, nats ys = ns.map .int ∧ (k : Int) ∈ ns ∧ R (ns.idxOf (k : Int)) := by
  refine ⟨ys.map fun n : Nat => (n : Int), by simp [nats], List.mem_map.mpr ⟨k, h, rfl⟩, ?_⟩
  rw [idxOf_map_inj (g := fun n : Nat => (n : Int)) (fun y _ e => by exact Int.ofNat_inj.mp e)]
  exact r
end DL

/-! Plain laws: lists of numbers that may be asked and shown; the rings found by walking; parity. -/
namespace DL
open PySem
theorem okN_natsA {n : Nat} {ns : List Nat} : ∀ x ∈ nats ns, okN n x := fun x hx => by
  obtain ⟨k, _, rfl⟩ := List.mem_map.mp hx
  rw [okN_int]; trivial
theorem okN_nats {ns : List Nat} : okN 50 (.lst (nats ns)) = True := by
  simp only [okN, eq_iff_iff, iff_true]; exact okN_natsA
theorem okN_natsT {ns : List Nat} : okN 50 (.tup (nats ns)) = True := by
  simp only [okN, eq_iff_iff, iff_true]; exact okN_natsA
theorem inAny_nats {k : Nat} {ns : List Nat} {neg : Bool} : inAny neg (nats ns) (.int (k : Nat)) = .bl (if neg then !decide (k ∈ ns) else decide (k ∈ ns)) := by
  unfold inAny; rw [any_nats]
namespace W
theorem itr_new {N f} (h : PermN N f) {g : Nat} (hg : g < N) {k : Nat} (hk : k ≤ per N f g) : itr f k g ∈ (List.range k).map (fun j => itr f j g) ↔ k = per N f g := by
  rw [List.mem_map]
  constructor
  · rintro ⟨j, hj, e⟩
    rw [List.mem_range] at hj
    refine Nat.le_antisymm hk (Nat.le_of_not_lt fun lt => ?_)
    have e2 : itr f k g = itr f j (itr f (k - j) g) := by rw [← itr_add]; congr 1; omega
    rw [e2] at e
    exact (per_ok h hg).2.2 (k - j) (by omega) (by omega) (h.itr_inj hg (h.itr_lt hg _) j e).symm
  · intro e
    exact ⟨0, List.mem_range.mpr (by rw [e]; exact per_pos), by rw [e, (per_ok h hg).1]; rfl⟩
theorem parity : ∀ (k : Nat) {ns : List Nat}, IsP ns → far ns = k → nrings ns + 2 * k = ns.length + 1
  | 0, ns, h, e => by rw [(far_zero h).mp e, nrings_rg, List.length_range']
  | k + 1, ns, h, e => by
    obtain ⟨p, q, r, s, x, c⟩ := good h (fun z => by have := (far_zero h).mpr z; omega)
    have c2 := nrings_le (h.swap x)
    have c3 := swapL_len x
    have c4 : far (swapL ns p q r s) = k := by unfold far at e ⊢; omega
    have := parity k (h.swap x) c4
    omega
theorem lead_at {ns : List Nat} (h : IsP ns) {g : Nat} (hg : g < ns.length + 1) : (padN ns)[g + 1]? = some ((padN ns).getD (g + 1) 0) ∧ 0 < (padN ns).getD (g + 1) 0 ∧ (padN ns).getD (g + 1) 0 - 1 ∈ padN ns := by
  refine ⟨(padN_get h (by omega)).1, pad_pos h (by omega) (by omega), ?_⟩
  have := (padN_get h (i := g + 1) (by omega)).2
  exact (padN_mem h).mpr (by omega)
end W
end DL

/-! Plain laws: rings shown; the rings of a row in order. -/
namespace DL
open PySem
structure SmallR (rs : List (List Nat)) : Prop where
  few : rs.length ≤ 100
  all : ∀ r ∈ rs, r.length ≤ 100 ∧ ∀ x ∈ r, x ≤ 100
theorem smallR {ns : List Nat} (h : W.IsP ns) (hn : ns.length ≤ 60) : SmallR (ringsOf ns) := by
  have hf := W.permN_lead h
  refine ⟨?_, fun r hr => ?_⟩
  · rw [ringsOf_len h]
    have := W.nrings_le h
    omega
  · unfold ringsOf W.ringsL at hr
    obtain ⟨g, hg, rfl⟩ := List.mem_map.mp hr
    have hg2 := (List.mem_filter.mp hg).1
    rw [List.mem_range] at hg2
    refine ⟨?_, fun x hx => ?_⟩
    · unfold W.ring
      rw [List.length_map, List.length_range]
      have := (W.per_ok hf hg2).2.1
      omega
    · obtain ⟨k, rfl⟩ := (W.mem_ring hf hg2).mp hx
      have := hf.itr_lt hg2 k
      omega
theorem fits_nats : ∀ {ns : List Nat}, (∀ x ∈ ns, x ≤ 100) → fitsL 200 (nats ns) = true
  | [], _ => by simp [nats, fitsL]
  | n :: ns, h => by
    have e : nats (n :: ns) = .int (n : Nat) :: nats ns := rfl
    have h1 := h n List.mem_cons_self
    have h2 : (n : Int).natAbs.log2 < 200 := by
      rw [Int.natAbs_natCast]
      exact Nat.lt_of_le_of_lt (Nat.log2_le_self n) (by omega)
    rw [e, fitsL, fits_nats fun x hx => h x (List.mem_cons_of_mem _ hx), fitsD, decide_eq_true h2]; rfl
theorem bulk_nats : ∀ ns : List Nat, bulkL (nats ns) = ns.length
  | [] => by simp [nats, bulkL]
  | n :: ns => by
    have e : nats (n :: ns) = .int (n : Nat) :: nats ns := rfl
    have e2 : bulkD (.int (n : Nat)) = 0 := by simp [bulkD]
    rw [e, bulkL, bulk_nats ns, e2, List.length_cons]; omega
theorem fits_ringsA : ∀ {rs : List (List Nat)}, (∀ r ∈ rs, r.length ≤ 100 ∧ ∀ x ∈ r, x ≤ 100) → fitsL 200 (rs.map ringT) = true ∧ bulkL (rs.map ringT) ≤ 101 * rs.length
  | [], _ => by simp [fitsL, bulkL]
  | r :: rs, h => by
    obtain ⟨h1, h2⟩ := fits_ringsA (rs := rs) fun x hx => h x (List.mem_cons_of_mem _ hx)
    obtain ⟨h3, h4⟩ := h r List.mem_cons_self
    have e1 : fitsD 200 (ringT r) = true := by unfold ringT; rw [fitsD]; exact fits_nats h4
    have e2 : bulkD (ringT r) = r.length := by unfold ringT; rw [bulkD]; exact bulk_nats r
    rw [List.map_cons, fitsL, bulkL, h1, e1, e2, List.length_cons]
    exact ⟨rfl, by omega⟩
def ringsD (rs : List (List Nat)) : D := .tup (rs.map ringT)
theorem showB_rings {rs : List (List Nat)} (h : SmallR rs) : showB (ringsD rs) = true := by
  obtain ⟨h1, h2⟩ := fits_ringsA h.all
  have := h.few
  unfold ringsD
  exact showB_of 200 (by omega) (by rw [fitsD]; exact h1) (by rw [bulkD]; omega)
theorem showB_rings2 {rs ts : List (List Nat)} (h : SmallR rs) (k : SmallR ts) : showB (.lst [ringsD rs, ringsD ts]) = true := by
  obtain ⟨h1, h2⟩ := fits_ringsA h.all
  obtain ⟨k1, k2⟩ := fits_ringsA k.all
  have := h.few
  have := k.few
  have e1 : fitsD 200 (ringsD rs) = true := by unfold ringsD; rw [fitsD]; exact h1
  have e2 : fitsD 200 (ringsD ts) = true := by unfold ringsD; rw [fitsD]; exact k1
  have b1 : bulkD (ringsD rs) = bulkL (rs.map ringT) := by unfold ringsD; rw [bulkD]
  have b2 : bulkD (ringsD ts) = bulkL (ts.map ringT) := by unfold ringsD; rw [bulkD]
  refine showB_of 200 (by omega) ?_ ?_
  · rw [fitsD, fitsL, fitsL, fitsL, e1, e2]; rfl
  · rw [bulkD, bulkL, bulkL, bulkL, b1, b2]; omega
theorem okN_ringT {n : Nat} {r : List Nat} : okN (n + 1) (ringT r) := by unfold ringT; simp only [okN]; exact okN_natsA
theorem okN_rings {n : Nat} {rs : List (List Nat)} : okN (n + 2) (ringsD rs) := by
  unfold ringsD
  simp only [okN]
  intro x hx
  obtain ⟨r, _, rfl⟩ := List.mem_map.mp hx
  exact okN_ringT
theorem okN_rings1 {rs : List (List Nat)} : okN 50 (ringsD rs) := okN_rings (n := 48)
theorem okN_rings2 {rs ts : List (List Nat)} : okN 50 (.lst [ringsD rs, ringsD ts]) := by
  simp only [okN]
  intro x hx
  rcases List.mem_cons.mp hx with rfl | hx
  · exact okN_rings (n := 47)
  · rcases List.mem_cons.mp hx with rfl | hx
    · exact okN_rings (n := 47)
    · cases hx
theorem showB_nat {n : Nat} (h : n ≤ 100) : showB (.int (n : Nat)) = true := by
  have h2 : (n : Int).natAbs.log2 < 200 := by
    rw [Int.natAbs_natCast]
    exact Nat.lt_of_le_of_lt (Nat.log2_le_self n) (by omega)
  exact showB_of 200 (by omega) (by rw [fitsD, decide_eq_true h2]) (by simp [bulkD])
theorem itr_id {f : Nat → Nat} {N : Nat} (h : ∀ i, i < N → f i = i) {g : Nat} (hg : g < N) : ∀ k, W.itr f k g = g
  | 0 => rfl
  | k + 1 => by show f (W.itr f k g) = g; rw [itr_id h hg k, h g hg]
theorem per_id {N : Nat} {f : Nat → Nat} (hf : W.PermN N f) (h : ∀ i, i < N → f i = i) {g : Nat} (hg : g < N) : W.per N f g = 1 := by
  refine Nat.le_antisymm (Nat.le_of_not_lt fun lt => ?_) W.per_pos
  exact (W.per_ok hf hg).2.2 1 (by omega) lt (itr_id h hg 1)
theorem ring_id {N : Nat} {f : Nat → Nat} (hf : W.PermN N f) (h : ∀ i, i < N → f i = i) {g : Nat} (hg : g < N) : W.ring N f g = [g] := by
  unfold W.ring; rw [per_id hf h hg]; rfl
theorem rings_id {N : Nat} {f : Nat → Nat} (hf : W.PermN N f) (h : ∀ i, i < N → f i = i) : ∀ m, m ≤ N → W.ringsL N f m = (List.range m).map fun g => [g]
  | 0, _ => rfl
  | m + 1, hm => by
    have e : W.first N f m = true := by
      unfold W.first
      rw [decide_eq_true_eq]
      intro g hg hmem
      rw [ring_id hf h (by omega)] at hmem
      have := List.mem_singleton.mp hmem
      omega
    rw [W.ringsL_succ, rings_id hf h m (by omega), e, if_pos rfl, ring_id hf h (by omega), List.range_succ, List.map_append]; rfl
theorem ringsOf_range {n : Nat} : ringsOf (List.range' 1 n) = (List.range (n + 1)).map fun g => [g] := by
  unfold ringsOf
  rw [List.length_range']
  have hf := W.permN_lead (W.isP_rg (n := n))
  rw [List.length_range'] at hf
  exact rings_id hf (fun i hi => W.lead_rg hi) _ (Nat.le_refl _)
end DL

/-! Plain laws: the next good exchange, plans of good exchanges. -/
namespace DL
open PySem
namespace W
def endN (ns : List Nat) (v : Nat) : Nat := if v ∈ ns then ns.idxOf v else ns.length
/-- the numbers below x stand in order, x doesn't, y is the greatest ahead of x -/
structure Ahead (ns : List Nat) (x y : Nat) : Prop where
  one : 1 ≤ x
  le : x ≤ ns.length
  ord : ∀ j, j < x → (padN ns).getD j 0 = j
  y_in : y ∈ ns.take (ns.idxOf x)
  top : ∀ z ∈ ns.take (ns.idxOf x), z ≤ y
  gt : x < y
theorem idx_end {ns : List Nat} (h : IsP ns) {v : Nat} (h1 : 1 ≤ v) (h2 : v ≤ ns.length + 1) : (padN ns).idxOf v = endN ns v + 1 := by
  unfold endN
  by_cases e : v ∈ ns
  · rw [if_pos e]
    exact idx_pad h h1 ((IsP.mem h).mp e).2
  · rw [if_neg e]
    have : v = ns.length + 1 := by
      refine Nat.le_antisymm h2 (Nat.lt_of_not_le fun le => ?_)
      exact e ((IsP.mem h).mpr ⟨h1, le⟩)
    have e2 := pad_idx h (i := ns.length + 1) (by omega)
    rw [pad_last] at e2
    rw [this, e2]
theorem next_ok {ns : List Nat} (h : IsP ns) {x y : Nat} (a : Ahead ns x y) : Exch ns.length (x - 1) (ns.idxOf y + 1) (ns.idxOf x) (endN ns (y + 1)) ∧ far (swapL ns (x - 1) (ns.idxOf y + 1) (ns.idxOf x) (endN ns (y + 1))) + 1 = far ns := by
  obtain ⟨a1, a2, a3, a4, a5, a6⟩ := a
  have ym : y ∈ ns := List.mem_of_mem_take a4
  obtain ⟨y1, y2⟩ := (IsP.mem h).mp ym
  have ix := idx_pad h a1 a2
  have iy := idx_pad h y1 y2
  have iz := idx_end h (v := y + 1) (by omega) (by omega)
  -- y stands ahead of x
  have hy : ns.idxOf y < ns.idxOf x := by
    obtain ⟨j, hj, e⟩ := List.getElem_of_mem a4
    rw [List.length_take] at hj
    rw [List.getElem_take] at e
    have := idxOf_get (IsP.nd h) (i := j) (by omega)
    rw [e] at this
    omega
  have gy : (padN ns).getD (ns.idxOf y + 1) 0 = y := by rw [← iy]; exact (pad_of_idx h (x := y) (by omega)).2
  have gx : (padN ns).getD (ns.idxOf x + 1) 0 = x := by rw [← ix]; exact (pad_of_idx h (x := x) (by omega)).2
  have hx2 : (padN ns).getD x 0 ≠ x := fun e => by
    have p1 := pad_idx h (i := x) (by omega)
    rw [e] at p1
    have := a3 (ns.idxOf y + 1) (by omega)
    rw [gy] at this; omega
  have q1 : x - 1 < ns.idxOf y + 1 := by
    refine Nat.lt_of_not_le fun le => ?_
    have := a3 (ns.idxOf y + 1) (by omega)
    rw [gy] at this; omega
  have q3 : ns.idxOf x < (padN ns).idxOf (y + 1) := by
    rw [iz]
    unfold endN
    by_cases e : y + 1 ∈ ns
    · rw [if_pos e]
      refine Nat.lt_of_not_le fun le => ?_
      have hl := (List.idxOf_lt_length_iff).mpr e
      have : y + 1 ∈ ns.take (ns.idxOf x) := by
        rw [List.mem_take_iff_getElem]
        exact ⟨ns.idxOf (y + 1), by omega, List.getElem_idxOf hl⟩
      have := a5 _ this
      omega
    · rw [if_neg e]
      have hl := (List.idxOf_lt_length_iff).mpr ((IsP.mem h).mpr ⟨a1, a2⟩)
      omega
  obtain ⟨g1, g2⟩ := good_at h (x := x) (q := ns.idxOf y + 1) (by omega) hx2 a3 q1 (by omega) (by rw [gy, ix]; omega)
  rw [gy, iz, ix] at g1 g2
  simp only [Nat.add_sub_cancel] at g1 g2
  refine ⟨g1, ?_⟩
  have := nrings_le (h.swap g1)
  have hl := swapL_len g1
  unfold far
  omega
/-- a number is in its place where nothing greater stands ahead of it -/
theorem in_place {ns : List Nat} (h : IsP ns) {x : Nat} (h1 : 1 ≤ x) (h2 : x ≤ ns.length) (h3 : ∀ j, j < x → (padN ns).getD j 0 = j) (h4 : ∀ z ∈ ns.take (ns.idxOf x), z ≤ x) : (padN ns).getD x 0 = x := by
  have ix := idx_pad h h1 h2
  refine Classical.byContradiction fun ne => ?_
  obtain ⟨a1, a2, a3⟩ := ahead_x h (by omega) ne h3
  -- the place x holds a number greater than x, and it stands ahead
  have b1 := pad_low h (i := x) (by omega)
  have b2 : x < (padN ns).getD x 0 := by
    refine Nat.lt_of_not_le fun le => ?_
    have b3 : (padN ns).getD x 0 < x := by omega
    have b4 := h3 _ b3
    have := (permN_pad h).inj x ((padN ns).getD x 0) (by omega) (by omega) b4.symm
    omega
  have b5 : (padN ns).getD x 0 ∈ ns.take (ns.idxOf x) := by
    rw [List.mem_take_iff_getElem]
    refine ⟨x - 1, by omega, ?_⟩
    have := pad_in (ns := ns) (i := x - 1) (by omega)
    rw [show x - 1 + 1 = x by omega] at this
    exact this.symm
  have := h4 _ b5
  omega
abbrev Ex4 := Nat × Nat × Nat × Nat
def swapE (ns : List Nat) (e : Ex4) : List Nat := swapL ns e.1 e.2.1 e.2.2.1 e.2.2.2
def ExchE (n : Nat) (e : Ex4) : Prop := Exch n e.1 e.2.1 e.2.2.1 e.2.2.2
/-- a plan of good exchanges that ends in order -/
def GoodPlan : List Nat → List Ex4 → Prop
  | ns, [] => ns = List.range' 1 ns.length
  | ns, e :: t => ExchE ns.length e ∧ far (swapE ns e) + 1 = far ns ∧ GoodPlan (swapE ns e) t
theorem plan_far : ∀ {t : List Ex4} {ns : List Nat}, IsP ns → GoodPlan ns t → far ns = t.length
  | [], ns, h, g => (far_zero h).mpr g
  | e :: t, ns, h, g => by
    obtain ⟨g1, g2, g3⟩ := g
    have := plan_far (h.swap g1) g3
    have e2 : far (swapE ns e) = far (swapL ns e.1 e.2.1 e.2.2.1 e.2.2.2) := rfl
    rw [List.length_cons]; omega
end W
theorem nmax {T : List Nat} {P : Int → Prop} (h0 : 0 < T.length) (h : ∀ m : Nat, m ∈ T → (∀ z ∈ T, z ≤ m) → P m) : ∃ l : List Int, nats T = l.map .int ∧ 0 < l.length ∧ ∀ m, m ∈ l → (∀ y, y ∈ l → y ≤ m) → P m := by
  refine ⟨T.map fun n : Nat => (n : Int), by simp [nats], by rw [List.length_map]; exact h0, fun m hm ht => ?_⟩
  obtain ⟨k, hk, rfl⟩ := List.mem_map.mp hm
  exact h k hk fun z hz => by
    have := ht z (List.mem_map.mpr ⟨z, hz, rfl⟩)
    omega
def exT (e : W.Ex4) : D := stepD e.1 e.2.1 e.2.2.1 e.2.2.2
theorem eqDL_natsR : ∀ ns : List Nat, eqDL (nats ns) (nats ns) = true
  | [] => by simp [nats, eqDL]
  | n :: ns => by
    have e : nats (n :: ns) = .int (n : Nat) :: nats ns := rfl
    rw [e, eqDL, eqDL_natsR ns]; simp [eqD]
theorem eqD_natsR (ns : List Nat) : eqD (.lst (nats ns)) (.lst (nats ns)) = true := by rw [eqD]; exact eqDL_natsR ns
namespace W
/-- a line run through a plan -/
def runE {α : Type} (xs : List α) (t : List Ex4) : List α := t.foldl (fun ys e => swapL ys e.1 e.2.1 e.2.2.1 e.2.2.2) xs
theorem runE_app {α : Type} (xs : List α) (t u : List Ex4) : runE xs (t ++ u) = runE (runE xs t) u := by unfold runE; rw [List.foldl_append]
theorem runE_len {α : Type} : ∀ {t : List Ex4} {xs : List α}, (∀ e ∈ t, ExchE xs.length e) → (runE xs t).length = xs.length
  | [], _, _ => rfl
  | e :: t, xs, h => by
    have h1 := swapL_len (h e List.mem_cons_self)
    have := runE_len (t := t) (xs := swapL xs e.1 e.2.1 e.2.2.1 e.2.2.2) fun z hz => by rw [h1]; exact h z (List.mem_cons_of_mem _ hz)
    rw [h1] at this
    exact this
theorem runE_perm {α : Type} : ∀ {t : List Ex4} {xs : List α}, (∀ e ∈ t, ExchE xs.length e) → (runE xs t).Perm xs
  | [], _, _ => .refl _
  | e :: t, xs, h => by
    have h1 := swapL_len (h e List.mem_cons_self)
    have := runE_perm (t := t) (xs := swapL xs e.1 e.2.1 e.2.2.1 e.2.2.2) fun z hz => by rw [h1]; exact h z (List.mem_cons_of_mem _ hz)
    exact this.trans (swapL_perm (h e List.mem_cons_self))
theorem runE_map {α β : Type} (g : α → β) : ∀ (t : List Ex4) (xs : List α), runE (xs.map g) t = (runE xs t).map g
  | [], _ => rfl
  | e :: t, xs => by
    show runE (swapL (xs.map g) _ _ _ _) t = _
    rw [swapL_map]; exact runE_map g t _
theorem runE_steps {α : Type} : ∀ {t : List Ex4} {xs : List α}, (∀ e ∈ t, ExchE xs.length e) → Steps t.length xs (runE xs t)
  | [], xs, _ => .nil xs
  | e :: t, xs, h => by
    have h0 := h e List.mem_cons_self
    have h1 := swapL_len h0
    exact .cons h0 (runE_steps (t := t) (xs := swapL xs e.1 e.2.1 e.2.2.1 e.2.2.2) fun z hz => by rw [h1]; exact h z (List.mem_cons_of_mem _ hz))
end W
end DL

/-! Plain laws: rows side by side. -/
namespace DL.W
def catP (ns ms : List Nat) : List Nat := ns ++ ms.map (· + ns.length)
theorem catP_len {ns ms : List Nat} : (catP ns ms).length = ns.length + ms.length := by simp [catP]
theorem isP_cat {ns ms : List Nat} (h1 : IsP ns) (h2 : IsP ms) : IsP (catP ns ms) := by
  unfold IsP at *
  rw [catP_len, ← List.range'_append_1]
  unfold catP
  refine List.Perm.append h1 ?_
  have := h2.map (· + ns.length)
  rwa [show (List.range' 1 ms.length).map (· + ns.length) = List.range' (1 + ns.length) ms.length from by
    apply List.ext_getElem
    · simp
    · intro i h1 h2
      simp; omega] at this
/-- two functions, the last place of the one being the first of the other -/
def joinF (n : Nat) (f g : Nat → Nat) (x : Nat) : Nat := if x < n then f x else if g (x - n) = 0 then f n else n + g (x - n)
theorem cyc_join {n : Nat} {f : Nat → Nat} (hf : PermN (n + 1) f) : ∀ {m : Nat} {g : Nat → Nat}, PermN (m + 1) g → cyc (n + 1 + m) (joinF n f g) + 1 = cyc (n + 1) f + cyc (m + 1) g
  | 0, g, hg => by
    have g0 : g 0 = 0 := by have := hg.lt 0 (by omega); omega
    have e1 : cyc 1 g = 1 := by simp [cyc, g0]
    rw [e1, Nat.add_zero]
    congr 1
    refine cyc_congr fun i hi => ?_
    unfold joinF
    by_cases h : i < n
    · rw [if_pos h]
    · have : i = n := by omega
      subst this
      rw [if_neg h, Nat.sub_self, g0, if_pos rfl]
  | m + 1, g, hg => by
    have ih := cyc_join hf (m := m) hg.contr
    have hn := hf.lt n (by omega)
    have e : ∀ i, i < n + 1 + m → contr (n + 1 + m) (joinF n f g) i = joinF n f (contr (m + 1) g) i := fun i hi => by
      by_cases h : i < n
      · have := hf.lt i (by omega)
        unfold contr joinF
        rw [if_pos h, if_pos h, if_neg (by omega)]
      · by_cases q : g (i - n) = m + 1
        · have e1 : joinF n f g i = n + 1 + m := by unfold joinF; rw [if_neg h, q, if_neg (by omega)]; omega
          have e2 : contr (m + 1) g (i - n) = g (m + 1) := by unfold contr; rw [if_pos q]
          have e3 : n + 1 + m - n = m + 1 := by omega
          have e4 : contr (n + 1 + m) (joinF n f g) i = joinF n f g (n + 1 + m) := by show (if _ then _ else _) = _; rw [if_pos e1]
          rw [e4]
          unfold joinF
          rw [if_neg h, if_neg (show ¬ (n + 1 + m < n) by omega), e3, e2]
        · have e2 : contr (m + 1) g (i - n) = g (i - n) := by unfold contr; rw [if_neg q]
          have e1 : joinF n f g i ≠ n + 1 + m := by
            unfold joinF
            rw [if_neg h]
            by_cases z : g (i - n) = 0
            · rw [if_pos z]; omega
            · rw [if_neg z]; omega
          have e4 : contr (n + 1 + m) (joinF n f g) i = joinF n f g i := by show (if _ then _ else _) = _; rw [if_neg e1]
          rw [e4]
          unfold joinF
          rw [if_neg h, if_neg h, e2]
    have e3 : n + 1 + m - n = m + 1 := by omega
    have t : joinF n f g (n + 1 + m) = n + 1 + m ↔ g (m + 1) = m + 1 := by
      unfold joinF
      rw [if_neg (show ¬ (n + 1 + m < n) by omega), e3]
      by_cases z : g (m + 1) = 0
      · rw [if_pos z]; omega
      · rw [if_neg z]; omega
    rw [show n + 1 + (m + 1) = (n + 1 + m) + 1 by omega, cyc, cyc_congr e]
    have c2 : cyc (m + 1 + 1) g = cyc (m + 1) (contr (m + 1) g) + if g (m + 1) = m + 1 then 1 else 0 := rfl
    rw [c2]
    by_cases z : g (m + 1) = m + 1
    · rw [if_pos z, if_pos (t.mpr z)]; omega
    · rw [if_neg z, if_neg (fun y => z (t.mp y))]; omega
theorem pad_cat {ns ms : List Nat} {i : Nat} (hi : i < ns.length + ms.length + 2) : (padN (catP ns ms)).getD i 0 = if i ≤ ns.length then (padN ns).getD i 0 else ns.length + (padN ms).getD (i - ns.length) 0 := by
  by_cases h0 : i = 0
  · subst h0; rfl
  · obtain ⟨j, rfl⟩ : ∃ j, i = j + 1 := ⟨i - 1, by omega⟩
    by_cases h1 : j + 1 ≤ ns.length
    · rw [if_pos h1, pad_in (by rw [catP_len]; omega), pad_in (by omega)]
      simp only [catP]
      rw [List.getElem_append_left (by omega)]
    · rw [if_neg h1]
      by_cases h2 : j < ns.length + ms.length
      · rw [pad_in (by rw [catP_len]; omega), show j + 1 - ns.length = (j - ns.length) + 1 by omega, pad_in (by omega)]
        simp only [catP]
        rw [List.getElem_append_right (by omega), List.getElem_map]
        omega
      · have ej : j = ns.length + ms.length := by omega
        have := pad_last (ns := catP ns ms)
        rw [catP_len] at this
        rw [ej, this, show ns.length + ms.length + 1 - ns.length = ms.length + 1 by omega, pad_last]
        omega
theorem lead_cat {ns ms : List Nat} (h1 : IsP ns) (h2 : IsP ms) {g : Nat} (hg : g < ns.length + ms.length + 1) : lead (catP ns ms) g = joinF ns.length (lead ns) (lead ms) g := by
  have hc := isP_cat h1 h2
  have key : ∀ t, t < ns.length + ms.length + 2 → (padN (catP ns ms)).getD t 0 = (padN (catP ns ms)).getD (g + 1) 0 - 1 → lead (catP ns ms) g = t := fun t ht e => by
    unfold lead
    rw [← e]
    exact pad_idx hc (by rw [catP_len]; exact ht)
  have ln := (permN_lead h1).lt ns.length (by omega)
  unfold joinF
  by_cases h : g < ns.length
  · rw [if_pos h]
    have l := (permN_lead h1).lt g (by omega)
    refine key _ (by omega) ?_
    rw [pad_cat (by omega), pad_cat (by omega), if_pos (by omega), if_pos (by omega)]
    exact pad_lead h1 (by omega)
  · rw [if_neg h]
    obtain ⟨y, rfl⟩ : ∃ y, g = ns.length + y := ⟨g - ns.length, by omega⟩
    rw [Nat.add_sub_cancel_left]
    have l2 := (permN_lead h2).lt y (by omega)
    have p2 := pad_lead h2 (g := y) (by omega)
    have pp := pad_pos h2 (i := y + 1) (by omega) (by omega)
    have v : (padN (catP ns ms)).getD (ns.length + y + 1) 0 = ns.length + (padN ms).getD (y + 1) 0 := by
      rw [pad_cat (by omega), if_neg (by omega), show ns.length + y + 1 - ns.length = y + 1 by omega]
    by_cases z : lead ms y = 0
    · rw [if_pos z]
      rw [z, pad_0] at p2
      refine key _ (by omega) ?_
      rw [v, pad_cat (by omega), if_pos (by omega), pad_lead h1 (by omega), pad_last]
      omega
    · rw [if_neg z]
      refine key _ (by omega) ?_
      rw [v, pad_cat (by omega), if_neg (by omega), Nat.add_sub_cancel_left, p2]
      omega
theorem nrings_cat {ns ms : List Nat} (h1 : IsP ns) (h2 : IsP ms) : nrings (catP ns ms) + 1 = nrings ns + nrings ms := by
  unfold nrings
  rw [catP_len, show ns.length + ms.length + 1 = ns.length + 1 + ms.length by omega, cyc_congr fun i hi => lead_cat h1 h2 (by omega)]
  exact cyc_join (permN_lead h1) (permN_lead h2)
theorem far_cat {ns ms : List Nat} (h1 : IsP ns) (h2 : IsP ms) : far (catP ns ms) = far ns + far ms := by
  have a := parity _ h1 rfl
  have b := parity _ h2 rfl
  have c := parity _ (isP_cat h1 h2) rfl
  have d := nrings_cat h1 h2
  rw [catP_len] at c
  omega
end DL.W
namespace DL
open PySem PySem.Spec PyProof.Rows L2
theorem numsOf_app {a b c d : List Str} (p : a.Perm b) (q : c.Perm d) (nd : (a ++ c).Nodup) : numsOf (a ++ c) (b ++ d) = W.catP (numsOf a b) (numsOf c d) := by
  unfold W.catP
  rw [numsOf_len]
  unfold numsOf
  rw [List.map_append, List.map_map]
  congr 1
  · refine List.map_congr_left fun w hw => ?_
    rw [List.idxOf_append, if_pos (p.mem_iff.mp hw)]
  · refine List.map_congr_left fun w hw => ?_
    have nb : w ∉ b := fun hb => (List.nodup_append.mp nd).2.2 w (p.mem_iff.mpr hb) w hw rfl
    rw [List.idxOf_append, if_neg nb, Function.comp, p.length_eq]
    omega
theorem isP_numsOf {ws vs : List Str} (nd : ws.Nodup) (p : ws.Perm vs) : W.IsP (numsOf ws vs) := by
  have nv := p.nodup_iff.mp nd
  unfold W.IsP
  rw [numsOf_len]
  have e : numsOf vs vs = List.range' 1 vs.length := numsOf_self nv
  have : (numsOf ws vs).Perm (numsOf vs vs) := p.map _
  rw [e, ← p.length_eq] at this
  exact this
theorem dist_app {a b c d : List Str} (p : a.Perm b) (q : c.Perm d) (nd : (a ++ c).Nodup) : dist (a ++ c) (b ++ d) = dist a b + dist c d := by
  have nn := List.nodup_append.mp nd
  unfold dist
  rw [numsOf_app p q nd, W.far_cat (isP_numsOf nn.1 p) (isP_numsOf nn.2.1 q)]
theorem nrings_app {a b c d : List Str} (p : a.Perm b) (q : c.Perm d) (nd : (a ++ c).Nodup) : W.nrings (numsOf (a ++ c) (b ++ d)) + 1 = W.nrings (numsOf a b) + W.nrings (numsOf c d) := by
  have nn := List.nodup_append.mp nd
  rw [numsOf_app p q nd, W.nrings_cat (isP_numsOf nn.1 p) (isP_numsOf nn.2.1 q)]
theorem dist_same {ws : List Str} (nd : ws.Nodup) : dist ws ws = 0 := by
  unfold dist
  rw [numsOf_self nd, W.far_rg]
theorem dist_in {a b c d : List Str} (p : a.Perm b) (nd : (c ++ (a ++ d)).Nodup) : dist (c ++ (a ++ d)) (c ++ (b ++ d)) = dist a b := by
  have nn := List.nodup_append.mp nd
  have nm := List.nodup_append.mp nn.2.1
  rw [dist_app (.refl _) (p.append_right d) nd, dist_app p (.refl _) nn.2.1, dist_same nn.1, dist_same nm.2.1, Nat.zero_add, Nat.add_zero]
end DL
namespace DL.W
theorem GoodPlan.ex : ∀ {t : List Ex4} {ns : List Nat}, GoodPlan ns t → ∀ e ∈ t, ExchE ns.length e
  | [], _, _, _, h => absurd h List.not_mem_nil
  | a :: t, ns, g, e, h => by
    obtain ⟨g1, _, g3⟩ := g
    rcases List.mem_cons.mp h with rfl | h
    · exact g1
    · have := GoodPlan.ex g3 e h
      rwa [show (swapE ns a).length = ns.length from swapL_len g1] at this
theorem GoodPlan.mid : ∀ {t : List Ex4} {ns : List Nat} (k : Nat), IsP ns → GoodPlan ns t → GoodPlan (runE ns (t.take k)) (t.drop k) ∧ IsP (runE ns (t.take k))
  | t, ns, 0, h, g => by simpa [runE] using ⟨g, h⟩
  | [], ns, k + 1, h, g => by simpa [runE] using ⟨g, h⟩
  | a :: t, ns, k + 1, h, g => by
    obtain ⟨g1, _, g3⟩ := g
    have := GoodPlan.mid k (h.swap g1) g3
    simpa [runE] using this
theorem GoodPlan.done {t : List Ex4} {ns : List Nat} (h : IsP ns) (g : GoodPlan ns t) : runE ns t = List.range' 1 ns.length := by
  have m := (g.mid t.length h).1
  rw [List.drop_length, List.take_length] at m
  have : runE ns t = List.range' 1 (runE ns t).length := m
  rwa [runE_len g.ex] at this
theorem runE_parts {α : Type} (xs : List α) (t : List Ex4) (k : Nat) : runE (runE xs (t.take k)) (t.drop k) = runE xs t := by
  rw [← runE_app, List.take_append_drop]
end DL.W
namespace DL
open PySem PySem.Spec PyProof.Rows L2
theorem numsOf_run {ws vs : List Str} (t : List W.Ex4) : numsOf (W.runE ws t) vs = W.runE (numsOf ws vs) t := (W.runE_map _ t ws).symm
structure RowPlan (vs us : List Str) (t : List W.Ex4) : Prop where
  ex : ∀ e ∈ t, W.ExchE vs.length e
  to : W.runE vs t = us
  far : t.length = dist vs us
  fst : ∀ k, k ≤ t.length → dist vs (W.runE vs (t.take k)) = k
  lst : ∀ k, k ≤ t.length → dist (W.runE vs (t.take k)) us = t.length - k
theorem rowPlan {vs us : List Str} (G1 : GoodT vs) (G2 : GoodT us) (p : vs.Perm us) {t : List W.Ex4} (g : W.GoodPlan (numsOf vs us) t) : RowPlan vs us t := by
  have hP := numsOf_isP G1 G2 p
  have ex : ∀ e ∈ t, W.ExchE vs.length e := fun e he => by have := g.ex e he; rwa [numsOf_len] at this
  have lf : t.length = dist vs us := (W.plan_far hP g).symm
  have to : W.runE vs t = us := by
    have d := g.done hP
    rw [← numsOf_run, numsOf_len] at d
    have pr : (W.runE vs t).Perm us := (W.runE_perm ex).trans p
    have := byN_numsOf pr
    rw [d, p.length_eq, byN_range] at this
    exact this.symm
  have lst : ∀ k, k ≤ t.length → dist (W.runE vs (t.take k)) us = t.length - k := fun k hk => by
    obtain ⟨a, b⟩ := g.mid k hP
    have := W.plan_far b a
    rw [← numsOf_run, List.length_drop] at this
    exact this
  refine ⟨ex, to, lf, fun k hk => ?_, lst⟩
  have ek : ∀ e ∈ t.take k, W.ExchE vs.length e := fun e he => ex e (List.mem_of_mem_take he)
  have pk := W.runE_perm ek
  have Gk := G1.perm pk
  have s := (dist_steps (W.runE_steps ek) G1 Gk pk.symm).1
  rw [dist_self Gk, List.length_take] at s
  have tr := dist_tri G1 Gk G2 pk.symm (pk.trans p)
  have := lst k hk
  omega
end DL

/-! Plain laws: all exchanges in their order, the good ones. -/
namespace DL.W
def seg3 (n p q r : Nat) : List Ex4 := (List.range (n - r)).map fun i => (p, q, r, r + 1 + i)
def seg2 (n p q : Nat) : List Ex4 := (List.range (n - q)).flatMap fun i => seg3 n p q (q + i)
def seg1 (n p : Nat) : List Ex4 := (List.range (n - p)).flatMap fun i => seg2 n p (p + 1 + i)
def allE (n : Nat) : List Ex4 := (List.range n).flatMap (seg1 n)
theorem flat_len {α : Type} {f : Nat → List α} {B : Nat} (h : ∀ i, (f i).length ≤ B) : ∀ k, ((List.range k).flatMap f).length ≤ k * B
  | 0 => by simp
  | k + 1 => by
    have e : (List.range (k + 1)).flatMap f = (List.range k).flatMap f ++ f k := by rw [List.range_succ, List.flatMap_append]; simp
    rw [e, List.length_append, Nat.succ_mul]
    exact Nat.add_le_add (flat_len h k) (h k)
theorem flat_succ {α : Type} (f : Nat → List α) (k : Nat) : (List.range (k + 1)).flatMap f = (List.range k).flatMap f ++ f k := by
  rw [List.range_succ, List.flatMap_append]; simp
theorem seg3_len {n : Nat} (h : n ≤ 12) (p q r : Nat) : (seg3 n p q r).length ≤ 12 := by simp [seg3]; omega
theorem seg2_len {n : Nat} (h : n ≤ 12) (p q : Nat) : (seg2 n p q).length ≤ 144 := by
  have := flat_len (f := fun i => seg3 n p q (q + i)) (B := 12) (fun i => seg3_len h _ _ _) (n - q)
  unfold seg2; omega
theorem seg1_len {n : Nat} (h : n ≤ 12) (p : Nat) : (seg1 n p).length ≤ 1728 := by
  have := flat_len (f := fun i => seg2 n p (p + 1 + i)) (B := 144) (fun i => seg2_len h _ _) (n - p)
  unfold seg1; omega
theorem allE_len {n : Nat} (h : n ≤ 12) : (allE n).length ≤ 20736 := by
  have := flat_len (f := seg1 n) (B := 1728) (fun i => seg1_len h _) n
  unfold allE; omega
theorem allE_len8 {n : Nat} (h : n ≤ 8) : (allE n).length ≤ 4096 := by
  have h3 : ∀ p q r, (seg3 n p q r).length ≤ 8 := fun p q r => by simp [seg3]; omega
  have h2 : ∀ p q, (seg2 n p q).length ≤ 64 := fun p q => by
    have := flat_len (f := fun i => seg3 n p q (q + i)) (B := 8) (fun i => h3 _ _ _) (n - q)
    unfold seg2; omega
  have h1 : ∀ p, (seg1 n p).length ≤ 512 := fun p => by
    have := flat_len (f := fun i => seg2 n p (p + 1 + i)) (B := 64) (fun i => h2 _ _) (n - p)
    unfold seg1; omega
  have := flat_len (f := seg1 n) (B := 512) h1 n
  unfold allE; omega
theorem mem_allE {n : Nat} {e : Ex4} : e ∈ allE n ↔ ExchE n e := by
  obtain ⟨p, q, r, s⟩ := e
  unfold allE seg1 seg2 seg3 ExchE
  simp only [List.mem_flatMap, List.mem_map, List.mem_range, Prod.mk.injEq]
  constructor
  · rintro ⟨p', hp, i, hi, j, hj, k, hk, rfl, rfl, rfl, rfl⟩
    exact ⟨by omega, by omega, by omega, by omega⟩
  · rintro ⟨h1, h2, h3, h4⟩
    exact ⟨p, by omega, q - (p + 1), by omega, r - q, by omega, s - (r + 1), by omega, rfl, by omega, by omega, by omega⟩
def goodB (ns : List Nat) (e : Ex4) : Bool := decide (far (swapE ns e) < far ns)
def goodE (ns : List Nat) : List Ex4 := (allE ns.length).filter (goodB ns)
theorem goodE_nil {ns : List Nat} (h : IsP ns) : goodE ns = [] ↔ far ns = 0 := by
  constructor
  · intro e
    apply Classical.byContradiction
    intro hn
    have ne : ns ≠ List.range' 1 ns.length := fun z => hn ((far_zero h).mpr z)
    obtain ⟨p, q, r, s, x, f⟩ := good_far h ne
    have : (p, q, r, s) ∈ goodE ns := List.mem_filter.mpr ⟨mem_allE.mpr x, decide_eq_true (by show far (swapL ns p q r s) < far ns; omega)⟩
    rw [e] at this
    exact absurd this List.not_mem_nil
  · intro e
    unfold goodE
    rw [List.filter_eq_nil_iff]
    intro x _
    unfold goodB
    rw [e]
    simp
theorem goodE_len {ns : List Nat} (h : ns.length ≤ 12) : (goodE ns).length ≤ 20736 := Nat.le_trans (List.length_filter_le _ _) (allE_len h)
/-- a good one lessens by just one -/
theorem goodB_one {ns : List Nat} (h : IsP ns) {e : Ex4} (x : ExchE ns.length e) : goodB ns e = decide ((far (swapE ns e) : Int) = (far ns : Int) - 1) := by
  have := far_swap h x
  unfold goodB
  rw [Bool.eq_iff_iff, decide_eq_true_eq, decide_eq_true_eq]
  show far (swapL ns e.1 e.2.1 e.2.2.1 e.2.2.2) < far ns ↔ (far (swapL ns e.1 e.2.1 e.2.2.1 e.2.2.2) : Int) = _
  omega
end DL.W
namespace DL
open PySem PySem.Spec PyProof.Rows L2
theorem exT_range {n p q r : Nat} : (List.range (n - r)).map (fun i => exT (p, q, r, r + 1 + i)) = (W.seg3 n p q r).map exT := by
  unfold W.seg3; rw [List.map_map]; rfl
theorem okN_exT {n : Nat} {e : W.Ex4} : okN (n + 1) (exT e) := by
  unfold exT stepD
  intro x hx
  simp only [List.mem_cons, List.not_mem_nil, or_false] at hx
  rcases hx with rfl | rfl | rfl | rfl <;> rw [okN_int] <;> trivial
theorem okN_exs {n : Nat} {t : List W.Ex4} : okN (n + 2) (.tup (t.map exT)) := by
  intro x hx
  obtain ⟨e, _, rfl⟩ := List.mem_map.mp hx
  exact okN_exT
theorem fits_exT {e : W.Ex4} {n : Nat} (h : W.ExchE n e) (hn : n ≤ 100) : fitsD 200 (exT e) = true ∧ bulkD (exT e) = 4 := by
  obtain ⟨p, q, r, s⟩ := e
  obtain ⟨h1, h2, h3, h4⟩ := h
  dsimp only at h1 h2 h3 h4
  have l : ∀ k : Nat, k ≤ 100 → k.log2 < 200 := fun k hk => by
    have : k.log2 ≤ k := by
      by_cases z : k = 0
      · rw [z]; decide
      · exact Nat.le_of_lt (Nat.lt_of_lt_of_le (Nat.lt_two_pow_self) (Nat.log2_self_le z))
    omega
  constructor
  · simp [exT, stepD, fitsD, fitsL, l p (by omega), l q (by omega), l r (by omega), l s (by omega)]
  · simp [exT, stepD, bulkD, bulkL]
theorem fits_exs {n : Nat} (hn : n ≤ 100) : ∀ {t : List W.Ex4}, (∀ e ∈ t, W.ExchE n e) → fitsL 200 (t.map exT) = true ∧ bulkL (t.map exT) = 5 * t.length
  | [], _ => by simp [fitsL, bulkL]
  | e :: t, h => by
    obtain ⟨a, b⟩ := fits_exT (h e List.mem_cons_self) hn
    obtain ⟨c, d⟩ := fits_exs hn fun x hx => h x (List.mem_cons_of_mem _ hx)
    rw [List.map_cons, fitsL, bulkL, a, b, c, d, List.length_cons]
    exact ⟨rfl, by omega⟩
theorem showB_exs2 {n : Nat} (hn : n ≤ 100) {t : List W.Ex4} (h : ∀ e ∈ t, W.ExchE n e) (hl : t.length ≤ 5000) : showB (.lst [.tup (t.map exT), .tup (t.map exT)]) = true := by
  obtain ⟨c, d⟩ := fits_exs hn h
  refine showB_of 200 (by decide) (by simp [fitsD, fitsL, c]) ?_
  simp only [bulkD, bulkL, d]; omega
theorem exT_inj {a b : W.Ex4} : (exT a = exT b) = (a = b) := by
  obtain ⟨p, q, r, s⟩ := a
  obtain ⟨p', q', r', s'⟩ := b
  unfold exT
  rw [stepD_inj]
  simp
end DL

/-! Plain laws: an exchange undone; exchanges put down thing by thing. -/
namespace DL.W
theorem Exch.back {n p q r s : Nat} (e : Exch n p q r s) : Exch n p (p + s - r) (s + p - q) s := by
  obtain ⟨h1, h2, h3, h4⟩ := e
  exact ⟨by omega, by omega, by omega, h4⟩
theorem swap_back {α : Type} {xs : List α} {p q r s : Nat} (e : Exch xs.length p q r s) : swapL (swapL xs p q r s) p (p + s - r) (s + p - q) s = xs := by
  have e2 : Exch (swapL xs p q r s).length p (p + s - r) (s + p - q) s := by rw [swapL_len e]; exact e.back
  apply List.ext_getElem?
  intro i
  rw [swapL_get e2, swapL_get e]
  congr 1
  obtain ⟨h1, h2, h3, h4⟩ := e
  unfold ixS
  (repeat' split) <;> omega
def undoE (e : Ex4) : Ex4 := (e.1, e.1 + e.2.2.2 - e.2.2.1, e.2.2.2 + e.1 - e.2.1, e.2.2.2)
theorem undoE_ok {n : Nat} {e : Ex4} (h : ExchE n e) : ExchE n (undoE e) := Exch.back h
theorem undo_undo {n : Nat} {e : Ex4} (h : ExchE n e) : undoE (undoE e) = e := by
  obtain ⟨p, q, r, s⟩ := e
  obtain ⟨h1, h2, h3, h4⟩ := h
  simp only [undoE, Prod.mk.injEq]
  simp only at h1 h2 h3 h4
  exact ⟨trivial, by omega, by omega, trivial⟩
def undoL (t : List Ex4) : List Ex4 := t.reverse.map undoE
theorem undoL_len {t : List Ex4} : (undoL t).length = t.length := by simp [undoL]
theorem undoL_ok {n : Nat} {t : List Ex4} (h : ∀ e ∈ t, ExchE n e) : ∀ e ∈ undoL t, ExchE n e := fun e he => by
  obtain ⟨x, hx, rfl⟩ := List.mem_map.mp he
  exact undoE_ok (h x (List.mem_reverse.mp hx))
theorem undoL_undo {n : Nat} {t : List Ex4} (h : ∀ e ∈ t, ExchE n e) : undoL (undoL t) = t := by
  unfold undoL
  rw [← List.map_reverse, List.reverse_reverse, List.map_map]
  conv => rhs; rw [← List.map_id t]
  exact List.map_congr_left fun e he => undo_undo (h e he)
/-- the steps back, one by one -/
theorem undo_at {α : Type} {xs : List α} {t : List Ex4} (h : ∀ e ∈ t, ExchE xs.length e) : ∀ k, k ≤ t.length → runE (runE xs t) ((undoL t).take k) = runE xs (t.take (t.length - k))
  | 0, _ => by simp [runE]
  | k + 1, hk => by
    have ih := undo_at h k (by omega)
    have hl : k < (undoL t).length := by rw [undoL_len]; omega
    have hj : t.length - (k + 1) < t.length := by omega
    have e1 : (undoL t)[k] = undoE t[t.length - (k + 1)] := by
      simp only [undoL, List.getElem_map, List.getElem_reverse]
      congr 1
      simp only [show t.length - 1 - k = t.length - (k + 1) by omega]
    have e2 : runE xs (t.take (t.length - k)) = swapL (runE xs (t.take (t.length - (k + 1)))) t[t.length - (k + 1)].1 t[t.length - (k + 1)].2.1 t[t.length - (k + 1)].2.2.1 t[t.length - (k + 1)].2.2.2 := by
      rw [show t.length - k = (t.length - (k + 1)) + 1 by omega, List.take_succ_eq_append_getElem hj, runE_app]; rfl
    have hx := h _ (List.getElem_mem hj)
    have rl := runE_len (xs := xs) (t := t.take (t.length - (k + 1))) fun e he => h e (List.mem_of_mem_take he)
    rw [List.take_succ_eq_append_getElem hl, runE_app, ih, e2, e1]
    exact swap_back (by rw [rl]; exact hx)
theorem undo_all {α : Type} {xs : List α} {t : List Ex4} (h : ∀ e ∈ t, ExchE xs.length e) : runE (runE xs t) (undoL t) = xs := by
  have := undo_at h t.length (Nat.le_refl _)
  rw [List.take_of_length_le (by rw [undoL_len]; exact Nat.le_refl _), Nat.sub_self] at this
  exact this
theorem range_swap {n p q r s : Nat} (e : Exch n p q r s) : swapL (List.range n) p q r s = List.range p ++ (List.range' r (s - r) ++ (List.range' q (r - q) ++ (List.range' p (q - p) ++ List.range' s (n - s)))) := by
  obtain ⟨h1, h2, h3, h4⟩ := e
  have tk : ∀ a, a ≤ n → (List.range n).take a = List.range a := fun a ha => by rw [List.take_range]; congr 1; omega
  have md : ∀ a b, a ≤ b → b ≤ n → ((List.range n).drop a).take (b - a) = List.range' a (b - a) := fun a b hab hb => by
    apply List.ext_getElem
    · simp; omega
    · intro i h1 h2
      simp
  have de : (List.range n).drop s = List.range' s (n - s) := by
    apply List.ext_getElem
    · simp
    · intro i h1 h2
      simp
  unfold swapL
  rw [tk p (by omega), md r s (by omega) h4, md q r h2 (by omega), md p q (by omega) (by omega), de]
theorem swapL_range {α : Type} {xs : List α} {d : α} {p q r s : Nat} : swapL xs p q r s = (swapL (List.range xs.length) p q r s).map fun k => xs.getD k d := by
  conv => lhs; rw [show xs = (List.range xs.length).map fun k => xs.getD k d from by
    apply List.ext_getElem
    · simp
    · intro i h1 h2
      simp [List.getElem?_eq_getElem h1]]
  rw [swapL_map]
end DL.W
namespace DL
open PySem PySem.Spec PyProof.Rows L2
theorem rangeD_nats {lo n : Nat} : rangeD (lo : Int) n = nats (List.range' lo n) := by
  unfold rangeD nats
  apply List.ext_getElem
  · simp
  · intro i h1 h2
    simp
theorem rangeD0 {n : Nat} : rangeD 0 n = nats (List.range n) := by
  rw [List.range_eq_range']
  exact rangeD_nats (lo := 0)
theorem eqDL_refl : ∀ {xs : List D}, (∀ x ∈ xs, eqD x x = true) → eqDL xs xs = true
  | [], _ => by simp [eqDL]
  | x :: xs, h => by
    rw [eqDL, h x List.mem_cons_self, eqDL_refl fun y hy => h y (List.mem_cons_of_mem _ hy)]; rfl
theorem eqD_refl : ∀ (n : Nat) {d : D}, okN n d → eqD d d = true
  | n, .non, _ => by simp [eqD]
  | n, .bl _, _ => by simp [eqD]
  | n, .int _, _ => by simp [eqD]
  | n, .str _, _ => by simp [eqD]
  | 0, .tup _, h => by simp [okN] at h
  | 0, .lst _, h => by simp [okN] at h
  | n + 1, .tup xs, h => by
    rw [eqD]
    exact eqDL_refl fun x hx => eqD_refl n (h x hx)
  | n + 1, .lst xs, h => by
    rw [eqD]
    exact eqDL_refl fun x hx => eqD_refl n (h x hx)
  | n, .dk _ _, h => by cases n <;> simp [okN] at h
  | n, .dt _ _, h => by cases n <;> simp [okN] at h
  | n, .obj _ _ _, h => by cases n <;> simp [okN] at h
  | n, .ref _, h => by cases n <;> simp [okN] at h
  | n, .scr _, h => by cases n <;> simp [okN] at h
  | n, .wtp _, h => by cases n <;> simp [okN] at h
theorem swap_ne {ws : List Str} (G : GoodT ws) {p q r s : Nat} (e : W.Exch ws.length p q r s) : W.swapL ws p q r s ≠ ws := fun z => by
  have h := dist_one G e
  rw [z, dist_self G] at h
  cases h
theorem sum_len {ws : List Str} (h : ∀ w ∈ ws, goodW w) : (ws.map (·.length)).sum ≤ 8 * ws.length := by
  induction ws with
  | nil => simp
  | cons w r ih =>
    have := (h w List.mem_cons_self).2.1
    have := ih fun x hx => h x (List.mem_cons_of_mem _ hx)
    simp only [List.map_cons, List.sum_cons, List.length_cons]; omega
end DL
namespace DL
open PySem PySem.Spec PyProof.Rows L2
theorem atI_last {α : Type} {xs : List α} {v : α} (h : xs[xs.length - 1]? = some v) : atI xs (-1) = some v := by
  have h0 : xs.length - 1 < xs.length := (List.getElem?_eq_some_iff.mp h).1
  unfold atI ixN
  rw [if_neg (by decide), if_pos (by omega)]
  show xs[((-1 : Int) + xs.length).toNat]? = some v
  rw [show ((-1 : Int) + xs.length).toNat = xs.length - 1 by omega]
  exact h
end DL

/-! Plain laws: rows turned round. -/
namespace DL
open PySem PySem.Spec PyProof.Rows L2
def rotL (ws : List Str) (k : Nat) : List Str := ws.drop k ++ ws.take k
def rotW (ws : List Str) (w : Str) : List Str := rotL ws (ws.idxOf w)
theorem rotL_perm (ws : List Str) (k : Nat) : (rotL ws k).Perm ws := by
  unfold rotL
  exact List.perm_append_comm.trans (by rw [List.take_append_drop])
theorem rotL_len (ws : List Str) (k : Nat) : (rotL ws k).length = ws.length := (rotL_perm ws k).length_eq
theorem rotL_head {ws : List Str} {k : Nat} (h : k < ws.length) : (rotL ws k).getD 0 "" = ws[k] := by
  unfold rotL
  rw [List.drop_eq_getElem_cons h]; rfl
theorem rotL_back {ws : List Str} {k : Nat} (h : k ≤ ws.length) : rotL (rotL ws k) (ws.length - k) = ws := by
  have e : (ws.drop k).length = ws.length - k := List.length_drop
  unfold rotL
  rw [← e, List.drop_left, List.take_left, List.take_append_drop]
theorem rotL_one {ws : List Str} {k : Nat} (h : k < ws.length) : rotL (rotL ws k) 1 = rotL ws (k + 1) := by
  unfold rotL
  rw [List.drop_eq_getElem_cons h, List.cons_append, List.drop_succ_cons, List.drop_zero, List.take_succ_cons, List.take_zero, List.append_assoc, List.take_succ_eq_append_getElem h]
theorem rot_iff {ws vs : List Str} (G : GoodT ws) (p : vs.Perm ws) : (∃ k, k < ws.length ∧ rotL ws k = vs) ↔ rotW ws (vs.getD 0 "") = vs := by
  have h0 := G.some
  have l := p.length_eq
  have hm : vs.getD 0 "" ∈ ws := by
    rw [W.getD_lt (by omega)]
    exact p.mem_iff.mp (List.getElem_mem _)
  constructor
  · rintro ⟨k, hk, rfl⟩
    unfold rotW
    rw [rotL_head hk, G.nd.idxOf_getElem]
  · intro e
    exact ⟨_, List.idxOf_lt_length_of_mem hm, e⟩
theorem rot_symm {ws vs : List Str} (G : GoodT ws) (p : vs.Perm ws) : (∃ k, k < ws.length ∧ rotL ws k = vs) ↔ ∃ k, k < vs.length ∧ rotL vs k = ws := by
  have key : ∀ {ws vs : List Str}, 0 < ws.length → (∃ k, k < ws.length ∧ rotL ws k = vs) → ∃ k, k < vs.length ∧ rotL vs k = ws := by
    rintro ws vs h0 ⟨k, hk, rfl⟩
    by_cases z : k = 0
    · subst z
      have e : rotL ws 0 = ws := by simp [rotL]
      exact ⟨0, by rw [rotL_len]; omega, by rw [e, e]⟩
    · exact ⟨ws.length - k, by rw [rotL_len]; omega, rotL_back (by omega)⟩
  have h0 := G.some
  exact ⟨key h0, key (by rw [p.length_eq]; exact h0)⟩
def isRot (ws vs : List Str) : Bool := decide (rotW ws (vs.getD 0 "") = vs)
theorem isRot_symm {ws vs : List Str} (G : GoodT ws) (p : vs.Perm ws) : isRot vs ws = isRot ws vs := by
  unfold isRot
  rw [Bool.eq_iff_iff, decide_eq_true_eq, decide_eq_true_eq, ← rot_iff G p, ← rot_iff (G.perm p) p.symm]
  exact (rot_symm G p).symm
theorem isRot_self {ws : List Str} (G : GoodT ws) : isRot ws ws = true := by
  unfold isRot
  rw [decide_eq_true_eq, ← rot_iff G (.refl _)]
  exact ⟨0, G.some, by simp [rotL]⟩
theorem GoodT.rot {ws : List Str} (G : GoodT ws) (k : Nat) : GoodT (rotL ws k) := G.perm (rotL_perm ws k)
theorem at_head {vs : List Str} (h : 0 < vs.length) : atI (vs.map D.str) 0 = some (.str (vs.getD 0 "")) := by
  rw [W.getD_lt h]
  exact atI_map (n := 0) h
theorem head_mem {ws vs : List Str} (h : 0 < vs.length) (p : ws.Perm vs) : vs.getD 0 "" ∈ ws := by
  rw [W.getD_lt h]
  exact p.mem_iff.mpr (List.getElem_mem _)
theorem rot_cut {ws : List Str} {k : Nat} (h : k ≤ ws.length) : cutD (ws.map D.str) (some (k : Int)) none ++ cutD (ws.map D.str) none (some (k : Int)) = (rotL ws k).map .str := by
  rw [cut_map, cut_map, cut_end ws k h, cutD_take ws k h, ← List.map_append]; rfl
theorem showB_bls3 (b : Bool) : showB (.lst [.bl b, .bl b, .bl b]) = true := showB_of 200 (by decide) (by simp [fitsD, fitsL]) (by simp [bulkD, bulkL])
end DL

/-! Plain laws: rounds. The rings of two rounds, whatever things both are cut at. -/
namespace DL
open PySem
/-- what is behind x on the round, what is ahead of y -/
def nxW (ws : List Str) (x : Str) : Str := ws.getD (if ws.idxOf x + 1 < ws.length then ws.idxOf x + 1 else 0) ""
def pvW (vs : List Str) (y : Str) : Str := vs.getD (if 0 < vs.idxOf y then vs.idxOf y - 1 else vs.length - 1) ""
theorem gD {ws : List Str} {i : Nat} (hi : i < ws.length) : ws.getD i "" = ws[i] := by rw [List.getD_eq_getElem?_getD, List.getElem?_eq_getElem hi]; rfl
theorem idG {ws : List Str} (nd : ws.Nodup) {i : Nat} (hi : i < ws.length) : ws.idxOf (ws.getD i "") = i := by rw [gD hi, idxS nd hi]
theorem gI {ws : List Str} {x : Str} (h : x ∈ ws) : ws.idxOf x < ws.length ∧ ws.getD (ws.idxOf x) "" = x := by
  obtain ⟨hi, he⟩ := getS h
  exact ⟨hi, by rw [gD hi, he]⟩
theorem gM {ws : List Str} {i : Nat} (hi : i < ws.length) : ws.getD i "" ∈ ws := by rw [gD hi]; exact List.getElem_mem hi
theorem nx_mem {ws : List Str} (h0 : 0 < ws.length) (x : Str) : nxW ws x ∈ ws := gM (by split <;> omega)
theorem pv_mem {ws : List Str} (h0 : 0 < ws.length) {y : Str} (h : y ∈ ws) : pvW ws y ∈ ws := gM (by have := (gI h).1; split <;> omega)
theorem nx_idx {ws : List Str} (nd : ws.Nodup) {x : Str} (h : x ∈ ws) : ws.idxOf (nxW ws x) = if ws.idxOf x + 1 < ws.length then ws.idxOf x + 1 else 0 := by
  have := (gI h).1
  exact idG nd (by split <;> omega)
theorem pv_idx {ws : List Str} (nd : ws.Nodup) {y : Str} (h : y ∈ ws) : ws.idxOf (pvW ws y) = if 0 < ws.idxOf y then ws.idxOf y - 1 else ws.length - 1 := by
  have := (gI h).1
  exact idG nd (by split <;> omega)
theorem idx_eq {ws : List Str} {x y : Str} (hx : x ∈ ws) (hy : y ∈ ws) (e : ws.idxOf x = ws.idxOf y) : x = y := by
  rw [← (gI hx).2, ← (gI hy).2, e]
theorem nx_inj {ws : List Str} (nd : ws.Nodup) {x y : Str} (hx : x ∈ ws) (hy : y ∈ ws) (e : nxW ws x = nxW ws y) : x = y := by
  have e2 := congrArg ws.idxOf e
  rw [nx_idx nd hx, nx_idx nd hy] at e2
  have h1 := (gI hx).1
  have h2 := (gI hy).1
  refine idx_eq hx hy ?_
  split at e2 <;> split at e2 <;> omega
theorem pv_inj {ws : List Str} (nd : ws.Nodup) {x y : Str} (hx : x ∈ ws) (hy : y ∈ ws) (e : pvW ws x = pvW ws y) : x = y := by
  have e2 := congrArg ws.idxOf e
  rw [pv_idx nd hx, pv_idx nd hy] at e2
  have h1 := (gI hx).1
  have h2 := (gI hy).1
  refine idx_eq hx hy ?_
  split at e2 <;> split at e2 <;> omega
theorem rot_get {ws : List Str} {k i : Nat} (hk : k ≤ ws.length) (hi : i < ws.length) : (rotL ws k).getD i "" = ws.getD (if i + k < ws.length then i + k else i + k - ws.length) "" := by
  unfold rotL
  by_cases h : i + k < ws.length
  · rw [if_pos h, List.getD_eq_getElem?_getD, List.getElem?_append_left (by rw [List.length_drop]; omega), List.getElem?_drop, List.getD_eq_getElem?_getD, Nat.add_comm]
  · rw [if_neg h, List.getD_eq_getElem?_getD, List.getElem?_append_right (by rw [List.length_drop]; omega), List.length_drop, List.getElem?_take, if_pos (by omega), List.getD_eq_getElem?_getD, show i - (ws.length - k) = i + k - ws.length by omega]
theorem rot_nd {ws : List Str} (nd : ws.Nodup) (k : Nat) : (rotL ws k).Nodup := (List.Perm.nodup_iff (rotL_perm ws k)).mpr nd
theorem rot_idx {ws : List Str} (nd : ws.Nodup) {k : Nat} (hk : k ≤ ws.length) {x : Str} (h : x ∈ ws) : (rotL ws k).idxOf x < ws.length ∧ ws.idxOf x = if (rotL ws k).idxOf x + k < ws.length then (rotL ws k).idxOf x + k else (rotL ws k).idxOf x + k - ws.length := by
  have h1 := gI ((rotL_perm ws k).mem_iff.mpr h)
  rw [rotL_len] at h1
  refine ⟨h1.1, ?_⟩
  have e := rot_get hk h1.1
  rw [h1.2] at e
  have := congrArg ws.idxOf e
  rwa [idG nd (by split <;> omega)] at this
theorem nx_rot {ws : List Str} (nd : ws.Nodup) {k : Nat} (hk : k ≤ ws.length) {x : Str} (h : x ∈ ws) : nxW (rotL ws k) x = nxW ws x := by
  obtain ⟨h1, h2⟩ := rot_idx nd hk h
  unfold nxW
  rw [rotL_len, rot_get hk (by split <;> omega), h2]
  congr 1
  repeat' split
  all_goals omega
theorem pv_rot {ws : List Str} (nd : ws.Nodup) {k : Nat} (hk : k ≤ ws.length) {x : Str} (h : x ∈ ws) : pvW (rotL ws k) x = pvW ws x := by
  obtain ⟨h1, h2⟩ := rot_idx nd hk h
  unfold pvW
  rw [rotL_len, rot_get hk (by split <;> omega), h2]
  congr 1
  repeat' split
  all_goals omega
def psi (ws vs : List Str) (u : Nat) : Nat := if u = 0 then 0 else vs.idxOf (pvW vs (nxW ws (vs.getD (u - 1) ""))) + 1
theorem permN_psi {ws vs : List Str} (n1 : ws.Nodup) (n2 : vs.Nodup) (h0 : 0 < ws.length) (hp : ws.Perm vs) : W.PermN (ws.length + 1) (psi ws vs) := by
  have hl := hp.length_eq
  have mm : ∀ u, pvW vs (nxW ws (vs.getD (u - 1) "")) ∈ vs := fun u => pv_mem (by omega) (hp.mem_iff.mp (nx_mem h0 _))
  refine ⟨fun u hu => ?_, fun u w hu hw e => ?_⟩
  · unfold psi
    split
    · omega
    · have := (gI (mm u)).1; omega
  · unfold psi at e
    by_cases a : u = 0
    · by_cases b : w = 0
      · omega
      · rw [if_pos a, if_neg b] at e; omega
    · by_cases b : w = 0
      · rw [if_neg a, if_pos b] at e; omega
      · rw [if_neg a, if_neg b] at e
        have e1 := idx_eq (mm u) (mm w) (by omega)
        have u1 : vs.getD (u - 1) "" ∈ vs := gM (by omega)
        have w1 : vs.getD (w - 1) "" ∈ vs := gM (by omega)
        have e2 := pv_inj n2 (hp.mem_iff.mp (nx_mem h0 _)) (hp.mem_iff.mp (nx_mem h0 _)) e1
        have e3 := nx_inj n1 (hp.mem_iff.mpr u1) (hp.mem_iff.mpr w1) e2
        have e4 := congrArg vs.idxOf e3
        rw [idG n2 (by omega), idG n2 (by omega)] at e4
        omega
theorem cyc_rot {ws vs : List Str} (n1 : ws.Nodup) (n2 : vs.Nodup) (h0 : 0 < ws.length) (hp : ws.Perm vs) {j k : Nat} (hj : j ≤ ws.length) (hk : k ≤ ws.length) :
    W.cyc (ws.length + 1) (psi (rotL ws j) (rotL vs k)) = W.cyc (ws.length + 1) (psi ws vs) := by
  have hl := hp.length_eq
  have p1 := rotL_perm ws j
  have p2 := rotL_perm vs k
  have P := permN_psi n1 n2 h0 hp
  have P' := permN_psi (rot_nd n1 j) (rot_nd n2 k) (by rw [rotL_len]; exact h0) (p1.trans (hp.trans p2.symm))
  rw [rotL_len] at P'
  have Ps : W.PermN (ws.length + 1) (fun u => if u = 0 then 0 else (rotL vs k).idxOf (vs.getD (u - 1) "") + 1) := by
    refine ⟨fun u hu => ?_, fun u w hu hw e => ?_⟩
    · show (if u = 0 then 0 else _) < _
      split
      · omega
      · have := (gI (p2.mem_iff.mpr (gM (ws := vs) (i := u - 1) (by omega)))).1
        rw [rotL_len] at this; omega
    · by_cases a : u = 0
      · by_cases b : w = 0
        · omega
        · rw [if_pos a, if_neg b] at e; omega
      · by_cases b : w = 0
        · rw [if_neg a, if_pos b] at e; omega
        · rw [if_neg a, if_neg b] at e
          have e1 := idx_eq (p2.mem_iff.mpr (gM (ws := vs) (i := u - 1) (by omega))) (p2.mem_iff.mpr (gM (ws := vs) (i := w - 1) (by omega))) (by omega)
          have e4 := congrArg vs.idxOf e1
          rw [idG n2 (by omega), idG n2 (by omega)] at e4
          omega
  refine W.cyc_conj P P' Ps fun u hu => ?_
  by_cases a : u = 0
  · subst a; simp [psi]
  · have hx : vs.getD (u - 1) "" ∈ vs := gM (by omega)
    have hx2 := p2.mem_iff.mpr hx
    have hz : pvW vs (nxW ws (vs.getD (u - 1) "")) ∈ vs := pv_mem (by omega) (hp.mem_iff.mp (nx_mem h0 _))
    have e1 : (rotL vs k).getD ((rotL vs k).idxOf (vs.getD (u - 1) "") + 1 - 1) "" = vs.getD (u - 1) "" := by rw [Nat.add_sub_cancel]; exact (gI hx2).2
    have e2 : vs.getD (vs.idxOf (pvW vs (nxW ws (vs.getD (u - 1) ""))) + 1 - 1) "" = pvW vs (nxW ws (vs.getD (u - 1) "")) := by rw [Nat.add_sub_cancel]; exact (gI hz).2
    simp only [psi, if_neg a, if_neg (Nat.succ_ne_zero _)]
    rw [e1, e2, nx_rot n1 hj (hp.mem_iff.mpr hx), pv_rot n2 (by omega) (hp.mem_iff.mp (nx_mem h0 _))]
/-- the rings of the rows are one of the rounds more at most -/
theorem rings_psi {ws vs : List Str} (G1 : GoodT ws) (G2 : GoodT vs) (hp : ws.Perm vs) :
    W.nrings (numsOf ws vs) ≤ W.cyc (ws.length + 1) (psi ws vs) ∧ (ws.getD 0 "" = vs.getD 0 "" → W.nrings (numsOf ws vs) = W.cyc (ws.length + 1) (psi ws vs)) := by
  have hl := hp.length_eq
  have h0 := G1.some
  have nl : (numsOf ws vs).length = ws.length := numsOf_len
  have hP := numsOf_isP G1 G2 hp
  have P := permN_psi G1.nd G2.nd h0 hp
  rw [W.nrings_phi hP, nl]
  have pin : ∀ i, i < ws.length → (W.padN (numsOf ws vs)).getD (i + 1) 0 = vs.idxOf (ws.getD i "") + 1 := fun i hi => by
    rw [W.pad_in (by rw [nl]; exact hi), gD hi]; simp [numsOf]
  have pl : (W.padN (numsOf ws vs)).getD (ws.length + 1) 0 = ws.length + 1 := by
    have := W.pad_last (ns := numsOf ws vs); rw [nl] at this; exact this
  have pix : ∀ u, 1 ≤ u → u ≤ ws.length → (W.padN (numsOf ws vs)).idxOf u = ws.idxOf (vs.getD (u - 1) "") + 1 := fun u u1 u2 => by
    have mem : vs.getD (u - 1) "" ∈ ws := hp.mem_iff.mpr (gM (by omega))
    obtain ⟨a, b⟩ := gI mem
    have e := pin _ a
    rw [b, idG G2.nd (by omega), show u - 1 + 1 = u by omega] at e
    have := W.pad_idx hP (i := ws.idxOf (vs.getD (u - 1) "") + 1) (by omega)
    rw [e] at this; exact this
  -- the two, place by place
  have ph0 : W.phi (numsOf ws vs) 0 = vs.idxOf (ws.getD 0 "") := by
    unfold W.phi
    rw [show (W.padN (numsOf ws vs)).idxOf 0 = 0 by simp [W.padN], pin 0 h0, Nat.add_sub_cancel]
  have phI : ∀ u, 1 ≤ u → u ≤ ws.length → W.phi (numsOf ws vs) u = if ws.idxOf (vs.getD (u - 1) "") + 1 < ws.length then vs.idxOf (nxW ws (vs.getD (u - 1) "")) else ws.length := fun u u1 u2 => by
    unfold W.phi nxW
    rw [pix u u1 u2]
    split
    · rename_i h; rw [pin _ h, Nat.add_sub_cancel]
    · rename_i h
      have := (gI (ws := ws) (x := vs.getD (u - 1) "") (hp.mem_iff.mpr (gM (by omega)))).1
      rw [show ws.idxOf (vs.getD (u - 1) "") + 1 + 1 = ws.length + 1 by omega, pl, Nat.add_sub_cancel]
  have psI : ∀ u, 1 ≤ u → u ≤ ws.length → psi ws vs u = if 0 < vs.idxOf (nxW ws (vs.getD (u - 1) "")) then vs.idxOf (nxW ws (vs.getD (u - 1) "")) else ws.length := fun u u1 u2 => by
    unfold psi
    rw [if_neg (by omega), pv_idx G2.nd (hp.mem_iff.mp (nx_mem h0 _))]
    split <;> omega
  have vz : ∀ {x}, x ∈ vs → (vs.idxOf x = 0 ↔ x = vs.getD 0 "") := fun {x} hx => by
    constructor
    · intro e; have := (gI hx).2; rw [e] at this; exact this.symm
    · intro e; rw [e]; exact idG G2.nd (by omega)
  by_cases hm : ws.getD 0 "" = vs.getD 0 ""
  · have : W.cyc (ws.length + 1) (W.phi (numsOf ws vs)) = W.cyc (ws.length + 1) (psi ws vs) := by
      refine W.cyc_congr fun u hu => ?_
      by_cases a : u = 0
      · subst a; rw [ph0, hm, idG G2.nd (by omega)]; simp [psi]
      · rw [phI u (by omega) (by omega), psI u (by omega) (by omega)]
        have hx : vs.getD (u - 1) "" ∈ ws := hp.mem_iff.mpr (gM (by omega))
        have hi := (gI hx).1
        have hn := nx_idx G1.nd hx
        have hnv : nxW ws (vs.getD (u - 1) "") ∈ vs := hp.mem_iff.mp (nx_mem h0 _)
        by_cases b : ws.idxOf (vs.getD (u - 1) "") + 1 < ws.length
        · rw [if_pos b] at hn ⊢
          have : vs.idxOf (nxW ws (vs.getD (u - 1) "")) ≠ 0 := fun z => by
            have z2 := (vz hnv).mp z
            rw [z2, ← hm, idG G1.nd h0] at hn; omega
          rw [if_pos (by omega)]
        · rw [if_neg b] at hn ⊢
          have : vs.idxOf (nxW ws (vs.getD (u - 1) "")) = 0 := by
            refine (vz hnv).mpr ?_
            rw [← hm, ← (gI (nx_mem h0 (vs.getD (u - 1) ""))).2, hn]
          rw [if_neg (by omega)]
    exact ⟨Nat.le_of_eq this, fun _ => this⟩
  · refine ⟨?_, fun z => absurd z hm⟩
    -- the last thing, the thing ahead of the goal's first one
    have hv0 : vs.getD 0 "" ∈ ws := hp.mem_iff.mpr (gM (by omega))
    obtain ⟨i0, hi0e⟩ : ∃ i, i = ws.idxOf (vs.getD 0 "") := ⟨_, rfl⟩
    have hi0 : i0 < ws.length := by rw [hi0e]; exact (gI hv0).1
    have hw0 : ws.getD i0 "" = vs.getD 0 "" := by rw [hi0e]; exact (gI hv0).2
    have i0p : 0 < i0 := by
      rcases Nat.eq_zero_or_pos i0 with z | z
      · rw [z] at hw0; exact absurd hw0 hm
      · exact z
    have mL : ws.getD (ws.length - 1) "" ∈ vs := hp.mem_iff.mp (gM (by omega))
    have mY : ws.getD (i0 - 1) "" ∈ vs := hp.mem_iff.mp (gM (by omega))
    have gL := gI mL
    have gY := gI mY
    obtain ⟨l, hle⟩ : ∃ l, l = vs.idxOf (ws.getD (ws.length - 1) "") + 1 := ⟨_, rfl⟩
    obtain ⟨y, hye⟩ : ∃ y, y = vs.idxOf (ws.getD (i0 - 1) "") + 1 := ⟨_, rfl⟩
    have l1 : vs.getD (l - 1) "" = ws.getD (ws.length - 1) "" := by rw [hle, Nat.add_sub_cancel]; exact gL.2
    have y1 : vs.getD (y - 1) "" = ws.getD (i0 - 1) "" := by rw [hye, Nat.add_sub_cancel]; exact gY.2
    have lI : ws.idxOf (ws.getD (ws.length - 1) "") = ws.length - 1 := idG G1.nd (by omega)
    have yI : ws.idxOf (ws.getD (i0 - 1) "") = i0 - 1 := idG G1.nd (by omega)
    have ly : l ≠ y := fun z => by
      have : ws.getD (ws.length - 1) "" = ws.getD (i0 - 1) "" := by rw [← l1, ← y1, z]
      have := congrArg ws.idxOf this
      rw [lI, yI] at this; omega
    have nL : nxW ws (ws.getD (ws.length - 1) "") = ws.getD 0 "" := by unfold nxW; rw [lI, if_neg (by omega)]
    have nY : nxW ws (ws.getD (i0 - 1) "") = vs.getD 0 "" := by unfold nxW; rw [yI, if_pos (by omega), show i0 - 1 + 1 = i0 by omega, hw0]
    have m0p : 0 < vs.idxOf (ws.getD 0 "") := by
      rcases Nat.eq_zero_or_pos (vs.idxOf (ws.getD 0 "")) with z | z
      · exact absurd ((vz (hp.mem_iff.mp (gM h0))).mp z) hm
      · exact z
    have v00 : vs.idxOf (vs.getD 0 "") = 0 := idG G2.nd (by omega)
    have sl : psi ws vs l = vs.idxOf (ws.getD 0 "") := by rw [psI l (by omega) (by omega), l1, nL, if_pos m0p]
    have sy : psi ws vs y = ws.length := by rw [psI y (by omega) (by omega), y1, nY, v00, if_neg (by omega)]
    have s0 : psi ws vs 0 = 0 := by simp [psi]
    have P1 := P.sw (a := 0) (c := l) (by omega) (by omega)
    have e1 : W.cyc (ws.length + 1) (psi ws vs) = W.cyc (ws.length + 1) (W.sw (psi ws vs) 0 l) + 1 := by
      rw [← W.sw_fix P1 (a := 0) (c := l) (by omega) (by omega) (by omega) (by unfold W.sw; rw [if_neg (by omega), if_pos rfl, s0])]
      refine W.cyc_congr fun u hu => ?_
      unfold W.sw
      by_cases a : u = 0
      · subst a; rw [if_pos rfl, if_neg (by omega), if_pos rfl]
      · by_cases b : u = l
        · subst b; rw [if_neg a, if_pos rfl, if_pos rfl]
        · simp [a, b]
    have e2 := W.sw_one P1 (a := l) (c := y) (by omega) (by omega) ly
    have e3 : W.cyc (ws.length + 1) (W.phi (numsOf ws vs)) = W.cyc (ws.length + 1) (W.sw (W.sw (psi ws vs) 0 l) l y) := by
      refine W.cyc_congr fun u hu => ?_
      by_cases a : u = 0
      · subst a
        unfold W.sw
        rw [ph0, if_neg (by omega), if_neg (by omega), if_pos rfl, sl]
      · rw [phI u (by omega) (by omega)]
        have hx : vs.getD (u - 1) "" ∈ ws := hp.mem_iff.mpr (gM (by omega))
        have hi := (gI hx).1
        by_cases b : u = l
        · subst b
          unfold W.sw
          rw [l1, lI, if_neg (show ¬ ws.length - 1 + 1 < ws.length by omega), if_pos rfl, if_neg (show ¬ y = 0 by omega), if_neg (fun z => ly z.symm), sy]
        · by_cases c : u = y
          · subst c
            unfold W.sw
            rw [y1, yI, if_pos (show i0 - 1 + 1 < ws.length by omega), nY, v00, if_neg b, if_pos rfl, if_neg (show ¬ l = 0 by omega), if_pos rfl, s0]
          · unfold W.sw
            rw [if_neg b, if_neg c, if_neg a, if_neg b, psI u (by omega) (by omega)]
            have nlast : ws.idxOf (vs.getD (u - 1) "") + 1 < ws.length := by
              rcases Nat.lt_or_ge (ws.idxOf (vs.getD (u - 1) "") + 1) ws.length with z | z
              · exact z
              · exfalso
                apply b
                have : vs.getD (u - 1) "" = ws.getD (ws.length - 1) "" := by rw [← (gI hx).2, show ws.idxOf (vs.getD (u - 1) "") = ws.length - 1 by omega]
                rw [hle, ← this, idG G2.nd (by omega)]; omega
            rw [if_pos nlast]
            have hn := nx_idx G1.nd hx
            rw [if_pos nlast] at hn
            have : vs.idxOf (nxW ws (vs.getD (u - 1) "")) ≠ 0 := fun z => by
              have z2 := (vz (hp.mem_iff.mp (nx_mem h0 _))).mp z
              rw [z2, ← hi0e] at hn
              apply c
              have : vs.getD (u - 1) "" = ws.getD (i0 - 1) "" := by rw [← (gI hx).2, show ws.idxOf (vs.getD (u - 1) "") = i0 - 1 by omega]
              rw [hye, ← this, idG G2.nd (by omega)]; omega
            rw [if_pos (by omega)]
    rw [e3]; omega
/-- the least distance of two rounds -/
def rdist (ws vs : List Str) : Nat := (ws.length + 1 - W.cyc (ws.length + 1) (psi ws vs)) / 2
theorem rdist_le {ws vs : List Str} (G1 : GoodT ws) (G2 : GoodT vs) (hp : ws.Perm vs) : rdist ws vs ≤ dist ws vs := by
  have h := (rings_psi G1 G2 hp).1
  have nl : (numsOf ws vs).length = ws.length := numsOf_len
  unfold rdist dist W.far
  rw [nl]
  exact Nat.div_le_div_right (by omega)
theorem rdist_eq {ws vs : List Str} (G1 : GoodT ws) (G2 : GoodT vs) (hp : ws.Perm vs) (e : ws.getD 0 "" = vs.getD 0 "") : dist ws vs = rdist ws vs := by
  have h := (rings_psi G1 G2 hp).2 e
  have nl : (numsOf ws vs).length = ws.length := numsOf_len
  unfold rdist dist W.far
  rw [nl, h]
theorem rdist_rot {ws vs : List Str} (G1 : GoodT ws) (G2 : GoodT vs) (hp : ws.Perm vs) {j k : Nat} (hj : j ≤ ws.length) (hk : k ≤ ws.length) : rdist (rotL ws j) (rotL vs k) = rdist ws vs := by
  unfold rdist
  rw [rotL_len, cyc_rot G1.nd G2.nd G1.some hp hj hk]
/-- at whatever thing both are cut -/
theorem rdist_at {ws vs : List Str} (G1 : GoodT ws) (G2 : GoodT vs) (hp : ws.Perm vs) {a : Str} (h : a ∈ ws) : dist (rotW ws a) (rotW vs a) = rdist ws vs := by
  have hl := hp.length_eq
  have h2 := hp.mem_iff.mp h
  have i1 := gI h
  have i2 := gI h2
  unfold rotW
  rw [rdist_eq (G1.rot _) (G2.rot _) ((rotL_perm _ _).trans (hp.trans (rotL_perm _ _).symm)), rdist_rot G1 G2 hp (by omega) (by omega)]
  rw [rotL_head i1.1, rotL_head i2.1, ← gD i1.1, ← gD i2.1, i1.2, i2.2]
theorem rdist_low {ws vs : List Str} (G1 : GoodT ws) (G2 : GoodT vs) (hp : ws.Perm vs) {a b : Str} (h : a ∈ ws) (hb : b ∈ vs) : rdist ws vs ≤ dist (rotW ws a) (rotW vs b) := by
  have hl := hp.length_eq
  have i1 := gI h
  have i2 := gI hb
  have := rdist_le (G1.rot (ws.idxOf a)) (G2.rot (vs.idxOf b)) ((rotL_perm _ _).trans (hp.trans (rotL_perm _ _).symm))
  rw [rdist_rot G1 G2 hp (by omega) (by omega)] at this
  exact this
end DL

namespace DL
open PySem PySem.Spec PyProof.Rows L2
def top (i : Nat) : Stmt := PySem.Challenge.pw_twostretches_k16_whole_round_distances.main.body.getD i (.Pass ⟨0, 0, 0, 0⟩)
abbrev s_law_take : Stmt := top 35
abbrev N_law_take : List Str := ["_law_bag_here", "_law_many", "_law_seed", "_law_high", "_law_digit"]
theorem S_law_take : ScOk N_law_take [0, 1, 2, 3, 4] ["int", "divmod"] (defScope s_law_take) := scOk_of (by decide +kernel)
theorem L_law_take : StOk N_law_take [0, 1, 2, 3, 4] (defScope s_law_take) (fun _ => true) := stOk_of (by decide +kernel)
theorem F_law_take : FnScope N_law_take ["_law_bag_here", "_law_many"] (defScope s_law_take) := ⟨by decide +kernel, by decide +kernel, by decide +kernel, by decide +kernel, by decide +kernel, by decide +kernel, by decide +kernel⟩
abbrev s_law_mixed : Stmt := top 38
abbrev N_law_mixed : List Str := ["_law_bag_here", "_law_things_here", "_law_left_here", "_law_found", "_law_k"]
theorem S_law_mixed : ScOk N_law_mixed [0, 1, 2, 3, 4] ["list", "range", "len", "_law_take", "tuple"] (defScope s_law_mixed) := scOk_of (by decide +kernel)
theorem L_law_mixed : StOk N_law_mixed [0, 1, 2, 3, 4] (defScope s_law_mixed) (fun _ => true) := stOk_of (by decide +kernel)
theorem F_law_mixed : FnScope N_law_mixed ["_law_bag_here", "_law_things_here"] (defScope s_law_mixed) := ⟨by decide +kernel, by decide +kernel, by decide +kernel, by decide +kernel, by decide +kernel, by decide +kernel, by decide +kernel⟩
abbrev s_law_line : Stmt := top 37
abbrev N_law_line : List Str := ["_law_bag_here", "_law_size", "_law_menu", "_law_found", "_law_k", "_law_head"]
theorem S_law_line : ScOk N_law_line [0, 1, 2, 3, 4, 5] ["range", "_law_take", "len", "tuple"] (defScope s_law_line) := scOk_of (by decide +kernel)
theorem L_law_line : StOk N_law_line [0, 1, 2, 3, 4, 5] (defScope s_law_line) (fun _ => true) := stOk_of (by decide +kernel)
theorem F_law_line : FnScope N_law_line ["_law_bag_here", "_law_size"] (defScope s_law_line) := ⟨by decide +kernel, by decide +kernel, by decide +kernel, by decide +kernel, by decide +kernel, by decide +kernel, by decide +kernel⟩
abbrev s_law_of : Stmt := top 36
abbrev N_law_of : List Str := ["_law_bag_here", "_law_some_here"]
theorem S_law_of : ScOk N_law_of [0, 1] ["_law_take", "len"] (defScope s_law_of) := scOk_of (by decide +kernel)
theorem L_law_of : StOk N_law_of [0, 1] (defScope s_law_of) (fun _ => true) := stOk_of (by decide +kernel)
theorem F_law_of : FnScope N_law_of ["_law_bag_here", "_law_some_here"] (defScope s_law_of) := ⟨by decide +kernel, by decide +kernel, by decide +kernel, by decide +kernel, by decide +kernel, by decide +kernel, by decide +kernel⟩
abbrev s_law_from : Stmt := top 40
abbrev N_law_from : List Str := ["_law_line_here", "_law_head", "_law_k"]
theorem S_law_from : ScOk N_law_from [0, 1, 2] [] (defScope s_law_from) := scOk_of (by decide +kernel)
theorem L_law_from : StOk N_law_from [0, 1, 2] (defScope s_law_from) (fun _ => true) := stOk_of (by decide +kernel)
theorem F_law_from : FnScope N_law_from ["_law_line_here", "_law_head"] (defScope s_law_from) := ⟨by decide +kernel, by decide +kernel, by decide +kernel, by decide +kernel, by decide +kernel, by decide +kernel, by decide +kernel⟩
abbrev s_is_name : Stmt := top 10
abbrev N_is_name : List Str := ["value", "sign"]
theorem S_is_name : ScOk N_is_name [0] ["isinstance", "str", "len", "all"] (defScope s_is_name) := scOk_of (by decide +kernel)
theorem L_is_name : StOk N_is_name [0] (defScope s_is_name) (fun _ => true) := stOk_of (by decide +kernel)
theorem F_is_name : FnScope N_is_name ["value"] (defScope s_is_name) := ⟨by decide +kernel, by decide +kernel, by decide +kernel, by decide +kernel, by decide +kernel, by decide +kernel, by decide +kernel⟩
abbrev s_check_things : Stmt := top 14
abbrev N_check_things : List Str := ["things", "index", "thing"]
theorem S_check_things : ScOk N_check_things [0, 1, 2] ["isinstance", "tuple", "InvalidThings", "enumerate", "MOST_THINGS", "is_name"] (defScope s_check_things) := scOk_of (by decide +kernel)
theorem L_check_things : StOk N_check_things [0, 1, 2] (defScope s_check_things) (fun _ => true) := stOk_of (by decide +kernel)
theorem F_check_things : FnScope N_check_things ["things"] (defScope s_check_things) := ⟨by decide +kernel, by decide +kernel, by decide +kernel, by decide +kernel, by decide +kernel, by decide +kernel, by decide +kernel⟩
abbrev s_Row_init : Stmt := inClass (top 16) 0
abbrev N_Row_init : List Str := ["self", "things"]
theorem S_Row_init : ScOk N_Row_init [0, 1] ["check_things"] (defScope s_Row_init) := scOk_of (by decide +kernel)
theorem L_Row_init : StOk N_Row_init [0, 1] (defScope s_Row_init) (fun _ => true) := stOk_of (by decide +kernel)
theorem F_Row_init : FnScope N_Row_init ["self", "things"] (defScope s_Row_init) := ⟨by decide +kernel, by decide +kernel, by decide +kernel, by decide +kernel, by decide +kernel, by decide +kernel, by decide +kernel⟩
abbrev s_law_far : Stmt := top 39
abbrev N_law_far : List Str := ["_law_line_here", "_law_aim", "_law_right_here", "_law_behind", "_law_k", "_law_ahead", "_law_known_here", "_law_many_rings", "_law_gap", "_law_here", "_law_turn"]
theorem S_law_far : ScOk N_law_far [0, 1, 2, 3, 4, 5, 6, 7, 8, 9, 10] ["list", "range", "len", "dict", "int"] (defScope s_law_far) := scOk_of (by decide +kernel)
theorem L_law_far : StOk N_law_far [0, 1, 2, 3, 4, 5, 6, 7, 8, 9, 10] (defScope s_law_far) (fun _ => true) := stOk_of (by decide +kernel)
theorem F_law_far : FnScope N_law_far ["_law_line_here", "_law_aim"] (defScope s_law_far) := ⟨by decide +kernel, by decide +kernel, by decide +kernel, by decide +kernel, by decide +kernel, by decide +kernel, by decide +kernel⟩
abbrev s_check_row : Stmt := top 17
abbrev N_check_row : List Str := ["value"]
theorem S_check_row : ScOk N_check_row [0] ["isinstance", "Row", "NotARow"] (defScope s_check_row) := scOk_of (by decide +kernel)
theorem L_check_row : StOk N_check_row [0] (defScope s_check_row) (fun _ => true) := stOk_of (by decide +kernel)
theorem F_check_row : FnScope N_check_row ["value"] (defScope s_check_row) := ⟨by decide +kernel, by decide +kernel, by decide +kernel, by decide +kernel, by decide +kernel, by decide +kernel, by decide +kernel⟩
abbrev s_Row_is_kin : Stmt := inClass (top 16) 9
abbrev N_Row_is_kin : List Str := ["self", "other"]
theorem S_Row_is_kin : ScOk N_Row_is_kin [0, 1] ["check_row", "sorted"] (defScope s_Row_is_kin) := scOk_of (by decide +kernel)
theorem L_Row_is_kin : StOk N_Row_is_kin [0, 1] (defScope s_Row_is_kin) (fun _ => true) := stOk_of (by decide +kernel)
theorem F_Row_is_kin : FnScope N_Row_is_kin ["self", "other"] (defScope s_Row_is_kin) := ⟨by decide +kernel, by decide +kernel, by decide +kernel, by decide +kernel, by decide +kernel, by decide +kernel, by decide +kernel⟩
abbrev s_check_kin : Stmt := top 18
abbrev N_check_kin : List Str := ["one", "other"]
theorem S_check_kin : ScOk N_check_kin [0, 1] ["OtherThings"] (defScope s_check_kin) := scOk_of (by decide +kernel)
theorem L_check_kin : StOk N_check_kin [0, 1] (defScope s_check_kin) (fun _ => true) := stOk_of (by decide +kernel)
theorem F_check_kin : FnScope N_check_kin ["one", "other"] (defScope s_check_kin) := ⟨by decide +kernel, by decide +kernel, by decide +kernel, by decide +kernel, by decide +kernel, by decide +kernel, by decide +kernel⟩
abbrev s_check_both : Stmt := top 26
abbrev N_check_both : List Str := ["row", "goal"]
theorem S_check_both : ScOk N_check_both [0, 1] ["check_row", "check_kin"] (defScope s_check_both) := scOk_of (by decide +kernel)
theorem L_check_both : StOk N_check_both [0, 1] (defScope s_check_both) (fun _ => true) := stOk_of (by decide +kernel)
theorem F_check_both : FnScope N_check_both ["row", "goal"] (defScope s_check_both) := ⟨by decide +kernel, by decide +kernel, by decide +kernel, by decide +kernel, by decide +kernel, by decide +kernel, by decide +kernel⟩
abbrev s_Row_things : Stmt := inClass (top 16) 2
abbrev N_Row_things : List Str := ["self"]
theorem S_Row_things : ScOk N_Row_things [0] [] (defScope s_Row_things) := scOk_of (by decide +kernel)
theorem L_Row_things : StOk N_Row_things [0] (defScope s_Row_things) (fun _ => true) := stOk_of (by decide +kernel)
theorem F_Row_things : FnScope N_Row_things ["self"] (defScope s_Row_things) := ⟨by decide +kernel, by decide +kernel, by decide +kernel, by decide +kernel, by decide +kernel, by decide +kernel, by decide +kernel⟩
abbrev s_with_ends : Stmt := top 21
abbrev N_with_ends : List Str := ["numbers"]
theorem S_with_ends : ScOk N_with_ends [0] ["len"] (defScope s_with_ends) := scOk_of (by decide +kernel)
theorem L_with_ends : StOk N_with_ends [0] (defScope s_with_ends) (fun _ => true) := stOk_of (by decide +kernel)
theorem F_with_ends : FnScope N_with_ends ["numbers"] (defScope s_with_ends) := ⟨by decide +kernel, by decide +kernel, by decide +kernel, by decide +kernel, by decide +kernel, by decide +kernel, by decide +kernel⟩
abbrev s_leads_of : Stmt := top 22
abbrev N_leads_of : List Str := ["numbers", "padded", "behind", "gap", "number"]
theorem S_leads_of : ScOk N_leads_of [0, 1, 2] ["with_ends", "enumerate"] (defScope s_leads_of) := scOk_of (by decide +kernel)
theorem L_leads_of : StOk N_leads_of [0, 1, 2] (defScope s_leads_of) (fun _ => true) := stOk_of (by decide +kernel)
theorem F_leads_of : FnScope N_leads_of ["numbers"] (defScope s_leads_of) := ⟨by decide +kernel, by decide +kernel, by decide +kernel, by decide +kernel, by decide +kernel, by decide +kernel, by decide +kernel⟩
abbrev s_ring_from : Stmt := top 23
abbrev N_ring_from : List Str := ["leads", "gap", "found", "here"]
theorem S_ring_from : ScOk N_ring_from [0, 1, 2, 3] [] (defScope s_ring_from) := scOk_of (by decide +kernel)
theorem L_ring_from : StOk N_ring_from [0, 1, 2, 3] (defScope s_ring_from) (fun _ => true) := stOk_of (by decide +kernel)
theorem F_ring_from : FnScope N_ring_from ["leads", "gap"] (defScope s_ring_from) := ⟨by decide +kernel, by decide +kernel, by decide +kernel, by decide +kernel, by decide +kernel, by decide +kernel, by decide +kernel⟩
abbrev s_rings_by : Stmt := top 24
abbrev N_rings_by : List Str := ["numbers", "leads", "found", "known", "gap", "ring", "each"]
theorem S_rings_by : ScOk N_rings_by [0, 1, 2, 3, 4, 5] ["leads_of", "range", "len", "ring_from"] (defScope s_rings_by) := scOk_of (by decide +kernel)
theorem L_rings_by : StOk N_rings_by [0, 1, 2, 3, 4, 5] (defScope s_rings_by) (fun _ => true) := stOk_of (by decide +kernel)
theorem F_rings_by : FnScope N_rings_by ["numbers"] (defScope s_rings_by) := ⟨by decide +kernel, by decide +kernel, by decide +kernel, by decide +kernel, by decide +kernel, by decide +kernel, by decide +kernel⟩
abbrev s_distance_by : Stmt := top 25
abbrev N_distance_by : List Str := ["numbers"]
theorem S_distance_by : ScOk N_distance_by [0] ["len", "rings_by"] (defScope s_distance_by) := scOk_of (by decide +kernel)
theorem L_distance_by : StOk N_distance_by [0] (defScope s_distance_by) (fun _ => true) := stOk_of (by decide +kernel)
theorem F_distance_by : FnScope N_distance_by ["numbers"] (defScope s_distance_by) := ⟨by decide +kernel, by decide +kernel, by decide +kernel, by decide +kernel, by decide +kernel, by decide +kernel, by decide +kernel⟩
abbrev s_numbers_of : Stmt := top 20
abbrev N_numbers_of : List Str := ["things", "target", "thing"]
theorem S_numbers_of : ScOk N_numbers_of [0, 1] [] (defScope s_numbers_of) := scOk_of (by decide +kernel)
theorem L_numbers_of : StOk N_numbers_of [0, 1] (defScope s_numbers_of) (fun _ => true) := stOk_of (by decide +kernel)
theorem F_numbers_of : FnScope N_numbers_of ["things", "target"] (defScope s_numbers_of) := ⟨by decide +kernel, by decide +kernel, by decide +kernel, by decide +kernel, by decide +kernel, by decide +kernel, by decide +kernel⟩
abbrev s_turned_to : Stmt := top 30
abbrev N_turned_to : List Str := ["things", "head", "spot"]
theorem S_turned_to : ScOk N_turned_to [0, 1, 2] [] (defScope s_turned_to) := scOk_of (by decide +kernel)
theorem L_turned_to : StOk N_turned_to [0, 1, 2] (defScope s_turned_to) (fun _ => true) := stOk_of (by decide +kernel)
theorem F_turned_to : FnScope N_turned_to ["things", "head"] (defScope s_turned_to) := ⟨by decide +kernel, by decide +kernel, by decide +kernel, by decide +kernel, by decide +kernel, by decide +kernel, by decide +kernel⟩
abbrev s_round_distance : Stmt := top 31
abbrev N_round_distance : List Str := ["row", "goal", "head"]
theorem S_round_distance : ScOk N_round_distance [0, 1, 2] ["check_both", "distance_by", "numbers_of", "turned_to"] (defScope s_round_distance) := scOk_of (by decide +kernel)
theorem L_round_distance : StOk N_round_distance [0, 1, 2] (defScope s_round_distance) (fun _ => true) := stOk_of (by decide +kernel)
theorem F_round_distance : FnScope N_round_distance ["row", "goal"] (defScope s_round_distance) := ⟨by decide +kernel, by decide +kernel, by decide +kernel, by decide +kernel, by decide +kernel, by decide +kernel, by decide +kernel⟩
abbrev s_numbers_for : Stmt := top 27
abbrev N_numbers_for : List Str := ["row", "goal"]
theorem S_numbers_for : ScOk N_numbers_for [0, 1] ["check_both", "numbers_of"] (defScope s_numbers_for) := scOk_of (by decide +kernel)
theorem L_numbers_for : StOk N_numbers_for [0, 1] (defScope s_numbers_for) (fun _ => true) := stOk_of (by decide +kernel)
theorem F_numbers_for : FnScope N_numbers_for ["row", "goal"] (defScope s_numbers_for) := ⟨by decide +kernel, by decide +kernel, by decide +kernel, by decide +kernel, by decide +kernel, by decide +kernel, by decide +kernel⟩
abbrev s_distance : Stmt := top 28
abbrev N_distance : List Str := ["row", "goal"]
theorem S_distance : ScOk N_distance [0, 1] ["distance_by", "numbers_for"] (defScope s_distance) := scOk_of (by decide +kernel)
theorem L_distance : StOk N_distance [0, 1] (defScope s_distance) (fun _ => true) := stOk_of (by decide +kernel)
theorem F_distance : FnScope N_distance ["row", "goal"] (defScope s_distance) := ⟨by decide +kernel, by decide +kernel, by decide +kernel, by decide +kernel, by decide +kernel, by decide +kernel, by decide +kernel⟩
abbrev s_same_round : Stmt := top 32
abbrev N_same_round : List Str := ["one", "other"]
theorem S_same_round : ScOk N_same_round [0, 1] ["check_both", "turned_to"] (defScope s_same_round) := scOk_of (by decide +kernel)
theorem L_same_round : StOk N_same_round [0, 1] (defScope s_same_round) (fun _ => true) := stOk_of (by decide +kernel)
theorem F_same_round : FnScope N_same_round ["one", "other"] (defScope s_same_round) := ⟨by decide +kernel, by decide +kernel, by decide +kernel, by decide +kernel, by decide +kernel, by decide +kernel, by decide +kernel⟩
abbrev s_law_right : Stmt := top 41
abbrev N_law_right : List Str := ["_law_bag_here", "_law_turn", "_law_line_here", "_law_aim", "_law_found", "_law_head", "_law_due", "_law_told_here", "_law_moved_here", "_law_mine", "_law_mate", "_law_mate_head"]
theorem S_law_right : ScOk N_law_right [0, 1, 2, 3, 9, 10, 4, 5, 6, 7, 8] ["range", "_law_mixed", "_law_line", "_law_of", "_law_take", "_law_from", "Row", "min", "round_distance", "_law_far", "distance", "same_round"] (defScope s_law_right) := scOk_of (by decide +kernel)
theorem L_law_right : StOk N_law_right [0, 1, 2, 3, 9, 10, 4, 5, 6, 7, 8] (defScope s_law_right) (fun _ => true) := stOk_of (by decide +kernel)
theorem F_law_right : FnScope N_law_right ["_law_bag_here"] (defScope s_law_right) := ⟨by decide +kernel, by decide +kernel, by decide +kernel, by decide +kernel, by decide +kernel, by decide +kernel, by decide +kernel⟩
abbrev s_law_bag : Stmt := top 34
abbrev N_law_bag : List Str := ["_law_script", "_law_spot", "_law_cell", "_law_part"]
theorem S_law_bag : ScOk N_law_bag [0, 1, 2, 3] ["len", "int", "abs"] (defScope s_law_bag) := scOk_of (by decide +kernel)
theorem L_law_bag : StOk N_law_bag [0, 1, 2, 3] (defScope s_law_bag) (fun _ => true) := stOk_of (by decide +kernel)
theorem F_law_bag : FnScope N_law_bag ["_law_script", "_law_spot"] (defScope s_law_bag) := ⟨by decide +kernel, by decide +kernel, by decide +kernel, by decide +kernel, by decide +kernel, by decide +kernel, by decide +kernel⟩
abbrev s_law : Stmt := top 42
abbrev N_law : List Str := ["_law_script", "_law_spot"]
theorem S_law : ScOk N_law [0] ["all", "range", "max", "min", "len"] (defScope s_law) := scOk_of (by decide +kernel)
theorem L_law : StOk N_law [0] (defScope s_law) (fun _ => true) := stOk_of (by decide +kernel)
theorem F_law : FnScope N_law ["_law_script"] (defScope s_law) := ⟨by decide +kernel, by decide +kernel, by decide +kernel, by decide +kernel, by decide +kernel, by decide +kernel, by decide +kernel⟩
structure Txt (Ω : Wl) : Prop where
  t_law_take : Std Ω "_law_take" ["_law_bag_here", "_law_many"] s_law_take
  t_law_mixed : Std Ω "_law_mixed" ["_law_bag_here", "_law_things_here"] s_law_mixed
  t_law_line : Std Ω "_law_line" ["_law_bag_here", "_law_size"] s_law_line
  t_law_of : Std Ω "_law_of" ["_law_bag_here", "_law_some_here"] s_law_of
  t_law_from : Std Ω "_law_from" ["_law_line_here", "_law_head"] s_law_from
  t_is_name : Std Ω "is_name" ["value"] s_is_name
  t_check_things : Std Ω "check_things" ["things"] s_check_things
  t_Row_init : StdI Ω "Row" "Row.__init__" ["self", "things"] s_Row_init
  t_law_far : Std Ω "_law_far" ["_law_line_here", "_law_aim"] s_law_far
  t_check_row : Std Ω "check_row" ["value"] s_check_row
  t_Row_is_kin : StdM Ω "Row" "is_kin" "Row.is_kin" ["self", "other"] s_Row_is_kin
  t_check_kin : Std Ω "check_kin" ["one", "other"] s_check_kin
  t_check_both : Std Ω "check_both" ["row", "goal"] s_check_both
  t_Row_things : StdP Ω "Row" "things" "Row.things" s_Row_things
  t_with_ends : Std Ω "with_ends" ["numbers"] s_with_ends
  t_leads_of : Std Ω "leads_of" ["numbers"] s_leads_of
  t_ring_from : Std Ω "ring_from" ["leads", "gap"] s_ring_from
  t_rings_by : Std Ω "rings_by" ["numbers"] s_rings_by
  t_distance_by : Std Ω "distance_by" ["numbers"] s_distance_by
  t_numbers_of : Std Ω "numbers_of" ["things", "target"] s_numbers_of
  t_turned_to : Std Ω "turned_to" ["things", "head"] s_turned_to
  t_round_distance : Std Ω "round_distance" ["row", "goal"] s_round_distance
  t_numbers_for : Std Ω "numbers_for" ["row", "goal"] s_numbers_for
  t_distance : Std Ω "distance" ["row", "goal"] s_distance
  t_same_round : Std Ω "same_round" ["one", "other"] s_same_round
  t_law_right : Std Ω "_law_right" ["_law_bag_here"] s_law_right
  t_law_bag : Std Ω "_law_bag" ["_law_script", "_law_spot"] s_law_bag
  t_law : Std Ω "law" ["_law_script"] s_law
  h_Row : ClsF Ω "Row"
  n_Row_line : NoAttr Ω.K (clsA Ω.K "Row") "line"
  z_abs : Ω.mg "abs" = none
  z_all : Ω.mg "all" = none
  z_dict : Ω.mg "dict" = none
  z_divmod : Ω.mg "divmod" = none
  z_enumerate : Ω.mg "enumerate" = none
  z_int : Ω.mg "int" = none
  z_isinstance : Ω.mg "isinstance" = none
  z_len : Ω.mg "len" = none
  z_list : Ω.mg "list" = none
  z_max : Ω.mg "max" = none
  z_min : Ω.mg "min" = none
  z_range : Ω.mg "range" = none
  z_sorted : Ω.mg "sorted" = none
  z_str : Ω.mg "str" = none
  z_tuple : Ω.mg "tuple" = none
  c_LETTERS : Ini Ω "LETTERS" (.str "abcdefghijklmnopqrstuvwxyz")
  c_MOST_THINGS : Ini Ω "MOST_THINGS" (.int 40)
section
variable {P : Program} {w : World} {K : PySem.W.Frag} {mg : Str → Option Value} {base : Heap}
def BagOk (o : MO) : Prop := ∃ a b c : Int, o = .lst [.int a, .int b, .int c] ∧ 0 ≤ a ∧ a < 2147483587
def sp_law_take : DSp := fun ds M Q _ => match ds with
  | [.ref p, .int n] => (∃ o, M p = some o ∧ BagOk o) ∧ 0 < n ∧ n < 1073741824 ∧ ∀ (r : Nat) o, (r : Int) < n → BagOk o → Q (.int r) (M.put p o)
  | _ => False

def d_law_take : DS :=
  (dSeq (dAsg (dOp addOp (dOp ixOp (dVar 0) (dC (.int 2))) (dC (.int 1))) (dgSub (dVar 0) (dC (.int 2))))
    (dSeq (dSet 2 (dCB (ob1 intO) (dCons (dOp ixOp (dVar 0) (dC (.int 0))) dNil)))
    (dSeq (dSet 3 (dOp divOp (dVar 2) (dC (.int 4093))))
    (dSeq (dAsg (dOp modOp (dCB (ob1 intO) (dCons (dOp addOp (dOp addOp (dOp addOp (dOp mulOp (dVar 2) (dC (.int 39373))) (dOp mulOp (dVar 3) (dVar 3))) (dOp mulOp (dC (.int 92821)) (dOp ixOp (dVar 0) (dC (.int 2))))) (dC (.int 5))) dNil)) (dC (.int 2147483587))) (dgSub (dVar 0) (dC (.int 0))))
    (dSeq (dIfS (dTest (dOp gtO (dOp ixOp (dVar 0) (dC (.int 1))) (dC (.int 0)))) (dSeq (dAsg (dCB (ob2 dmO) (dCons (dOp ixOp (dVar 0) (dC (.int 1))) (dCons (dVar 1) dNil))) (dgTup 2 (dgCons (dgSub (dVar 0) (dC (.int 1))) (dgCons (dgName 4) dgNil))))
    (dRet (dVar 4))) dNext)
    (dRet (dOp modOp (dCB (ob1 intO) (dCons (dOp divOp (dOp ixOp (dVar 0) (dC (.int 0))) (dC (.int 512))) dNil)) (dVar 1))))))))
theorem st_law_take (v0 v1 : D) : dstart N_law_take [v0, v1] = [some v0, some v1, none, none, none] := rfl
theorem r_law_take (T : Txt ⟨P, w, K, mg, base⟩) : DPSs ⟨P, w, K, mg, base⟩ (Sx.fn N_law_take (defScope s_law_take) 0) (defBody s_law_take) d_law_take :=
  (dpss_cons (dps_asg (dp_bin (fun _ ft => opD_add ft) (dp_ix (dp_var S_law_take 0) dp_int) dp_int) (dpg_sub (dp_var S_law_take 0) dp_int))
    (by exact (dpss_cons (dps_set L_law_take 2 (dp_callT S_law_take T.z_int (fun X ft => cb_int) boot_int (dpa_cons (dp_ix (dp_var S_law_take 0) dp_int) dpa_nil)))
    (by exact (dpss_cons (dps_set L_law_take 3 (dp_bin (fun _ ft => opD_div ft) (dp_var S_law_take 2) dp_int))
    (by exact (dpss_cons (dps_asg (dp_bin (fun _ ft => opD_mod ft) (dp_callT S_law_take T.z_int (fun X ft => cb_int) boot_int (dpa_cons (dp_bin (fun _ ft => opD_add ft) (dp_bin (fun _ ft => opD_add ft) (dp_bin (fun _ ft => opD_add ft) (dp_bin (fun _ ft => opD_mul ft) (dp_var S_law_take 2) dp_int) (dp_bin (fun _ ft => opD_mul ft) (dp_var S_law_take 3) (dp_var S_law_take 3))) (dp_bin (fun _ ft => opD_mul ft) dp_int (dp_ix (dp_var S_law_take 0) dp_int))) dp_int) dpa_nil)) dp_int) (dpg_sub (dp_var S_law_take 0) dp_int))
    (by exact (dpss_cons (dps_if (dpt_cmp (fun _ ft => opD_gt ft) (dp_ix (dp_var S_law_take 0) dp_int) dp_int (by with_unfolding_all rfl)) (dpss_cons (dps_asg (dp_callB S_law_take T.z_divmod (fun X ft => cb_divmod) boot_divmod (dpa_cons (dp_ix (dp_var S_law_take 0) dp_int) (by exact (dpa_cons (dp_var S_law_take 1) dpa_nil)))) (dpg_tup (n := 2) (dpgs_cons (dpg_sub (dp_var S_law_take 0) dp_int) (dpgs_cons (dpg_name L_law_take 4) dpgs_nil))))
    (by exact (dpss_one (dps_ret (dp_var S_law_take 4))))) dpss_nil)
    (by exact (dpss_one (dps_ret (dp_bin (fun _ ft => opD_mod ft) (dp_callT S_law_take T.z_int (fun X ft => cb_int) boot_int (dpa_cons (dp_bin (fun _ ft => opD_div ft) (dp_ix (dp_var S_law_take 0) dp_int) dp_int) dpa_nil)) (dp_var S_law_take 1))))))))))))))
theorem pl_law_take (ds : List D) (M : MH) (Q : DQ) (E : Er → MH → Prop) (hl : ds.length = 2) (h : sp_law_take ds M Q E) : d_law_take (ends Q) (fun er _ M => E er M) (dstart N_law_take ds) M := by
  unfold sp_law_take at h
  split at h
  case h_2 => exact h.elim
  rename_i p n
  rw [st_law_take]
  obtain ⟨⟨_, hp, a, b, c, rfl, ha0, ha1⟩, h0, h1, h⟩ := h
  simp only [d_law_take, dDk1, dicPO, eqOwnL, eqPairs, eqOne, dJoin, dMk, dstart, ends, dVar, dC, dOp, i2, ltO, leO, gtO, geO, subO, dTest, dAnd, dOr, dNot, asV, dAndV, dOrV, dNotV, dIf, dNil, dCons, dStar, dTup, dLst, dNew, seqD, lstD, datD, eqOp, neOp, addOp, mulOp, mulM, addM, divOp, modOp, powOp, isOp, isntOp, dNext, dSeq, dDrop, dRet, dRetN, dIfS, dBreak, dCont, dNever, dFrz, dgName, dgNil, dgCons, dgTup, dgSub, dAsg, dSet, dPar, dAugI, dSeqI, dRng1, dRng2, dEnum, dFor, dLast, dLink, dCh, dYes, dLc, dCall, dCall0, dFld, dMeth, dMeth0, dFrzO, frzO, dCB, ob1, ob2, oI, ii2, lenO, intO, sumO, intsO, blsO, strsO, reprO, absO, maxO, minO, dmO, tupO, lstO, lstMO, maxLO, minLO, anyO, allO, strIO, srtSO, srtO, srtIO, numsD_lst, numsD_tup, nats_inj, nats_len, stepD_inj, nc0, nc1, nc2, nc3, nc4, nc5, nc6, nc7, nc8, nc9, nc10, nc11, nc12, nc13, nc14, nc15, nc16, nc17, nc18, nc19, nc20, appendM, popM, extendM, insertM, indexM, indexTM, updateM, dBMT, dBMT.tupT, dinOp, dgetOp, dGet2, dsPut, dNewK, dDc, dPar3, dNeg, dkO_inj, dkO_ne, dkO_ne2, lenM_dk, keyD_int, keyD_str, dic_dk, dicA_dk, moTy_dk, moTy_lst, moTy_none, dIsi, inOp, ixOp, dSl, slOp, dRev, dBM, dBM0, refL, tyD, lenM_lst, dNoP, dPart, dCallN, dMake, dProp, eqOwn, neOwn, lenOwn, strOwn, dIsO, dMethN, dsFld, dRevT, dStrI, insD_obj, insD_ref, isC_obj, isC_ref, isC_non, isC_bl, isC_int, isC_str, isC_tup, isC_lst, ex_ins2, beq_self_eq_true, Bool.not_eq_eq_eq_not, decide_true, decide_false, okN_bl, okN_int, okN_non, exists_and_left, and_assoc, List.cons.injEq, dListRg1, dListRg2, pick, List.filterMap_cons, List.filterMap_nil, List.set_cons_zero, List.set_cons_succ, List.getElem?_cons_zero, List.getElem?_cons_succ, List.getElem?_nil, List.length_cons, List.length_nil, List.length_append, List.length_map, List.length_range, rangeD_length, enumD_length, List.cons_append, List.nil_append, forall_const, true_implies, false_implies, reduceCtorEq, Bool.not_true, Bool.not_false, and_true, true_and, decide_eq_true_eq, decide_eq_false_iff_not, MH.put_same, if_true, if_false, not_true_eq_false, not_false_eq_true, exists_eq_left, exists_eq_left', Option.some.injEq, MO.lst.injEq, MH.put_put, at_0, at_1, at_2, at_3, Int.ofNat_lt, Int.ofNat_le, ix_30, ix_31, ix_32, Nat.zero_add, Int.zero_add, Nat.reduceAdd, D.lst.injEq, lenOk, Nat.reduceLeDiff, rowD_inj, strs_inj, ints_inj, ex_ins, tyNm, ts_NoneType_bool, ts_NoneType_int, ts_NoneType_str, ts_NoneType_tuple, ts_NoneType_list, ts_bool_bool, ts_bool_int, ts_bool_str, ts_bool_tuple, ts_bool_list, ts_int_bool, ts_int_int, ts_int_str, ts_int_tuple, ts_int_list, ts_str_bool, ts_str_int, ts_str_str, ts_str_tuple, ts_str_list, ts_tuple_bool, ts_tuple_int, ts_tuple_str, ts_tuple_tuple, ts_tuple_list, ts_list_bool, ts_list_int, ts_list_str, ts_list_tuple, ts_list_list, ins_row, isC_row, row_ne, Int.natCast_inj, Int.toNat_natCast, D.int.injEq, D.str.injEq, D.bl.injEq, D.tup.injEq, D.ref.injEq, D.scr.injEq, hp]
  have q0 : 0 ≤ a / 4093 := Int.ediv_nonneg ha0 (by decide)
  have q1 : a / 4093 ≤ a := Int.ediv_le_self _ ha0
  have fin : ∀ (r : Int) a b c, 0 ≤ r → r < n → 0 ≤ a → a < 2147483587 → Q (.int r) (M.put p (.lst [.int a, .int b, .int c])) := fun r a b c k0 k1 k2 k3 => by
    obtain ⟨m, rfl⟩ := Int.eq_ofNat_of_zero_le k0
    exact h m _ k1 ⟨a, b, c, rfl, k2, k3⟩
  refine ⟨by decide, by decide, cm_r (by decide), cm_l ⟨by omega, by omega⟩, cm_l (by decide), by decide, fun _ => ⟨⟨h0, h1⟩, _, .refl, fin _ _ _ _ (Int.emod_nonneg _ (by omega)) (Int.emod_lt_of_pos _ h0) (Int.emod_nonneg _ (by decide)) (Int.emod_lt_of_pos _ (by decide))⟩, fun _ => ?_⟩
  exact ⟨by decide, by decide, h0, _, .refl, fin _ _ _ _ (Int.emod_nonneg _ (by omega)) (Int.emod_lt_of_pos _ h0) (Int.emod_nonneg _ (by decide)) (Int.emod_lt_of_pos _ (by decide))⟩

theorem ok_law_take (T : Txt ⟨P, w, K, mg, base⟩) : Cal ⟨P, w, K, mg, base⟩ "_law_take" 1 ["_law_bag_here", "_law_many"] sp_law_take := cal_mk T.t_law_take F_law_take (r_law_take T) pl_law_take
def sp_law_mixed : DSp := fun ds M Q _ => match ds with
  | [.ref p, .tup xs] => (∃ o, M p = some o ∧ BagOk o) ∧ xs.length ≤ 60 ∧ ∀ ys o, ys.Perm xs → BagOk o → Q (.tup ys) (M.put p o)
  | _ => False

def d_law_mixed_b1 : DS :=
  (dDrop (dBM "list" appendM (dVar 3) (dCons (dBM "list" popM (dVar 2) (dCons (dCall 2 sp_law_take (dCons (dVar 0) (dCons (dCB (ob1 lenO) (dCons (dVar 2) dNil)) dNil))) dNil)) dNil)))
def d_law_mixed_r1 : DS :=
  (dRet (dCB (ob1 tupO) (dCons (dVar 3) dNil)))
def d_law_mixed : DS :=
  (dSeq (dPar 2 3 (dCons (dCB (ob1 lstMO) (dCons (dVar 1) dNil)) (dCons (dNew dNil) dNil)))
    (dSeq (dFor (dRng1 (dCons (dCB (ob1 lenO) (dCons (dVar 2) dNil)) dNil)) (dgName 4) d_law_mixed_b1)
    d_law_mixed_r1))
theorem st_law_mixed (v0 v1 : D) : dstart N_law_mixed [v0, v1] = [some v0, some v1, none, none, none] := rfl
theorem r_law_mixed (T : Txt ⟨P, w, K, mg, base⟩) : DPSs ⟨P, w, K, mg, base⟩ (Sx.fn N_law_mixed (defScope s_law_mixed) 1) (defBody s_law_mixed) d_law_mixed :=
  (dpss_cons (dps_par L_law_mixed 2 3 (dpa_cons (dp_callT S_law_mixed T.z_list (fun X ft => cb_listM) boot_list (dpa_cons (dp_var S_law_mixed 1) dpa_nil)) (dpa_cons (dp_new dpa_nil) dpa_nil)) (hw := fun env h => by cases env; cases h; rfl))
    (by exact (dpss_cons (dps_for (dpi_range1 S_law_mixed T.z_range (dpa_cons (dp_callB S_law_mixed T.z_len (fun X ft => cb_len) boot_len (dpa_cons (dp_var S_law_mixed 2) dpa_nil)) dpa_nil)) (dpg_name L_law_mixed 4) (dpss_one (dps_expr (dp_bm pa_list sl_list_append ty_list_append (fun _ _ => mb_append) (dp_var S_law_mixed 3) (dpa_cons (dp_bm pa_list sl_list_pop ty_list_pop (fun _ _ => mb_pop) (dp_var S_law_mixed 2) (dpa_cons (dp_call (ok_law_take T) S_law_mixed (dpa_cons (dp_var S_law_mixed 0) (by exact (dpa_cons (dp_callB S_law_mixed T.z_len (fun X ft => cb_len) boot_len (dpa_cons (dp_var S_law_mixed 2) dpa_nil)) dpa_nil)))) dpa_nil)) dpa_nil)))))
    (by exact (dpss_one (dps_ret (dp_callT S_law_mixed T.z_tuple (fun X ft => cb_tuple) boot_tuple (dpa_cons (dp_var S_law_mixed 3) dpa_nil))))))))
theorem pl_law_mixed (ds : List D) (M : MH) (Q : DQ) (E : Er → MH → Prop) (hl : ds.length = 2) (h : sp_law_mixed ds M Q E) : d_law_mixed (ends Q) (fun er _ M => E er M) (dstart N_law_mixed ds) M := by
  unfold sp_law_mixed at h
  split at h
  case h_2 => exact h.elim
  rename_i p xs
  rw [st_law_mixed]
  obtain ⟨⟨o0, hp, ho0⟩, hn, h⟩ := h
  simp only [d_law_mixed, dDk1, dicPO, eqOwnL, eqPairs, eqOne, dJoin, dMk, dstart, ends, dVar, dC, dOp, i2, ltO, leO, gtO, geO, subO, dTest, dAnd, dOr, dNot, asV, dAndV, dOrV, dNotV, dIf, dNil, dCons, dStar, dTup, dLst, dNew, seqD, lstD, datD, eqOp, neOp, addOp, mulOp, mulM, addM, divOp, modOp, powOp, isOp, isntOp, dNext, dSeq, dDrop, dRet, dRetN, dIfS, dBreak, dCont, dNever, dFrz, dgName, dgNil, dgCons, dgTup, dgSub, dAsg, dSet, dPar, dAugI, dSeqI, dRng1, dRng2, dEnum, dFor, dLast, dLink, dCh, dYes, dLc, dCall, dCall0, dFld, dMeth, dMeth0, dFrzO, frzO, dCB, ob1, ob2, oI, ii2, lenO, intO, sumO, intsO, blsO, strsO, reprO, absO, maxO, minO, dmO, tupO, lstO, lstMO, maxLO, minLO, anyO, allO, strIO, srtSO, srtO, srtIO, numsD_lst, numsD_tup, nats_inj, nats_len, stepD_inj, nc0, nc1, nc2, nc3, nc4, nc5, nc6, nc7, nc8, nc9, nc10, nc11, nc12, nc13, nc14, nc15, nc16, nc17, nc18, nc19, nc20, appendM, popM, extendM, insertM, indexM, indexTM, updateM, dBMT, dBMT.tupT, dinOp, dgetOp, dGet2, dsPut, dNewK, dDc, dPar3, dNeg, dkO_inj, dkO_ne, dkO_ne2, lenM_dk, keyD_int, keyD_str, dic_dk, dicA_dk, moTy_dk, moTy_lst, moTy_none, dIsi, inOp, ixOp, dSl, slOp, dRev, dBM, dBM0, refL, tyD, lenM_lst, dNoP, dPart, dCallN, dMake, dProp, eqOwn, neOwn, lenOwn, strOwn, dIsO, dMethN, dsFld, dRevT, dStrI, insD_obj, insD_ref, isC_obj, isC_ref, isC_non, isC_bl, isC_int, isC_str, isC_tup, isC_lst, ex_ins2, beq_self_eq_true, Bool.not_eq_eq_eq_not, decide_true, decide_false, okN_bl, okN_int, okN_non, exists_and_left, and_assoc, List.cons.injEq, dListRg1, dListRg2, pick, List.filterMap_cons, List.filterMap_nil, List.set_cons_zero, List.set_cons_succ, List.getElem?_cons_zero, List.getElem?_cons_succ, List.getElem?_nil, List.length_cons, List.length_nil, List.length_append, List.length_map, List.length_range, rangeD_length, enumD_length, List.cons_append, List.nil_append, forall_const, true_implies, false_implies, reduceCtorEq, Bool.not_true, Bool.not_false, and_true, true_and, decide_eq_true_eq, decide_eq_false_iff_not, MH.put_same, if_true, if_false, not_true_eq_false, not_false_eq_true, exists_eq_left, exists_eq_left', Option.some.injEq, MO.lst.injEq, MH.put_put, at_0, at_1, at_2, at_3, Int.ofNat_lt, Int.ofNat_le, ix_30, ix_31, ix_32, Nat.zero_add, Int.zero_add, Nat.reduceAdd, D.lst.injEq, lenOk, Nat.reduceLeDiff, rowD_inj, strs_inj, ints_inj, ex_ins, tyNm, ts_NoneType_bool, ts_NoneType_int, ts_NoneType_str, ts_NoneType_tuple, ts_NoneType_list, ts_bool_bool, ts_bool_int, ts_bool_str, ts_bool_tuple, ts_bool_list, ts_int_bool, ts_int_int, ts_int_str, ts_int_tuple, ts_int_list, ts_str_bool, ts_str_int, ts_str_str, ts_str_tuple, ts_str_list, ts_tuple_bool, ts_tuple_int, ts_tuple_str, ts_tuple_tuple, ts_tuple_list, ts_list_bool, ts_list_int, ts_list_str, ts_list_tuple, ts_list_list, ins_row, isC_row, row_ne, Int.natCast_inj, Int.toNat_natCast, D.int.injEq, D.str.injEq, D.bl.injEq, D.tup.injEq, D.ref.injEq, D.scr.injEq]
  intro l hl0 f hf0
  obtain ⟨hfl, hf1⟩ := MH.none_put.mp hf0
  have hpl : p ≠ l := fun z => by rw [z, hl0] at hp; cases hp
  have hpf : p ≠ f := fun z => by rw [z, hf1] at hp; cases hp
  simp only [MH.put_ne hfl.symm, dDk1, dicPO, eqOwnL, eqPairs, eqOne, dJoin, dMk, dstart, ends, dVar, dC, dOp, i2, ltO, leO, gtO, geO, subO, dTest, dAnd, dOr, dNot, asV, dAndV, dOrV, dNotV, dIf, dNil, dCons, dStar, dTup, dLst, dNew, seqD, lstD, datD, eqOp, neOp, addOp, mulOp, mulM, addM, divOp, modOp, powOp, isOp, isntOp, dNext, dSeq, dDrop, dRet, dRetN, dIfS, dBreak, dCont, dNever, dFrz, dgName, dgNil, dgCons, dgTup, dgSub, dAsg, dSet, dPar, dAugI, dSeqI, dRng1, dRng2, dEnum, dFor, dLast, dLink, dCh, dYes, dLc, dCall, dCall0, dFld, dMeth, dMeth0, dFrzO, frzO, dCB, ob1, ob2, oI, ii2, lenO, intO, sumO, intsO, blsO, strsO, reprO, absO, maxO, minO, dmO, tupO, lstO, lstMO, maxLO, minLO, anyO, allO, strIO, srtSO, srtO, srtIO, numsD_lst, numsD_tup, nats_inj, nats_len, stepD_inj, nc0, nc1, nc2, nc3, nc4, nc5, nc6, nc7, nc8, nc9, nc10, nc11, nc12, nc13, nc14, nc15, nc16, nc17, nc18, nc19, nc20, appendM, popM, extendM, insertM, indexM, indexTM, updateM, dBMT, dBMT.tupT, dinOp, dgetOp, dGet2, dsPut, dNewK, dDc, dPar3, dNeg, dkO_inj, dkO_ne, dkO_ne2, lenM_dk, keyD_int, keyD_str, dic_dk, dicA_dk, moTy_dk, moTy_lst, moTy_none, dIsi, inOp, ixOp, dSl, slOp, dRev, dBM, dBM0, refL, tyD, lenM_lst, dNoP, dPart, dCallN, dMake, dProp, eqOwn, neOwn, lenOwn, strOwn, dIsO, dMethN, dsFld, dRevT, dStrI, insD_obj, insD_ref, isC_obj, isC_ref, isC_non, isC_bl, isC_int, isC_str, isC_tup, isC_lst, ex_ins2, beq_self_eq_true, Bool.not_eq_eq_eq_not, decide_true, decide_false, okN_bl, okN_int, okN_non, exists_and_left, and_assoc, List.cons.injEq, dListRg1, dListRg2, pick, List.filterMap_cons, List.filterMap_nil, List.set_cons_zero, List.set_cons_succ, List.getElem?_cons_zero, List.getElem?_cons_succ, List.getElem?_nil, List.length_cons, List.length_nil, List.length_append, List.length_map, List.length_range, rangeD_length, enumD_length, List.cons_append, List.nil_append, forall_const, true_implies, false_implies, reduceCtorEq, Bool.not_true, Bool.not_false, and_true, true_and, decide_eq_true_eq, decide_eq_false_iff_not, MH.put_same, if_true, if_false, not_true_eq_false, not_false_eq_true, exists_eq_left, exists_eq_left', Option.some.injEq, MO.lst.injEq, MH.put_put, at_0, at_1, at_2, at_3, Int.ofNat_lt, Int.ofNat_le, ix_30, ix_31, ix_32, Nat.zero_add, Int.zero_add, Nat.reduceAdd, D.lst.injEq, lenOk, Nat.reduceLeDiff, rowD_inj, strs_inj, ints_inj, ex_ins, tyNm, ts_NoneType_bool, ts_NoneType_int, ts_NoneType_str, ts_NoneType_tuple, ts_NoneType_list, ts_bool_bool, ts_bool_int, ts_bool_str, ts_bool_tuple, ts_bool_list, ts_int_bool, ts_int_int, ts_int_str, ts_int_tuple, ts_int_list, ts_str_bool, ts_str_int, ts_str_str, ts_str_tuple, ts_str_list, ts_tuple_bool, ts_tuple_int, ts_tuple_str, ts_tuple_tuple, ts_tuple_list, ts_list_bool, ts_list_int, ts_list_str, ts_list_tuple, ts_list_list, ins_row, isC_row, row_ne, Int.natCast_inj, Int.toNat_natCast, D.int.injEq, D.str.injEq, D.bl.injEq, D.tup.injEq, D.ref.injEq, D.scr.injEq]
  repeat (refine And.intro (by first | omega | (with_reducible assumption) | decide | exact okN_tupS (by assumption)) ?_)
  refine for_range (fun k σ M' => ∃ o4 found left o, σ = [some (.ref p), some (.tup xs), some (.ref l), some (.ref f), o4] ∧ (found ++ left).Perm xs ∧ found.length = k ∧ BagOk o ∧ M' = ((M.put p o).put l (.lst left)).put f (.lst found)) ?_ ?_ ?_
  · exact ⟨_, [], xs, o0, rfl, List.Perm.refl _, rfl, ho0, by rw [MH.put_self hp]⟩
  · rintro σ M' ⟨o4, found, left, o, rfl, hp, hk, ho, rfl⟩
    have e : left = [] := by
      have := hp.length_eq
      rw [List.length_append] at this
      exact List.eq_nil_of_length_eq_zero (by omega)
    subst e
    simp only [d_law_mixed_r1, dDk1, dicPO, eqOwnL, eqPairs, eqOne, dJoin, dMk, dstart, ends, dVar, dC, dOp, i2, ltO, leO, gtO, geO, subO, dTest, dAnd, dOr, dNot, asV, dAndV, dOrV, dNotV, dIf, dNil, dCons, dStar, dTup, dLst, dNew, seqD, lstD, datD, eqOp, neOp, addOp, mulOp, mulM, addM, divOp, modOp, powOp, isOp, isntOp, dNext, dSeq, dDrop, dRet, dRetN, dIfS, dBreak, dCont, dNever, dFrz, dgName, dgNil, dgCons, dgTup, dgSub, dAsg, dSet, dPar, dAugI, dSeqI, dRng1, dRng2, dEnum, dFor, dLast, dLink, dCh, dYes, dLc, dCall, dCall0, dFld, dMeth, dMeth0, dFrzO, frzO, dCB, ob1, ob2, oI, ii2, lenO, intO, sumO, intsO, blsO, strsO, reprO, absO, maxO, minO, dmO, tupO, lstO, lstMO, maxLO, minLO, anyO, allO, strIO, srtSO, srtO, srtIO, numsD_lst, numsD_tup, nats_inj, nats_len, stepD_inj, nc0, nc1, nc2, nc3, nc4, nc5, nc6, nc7, nc8, nc9, nc10, nc11, nc12, nc13, nc14, nc15, nc16, nc17, nc18, nc19, nc20, appendM, popM, extendM, insertM, indexM, indexTM, updateM, dBMT, dBMT.tupT, dinOp, dgetOp, dGet2, dsPut, dNewK, dDc, dPar3, dNeg, dkO_inj, dkO_ne, dkO_ne2, lenM_dk, keyD_int, keyD_str, dic_dk, dicA_dk, moTy_dk, moTy_lst, moTy_none, dIsi, inOp, ixOp, dSl, slOp, dRev, dBM, dBM0, refL, tyD, lenM_lst, dNoP, dPart, dCallN, dMake, dProp, eqOwn, neOwn, lenOwn, strOwn, dIsO, dMethN, dsFld, dRevT, dStrI, insD_obj, insD_ref, isC_obj, isC_ref, isC_non, isC_bl, isC_int, isC_str, isC_tup, isC_lst, ex_ins2, beq_self_eq_true, Bool.not_eq_eq_eq_not, decide_true, decide_false, okN_bl, okN_int, okN_non, exists_and_left, and_assoc, List.cons.injEq, dListRg1, dListRg2, pick, List.filterMap_cons, List.filterMap_nil, List.set_cons_zero, List.set_cons_succ, List.getElem?_cons_zero, List.getElem?_cons_succ, List.getElem?_nil, List.length_cons, List.length_nil, List.length_append, List.length_map, List.length_range, rangeD_length, enumD_length, List.cons_append, List.nil_append, forall_const, true_implies, false_implies, reduceCtorEq, Bool.not_true, Bool.not_false, and_true, true_and, decide_eq_true_eq, decide_eq_false_iff_not, MH.put_same, if_true, if_false, not_true_eq_false, not_false_eq_true, exists_eq_left, exists_eq_left', Option.some.injEq, MO.lst.injEq, MH.put_put, at_0, at_1, at_2, at_3, Int.ofNat_lt, Int.ofNat_le, ix_30, ix_31, ix_32, Nat.zero_add, Int.zero_add, Nat.reduceAdd, D.lst.injEq, lenOk, Nat.reduceLeDiff, rowD_inj, strs_inj, ints_inj, ex_ins, tyNm, ts_NoneType_bool, ts_NoneType_int, ts_NoneType_str, ts_NoneType_tuple, ts_NoneType_list, ts_bool_bool, ts_bool_int, ts_bool_str, ts_bool_tuple, ts_bool_list, ts_int_bool, ts_int_int, ts_int_str, ts_int_tuple, ts_int_list, ts_str_bool, ts_str_int, ts_str_str, ts_str_tuple, ts_str_list, ts_tuple_bool, ts_tuple_int, ts_tuple_str, ts_tuple_tuple, ts_tuple_list, ts_list_bool, ts_list_int, ts_list_str, ts_list_tuple, ts_list_list, ins_row, isC_row, row_ne, Int.natCast_inj, Int.toNat_natCast, D.int.injEq, D.str.injEq, D.bl.injEq, D.tup.injEq, D.ref.injEq, D.scr.injEq]
    rw [List.append_nil] at hp
    exact ⟨_, .put (.put .refl (MH.none_put.mpr ⟨hpl.symm, hl0⟩)) (MH.none_put.mpr ⟨hpf.symm, hf1⟩), h found o hp ho⟩
  · rintro k σ M' hk ⟨o4, found, left, o, rfl, hp2, hk2, ho, rfl⟩
    have hlen : left.length = xs.length - k := by
      have := hp2.length_eq
      rw [List.length_append] at this; omega
    simp only [d_law_mixed_b1, sp_law_take, dDk1, dicPO, eqOwnL, eqPairs, eqOne, dJoin, dMk, dstart, ends, dVar, dC, dOp, i2, ltO, leO, gtO, geO, subO, dTest, dAnd, dOr, dNot, asV, dAndV, dOrV, dNotV, dIf, dNil, dCons, dStar, dTup, dLst, dNew, seqD, lstD, datD, eqOp, neOp, addOp, mulOp, mulM, addM, divOp, modOp, powOp, isOp, isntOp, dNext, dSeq, dDrop, dRet, dRetN, dIfS, dBreak, dCont, dNever, dFrz, dgName, dgNil, dgCons, dgTup, dgSub, dAsg, dSet, dPar, dAugI, dSeqI, dRng1, dRng2, dEnum, dFor, dLast, dLink, dCh, dYes, dLc, dCall, dCall0, dFld, dMeth, dMeth0, dFrzO, frzO, dCB, ob1, ob2, oI, ii2, lenO, intO, sumO, intsO, blsO, strsO, reprO, absO, maxO, minO, dmO, tupO, lstO, lstMO, maxLO, minLO, anyO, allO, strIO, srtSO, srtO, srtIO, numsD_lst, numsD_tup, nats_inj, nats_len, stepD_inj, nc0, nc1, nc2, nc3, nc4, nc5, nc6, nc7, nc8, nc9, nc10, nc11, nc12, nc13, nc14, nc15, nc16, nc17, nc18, nc19, nc20, appendM, popM, extendM, insertM, indexM, indexTM, updateM, dBMT, dBMT.tupT, dinOp, dgetOp, dGet2, dsPut, dNewK, dDc, dPar3, dNeg, dkO_inj, dkO_ne, dkO_ne2, lenM_dk, keyD_int, keyD_str, dic_dk, dicA_dk, moTy_dk, moTy_lst, moTy_none, dIsi, inOp, ixOp, dSl, slOp, dRev, dBM, dBM0, refL, tyD, lenM_lst, dNoP, dPart, dCallN, dMake, dProp, eqOwn, neOwn, lenOwn, strOwn, dIsO, dMethN, dsFld, dRevT, dStrI, insD_obj, insD_ref, isC_obj, isC_ref, isC_non, isC_bl, isC_int, isC_str, isC_tup, isC_lst, ex_ins2, beq_self_eq_true, Bool.not_eq_eq_eq_not, decide_true, decide_false, okN_bl, okN_int, okN_non, exists_and_left, and_assoc, List.cons.injEq, dListRg1, dListRg2, pick, List.filterMap_cons, List.filterMap_nil, List.set_cons_zero, List.set_cons_succ, List.getElem?_cons_zero, List.getElem?_cons_succ, List.getElem?_nil, List.length_cons, List.length_nil, List.length_append, List.length_map, List.length_range, rangeD_length, enumD_length, List.cons_append, List.nil_append, forall_const, true_implies, false_implies, reduceCtorEq, Bool.not_true, Bool.not_false, and_true, true_and, decide_eq_true_eq, decide_eq_false_iff_not, MH.put_same, if_true, if_false, not_true_eq_false, not_false_eq_true, exists_eq_left, exists_eq_left', Option.some.injEq, MO.lst.injEq, MH.put_put, at_0, at_1, at_2, at_3, Int.ofNat_lt, Int.ofNat_le, ix_30, ix_31, ix_32, Nat.zero_add, Int.zero_add, Nat.reduceAdd, D.lst.injEq, lenOk, Nat.reduceLeDiff, rowD_inj, strs_inj, ints_inj, ex_ins, tyNm, ts_NoneType_bool, ts_NoneType_int, ts_NoneType_str, ts_NoneType_tuple, ts_NoneType_list, ts_bool_bool, ts_bool_int, ts_bool_str, ts_bool_tuple, ts_bool_list, ts_int_bool, ts_int_int, ts_int_str, ts_int_tuple, ts_int_list, ts_str_bool, ts_str_int, ts_str_str, ts_str_tuple, ts_str_list, ts_tuple_bool, ts_tuple_int, ts_tuple_str, ts_tuple_tuple, ts_tuple_list, ts_list_bool, ts_list_int, ts_list_str, ts_list_tuple, ts_list_list, ins_row, isC_row, row_ne, Int.natCast_inj, Int.toNat_natCast, D.int.injEq, D.str.injEq, D.bl.injEq, D.tup.injEq, D.ref.injEq, D.scr.injEq, MH.put_ne hpl, MH.put_ne hpf, MH.put_ne hfl.symm]
    refine ⟨ho, by omega, by omega, fun m o2 hm ho2 => ?_⟩
    have hm : m < left.length := by omega
    simp only [MH.put_under2 hpl hpf, MH.put_under hfl.symm, MH.put_ne hpl, MH.put_ne hpf, MH.put_ne hfl.symm, ixN_c hm, get_c hm, dDk1, dicPO, eqOwnL, eqPairs, eqOne, dJoin, dMk, dstart, ends, dVar, dC, dOp, i2, ltO, leO, gtO, geO, subO, dTest, dAnd, dOr, dNot, asV, dAndV, dOrV, dNotV, dIf, dNil, dCons, dStar, dTup, dLst, dNew, seqD, lstD, datD, eqOp, neOp, addOp, mulOp, mulM, addM, divOp, modOp, powOp, isOp, isntOp, dNext, dSeq, dDrop, dRet, dRetN, dIfS, dBreak, dCont, dNever, dFrz, dgName, dgNil, dgCons, dgTup, dgSub, dAsg, dSet, dPar, dAugI, dSeqI, dRng1, dRng2, dEnum, dFor, dLast, dLink, dCh, dYes, dLc, dCall, dCall0, dFld, dMeth, dMeth0, dFrzO, frzO, dCB, ob1, ob2, oI, ii2, lenO, intO, sumO, intsO, blsO, strsO, reprO, absO, maxO, minO, dmO, tupO, lstO, lstMO, maxLO, minLO, anyO, allO, strIO, srtSO, srtO, srtIO, numsD_lst, numsD_tup, nats_inj, nats_len, stepD_inj, nc0, nc1, nc2, nc3, nc4, nc5, nc6, nc7, nc8, nc9, nc10, nc11, nc12, nc13, nc14, nc15, nc16, nc17, nc18, nc19, nc20, appendM, popM, extendM, insertM, indexM, indexTM, updateM, dBMT, dBMT.tupT, dinOp, dgetOp, dGet2, dsPut, dNewK, dDc, dPar3, dNeg, dkO_inj, dkO_ne, dkO_ne2, lenM_dk, keyD_int, keyD_str, dic_dk, dicA_dk, moTy_dk, moTy_lst, moTy_none, dIsi, inOp, ixOp, dSl, slOp, dRev, dBM, dBM0, refL, tyD, lenM_lst, dNoP, dPart, dCallN, dMake, dProp, eqOwn, neOwn, lenOwn, strOwn, dIsO, dMethN, dsFld, dRevT, dStrI, insD_obj, insD_ref, isC_obj, isC_ref, isC_non, isC_bl, isC_int, isC_str, isC_tup, isC_lst, ex_ins2, beq_self_eq_true, Bool.not_eq_eq_eq_not, decide_true, decide_false, okN_bl, okN_int, okN_non, exists_and_left, and_assoc, List.cons.injEq, dListRg1, dListRg2, pick, List.filterMap_cons, List.filterMap_nil, List.set_cons_zero, List.set_cons_succ, List.getElem?_cons_zero, List.getElem?_cons_succ, List.getElem?_nil, List.length_cons, List.length_nil, List.length_append, List.length_map, List.length_range, rangeD_length, enumD_length, List.cons_append, List.nil_append, forall_const, true_implies, false_implies, reduceCtorEq, Bool.not_true, Bool.not_false, and_true, true_and, decide_eq_true_eq, decide_eq_false_iff_not, MH.put_same, if_true, if_false, not_true_eq_false, not_false_eq_true, exists_eq_left, exists_eq_left', Option.some.injEq, MO.lst.injEq, MH.put_put, at_0, at_1, at_2, at_3, Int.ofNat_lt, Int.ofNat_le, ix_30, ix_31, ix_32, Nat.zero_add, Int.zero_add, Nat.reduceAdd, D.lst.injEq, lenOk, Nat.reduceLeDiff, rowD_inj, strs_inj, ints_inj, ex_ins, tyNm, ts_NoneType_bool, ts_NoneType_int, ts_NoneType_str, ts_NoneType_tuple, ts_NoneType_list, ts_bool_bool, ts_bool_int, ts_bool_str, ts_bool_tuple, ts_bool_list, ts_int_bool, ts_int_int, ts_int_str, ts_int_tuple, ts_int_list, ts_str_bool, ts_str_int, ts_str_str, ts_str_tuple, ts_str_list, ts_tuple_bool, ts_tuple_int, ts_tuple_str, ts_tuple_tuple, ts_tuple_list, ts_list_bool, ts_list_int, ts_list_str, ts_list_tuple, ts_list_list, ins_row, isC_row, row_ne, Int.natCast_inj, Int.toNat_natCast, D.int.injEq, D.str.injEq, D.bl.injEq, D.tup.injEq, D.ref.injEq, D.scr.injEq]
    exact ⟨by omega, by omega, by omega, _, _, perm_take hp2 (get_c hm), by rw [List.length_append, hk2]; rfl, o2, ho2, rfl⟩

theorem ok_law_mixed (T : Txt ⟨P, w, K, mg, base⟩) : Cal ⟨P, w, K, mg, base⟩ "_law_mixed" 2 ["_law_bag_here", "_law_things_here"] sp_law_mixed := cal_mk T.t_law_mixed F_law_mixed (r_law_mixed T) pl_law_mixed
/-- the words of the menu, the words behind it -/
def menuW : List Str := ["a", "b", "c", "d", "e", "ab", "z", "zz", "abcdefgh", "q", "x", "row"]
def kWord (i : Nat) : Str := ⟨#[107, 97 + i, 97 + i]⟩
theorem menu_nd : (menuW ++ (List.range 26).map kWord).Nodup := by decide +kernel
theorem menu_good : ∀ w ∈ menuW ++ (List.range 26).map kWord, goodW w := by
  intro w hw
  have h : (menuW ++ (List.range 26).map kWord).all (fun w => decide (0 < w.length) && decide (w.length < 9) && w.cps.toList.all fun c => decide (c ∈ lettersL)) = true := by decide +kernel
  have := List.all_eq_true.mp h w hw
  simp only [Bool.and_eq_true, decide_eq_true_eq, List.all_eq_true] at this
  exact ⟨this.1.1, this.1.2, this.2⟩
theorem line_good {f mw : List Str} {k m : Nat} (hp : (f ++ mw).Perm menuW) (hm : m ≤ 26) (h0 : 0 < f.length) : GoodT (f ++ (List.range m).map kWord) := by
  have e : (List.range 26).map kWord = (List.range m).map kWord ++ ((List.range 26).drop m).map kWord := by
    rw [← List.map_append]
    congr 1
    rw [show List.range m = (List.range 26).take m from by rw [List.take_range]; congr 1; omega, List.take_append_drop]
  have sub : (f ++ (List.range m).map kWord).Sublist ((f ++ mw) ++ (List.range 26).map kWord) := by
    rw [e]
    exact List.Sublist.append (List.sublist_append_left _ _) (List.sublist_append_left _ _)
  have pm : ((f ++ mw) ++ (List.range 26).map kWord).Perm (menuW ++ (List.range 26).map kWord) := List.Perm.append_right _ hp
  have fl : f.length ≤ 12 := by
    have := hp.length_eq
    rw [List.length_append] at this
    have z : menuW.length = 12 := by decide
    omega
  refine ⟨by rw [List.length_append]; omega, by rw [List.length_append, List.length_map, List.length_range]; omega, fun w hw => ?_, ?_⟩
  · exact menu_good w (pm.mem_iff.mp (sub.subset hw))
  · exact List.Sublist.nodup sub (pm.nodup_iff.mpr menu_nd)
def sp_law_line : DSp := fun ds M Q _ => match ds with
  | [.ref p, .int n0] => ∃ n : Nat, n0 = n ∧ (∃ o, M p = some o ∧ BagOk o) ∧ 0 < n ∧ n ≤ 38 ∧ ∀ (ws : List Str) o, ws.length = n → GoodT ws → BagOk o → Q (.tup (ws.map .str)) (M.put p o)
  | _ => False

def d_law_line_b1 : DS :=
  (dSeq (dSet 5 (dIf (dTest (dOp ltO (dVar 4) (dC (.int 12)))) (dBM "list" popM (dVar 2) (dCons (dCall 2 sp_law_take (dCons (dVar 0) (dCons (dCB (ob1 lenO) (dCons (dVar 2) dNil)) dNil))) dNil)) (dOp addOp (dC (.str "k")) (dOp mulOp (dOp ixOp (dC (.str "abcdefghijklmnopqrstuvwxyz")) (dOp subO (dVar 4) (dC (.int 12)))) (dC (.int 2))))))
    (dDrop (dBM "list" appendM (dVar 3) (dCons (dVar 5) dNil))))
def d_law_line_r1 : DS :=
  (dRet (dCB (ob1 tupO) (dCons (dVar 3) dNil)))
def d_law_line : DS :=
  (dSeq (dPar 2 3 (dCons (dNew (dCons (dC (.str "a")) (dCons (dC (.str "b")) (dCons (dC (.str "c")) (dCons (dC (.str "d")) (dCons (dC (.str "e")) (dCons (dC (.str "ab")) (dCons (dC (.str "z")) (dCons (dC (.str "zz")) (dCons (dC (.str "abcdefgh")) (dCons (dC (.str "q")) (dCons (dC (.str "x")) (dCons (dC (.str "row")) dNil))))))))))))) (dCons (dNew dNil) dNil)))
    (dSeq (dFor (dRng1 (dCons (dVar 1) dNil)) (dgName 4) d_law_line_b1)
    d_law_line_r1))
theorem st_law_line (v0 v1 : D) : dstart N_law_line [v0, v1] = [some v0, some v1, none, none, none, none] := rfl
theorem r_law_line (T : Txt ⟨P, w, K, mg, base⟩) : DPSs ⟨P, w, K, mg, base⟩ (Sx.fn N_law_line (defScope s_law_line) 1) (defBody s_law_line) d_law_line :=
  (dpss_cons (dps_par L_law_line 2 3 (dpa_cons (dp_new (dpa_cons dp_str (by exact (dpa_cons dp_str (by exact (dpa_cons dp_str (by exact (dpa_cons dp_str (by exact (dpa_cons dp_str (by exact (dpa_cons dp_str (by exact (dpa_cons dp_str (by exact (dpa_cons dp_str (by exact (dpa_cons dp_str (by exact (dpa_cons dp_str (by exact (dpa_cons dp_str (by exact (dpa_cons dp_str dpa_nil)))))))))))))))))))))))) (dpa_cons (dp_new dpa_nil) dpa_nil)) (hw := fun env h => by cases env; cases h; rfl))
    (by exact (dpss_cons (dps_for (dpi_range1 S_law_line T.z_range (dpa_cons (dp_var S_law_line 1) dpa_nil)) (dpg_name L_law_line 4) (dpss_cons (dps_set L_law_line 5 (dp_if (dpt_cmp (fun _ ft => opD_lt ft) (dp_var S_law_line 4) dp_int (by with_unfolding_all rfl)) (dp_bm pa_list sl_list_pop ty_list_pop (fun _ _ => mb_pop) (dp_var S_law_line 2) (dpa_cons (dp_call (ok_law_take T) S_law_line (dpa_cons (dp_var S_law_line 0) (by exact (dpa_cons (dp_callB S_law_line T.z_len (fun X ft => cb_len) boot_len (dpa_cons (dp_var S_law_line 2) dpa_nil)) dpa_nil)))) dpa_nil)) (dp_bin (fun _ ft => opD_add ft) dp_str (dp_bin (fun _ ft => opD_mul ft) (dp_ix dp_str (dp_bin (fun _ ft => opD_sub ft) (dp_var S_law_line 4) dp_int)) dp_int))))
    (by exact (dpss_one (dps_expr (dp_bm pa_list sl_list_append ty_list_append (fun _ _ => mb_append) (dp_var S_law_line 3) (dpa_cons (dp_var S_law_line 5) dpa_nil)))))))
    (by exact (dpss_one (dps_ret (dp_callT S_law_line T.z_tuple (fun X ft => cb_tuple) boot_tuple (dpa_cons (dp_var S_law_line 3) dpa_nil))))))))
theorem pl_law_line (ds : List D) (M : MH) (Q : DQ) (E : Er → MH → Prop) (hl : ds.length = 2) (h : sp_law_line ds M Q E) : d_law_line (ends Q) (fun er _ M => E er M) (dstart N_law_line ds) M := by
  unfold sp_law_line at h
  split at h
  case h_2 => exact h.elim
  rename_i p n0
  rw [st_law_line]
  obtain ⟨n, rfl, ⟨o0, hp, ho0⟩, h0, hn, h⟩ := h
  simp only [d_law_line, dDk1, dicPO, eqOwnL, eqPairs, eqOne, dJoin, dMk, dstart, ends, dVar, dC, dOp, i2, ltO, leO, gtO, geO, subO, dTest, dAnd, dOr, dNot, asV, dAndV, dOrV, dNotV, dIf, dNil, dCons, dStar, dTup, dLst, dNew, seqD, lstD, datD, eqOp, neOp, addOp, mulOp, mulM, addM, divOp, modOp, powOp, isOp, isntOp, dNext, dSeq, dDrop, dRet, dRetN, dIfS, dBreak, dCont, dNever, dFrz, dgName, dgNil, dgCons, dgTup, dgSub, dAsg, dSet, dPar, dAugI, dSeqI, dRng1, dRng2, dEnum, dFor, dLast, dLink, dCh, dYes, dLc, dCall, dCall0, dFld, dMeth, dMeth0, dFrzO, frzO, dCB, ob1, ob2, oI, ii2, lenO, intO, sumO, intsO, blsO, strsO, reprO, absO, maxO, minO, dmO, tupO, lstO, lstMO, maxLO, minLO, anyO, allO, strIO, srtSO, srtO, srtIO, numsD_lst, numsD_tup, nats_inj, nats_len, stepD_inj, nc0, nc1, nc2, nc3, nc4, nc5, nc6, nc7, nc8, nc9, nc10, nc11, nc12, nc13, nc14, nc15, nc16, nc17, nc18, nc19, nc20, appendM, popM, extendM, insertM, indexM, indexTM, updateM, dBMT, dBMT.tupT, dinOp, dgetOp, dGet2, dsPut, dNewK, dDc, dPar3, dNeg, dkO_inj, dkO_ne, dkO_ne2, lenM_dk, keyD_int, keyD_str, dic_dk, dicA_dk, moTy_dk, moTy_lst, moTy_none, dIsi, inOp, ixOp, dSl, slOp, dRev, dBM, dBM0, refL, tyD, lenM_lst, dNoP, dPart, dCallN, dMake, dProp, eqOwn, neOwn, lenOwn, strOwn, dIsO, dMethN, dsFld, dRevT, dStrI, insD_obj, insD_ref, isC_obj, isC_ref, isC_non, isC_bl, isC_int, isC_str, isC_tup, isC_lst, ex_ins2, beq_self_eq_true, Bool.not_eq_eq_eq_not, decide_true, decide_false, okN_bl, okN_int, okN_non, exists_and_left, and_assoc, List.cons.injEq, dListRg1, dListRg2, pick, List.filterMap_cons, List.filterMap_nil, List.set_cons_zero, List.set_cons_succ, List.getElem?_cons_zero, List.getElem?_cons_succ, List.getElem?_nil, List.length_cons, List.length_nil, List.length_append, List.length_map, List.length_range, rangeD_length, enumD_length, List.cons_append, List.nil_append, forall_const, true_implies, false_implies, reduceCtorEq, Bool.not_true, Bool.not_false, and_true, true_and, decide_eq_true_eq, decide_eq_false_iff_not, MH.put_same, if_true, if_false, not_true_eq_false, not_false_eq_true, exists_eq_left, exists_eq_left', Option.some.injEq, MO.lst.injEq, MH.put_put, at_0, at_1, at_2, at_3, Int.ofNat_lt, Int.ofNat_le, ix_30, ix_31, ix_32, Nat.zero_add, Int.zero_add, Nat.reduceAdd, D.lst.injEq, lenOk, Nat.reduceLeDiff, rowD_inj, strs_inj, ints_inj, ex_ins, tyNm, ts_NoneType_bool, ts_NoneType_int, ts_NoneType_str, ts_NoneType_tuple, ts_NoneType_list, ts_bool_bool, ts_bool_int, ts_bool_str, ts_bool_tuple, ts_bool_list, ts_int_bool, ts_int_int, ts_int_str, ts_int_tuple, ts_int_list, ts_str_bool, ts_str_int, ts_str_str, ts_str_tuple, ts_str_list, ts_tuple_bool, ts_tuple_int, ts_tuple_str, ts_tuple_tuple, ts_tuple_list, ts_list_bool, ts_list_int, ts_list_str, ts_list_tuple, ts_list_list, ins_row, isC_row, row_ne, Int.natCast_inj, Int.toNat_natCast, D.int.injEq, D.str.injEq, D.bl.injEq, D.tup.injEq, D.ref.injEq, D.scr.injEq]
  intro l hl0 f hf0
  obtain ⟨hfl, hf1⟩ := MH.none_put.mp hf0
  have hpl : p ≠ l := fun z => by rw [z, hl0] at hp; cases hp
  have hpf : p ≠ f := fun z => by rw [z, hf1] at hp; cases hp
  refine ⟨by omega, by omega, ?_⟩
  refine for_range (fun k σ M' => ∃ o4 o5 f1 mw o, σ = [some (.ref p), some (.int n), some (.ref l), some (.ref f), o4, o5] ∧ (f1 ++ mw).Perm menuW ∧ f1.length = min k 12 ∧ BagOk o ∧ M' = ((M.put p o).put l (.lst (mw.map .str))).put f (.lst ((f1 ++ (List.range (k - 12)).map kWord).map .str))) ?_ ?_ ?_
  · exact ⟨_, _, [], menuW, o0, rfl, List.Perm.refl _, rfl, ho0, by rw [MH.put_self hp]; rfl⟩
  · rintro σ M' ⟨o4, o5, f1, mw, o, rfl, hm, hk, ho, rfl⟩
    simp only [d_law_line_r1, dDk1, dicPO, eqOwnL, eqPairs, eqOne, dJoin, dMk, dstart, ends, dVar, dC, dOp, i2, ltO, leO, gtO, geO, subO, dTest, dAnd, dOr, dNot, asV, dAndV, dOrV, dNotV, dIf, dNil, dCons, dStar, dTup, dLst, dNew, seqD, lstD, datD, eqOp, neOp, addOp, mulOp, mulM, addM, divOp, modOp, powOp, isOp, isntOp, dNext, dSeq, dDrop, dRet, dRetN, dIfS, dBreak, dCont, dNever, dFrz, dgName, dgNil, dgCons, dgTup, dgSub, dAsg, dSet, dPar, dAugI, dSeqI, dRng1, dRng2, dEnum, dFor, dLast, dLink, dCh, dYes, dLc, dCall, dCall0, dFld, dMeth, dMeth0, dFrzO, frzO, dCB, ob1, ob2, oI, ii2, lenO, intO, sumO, intsO, blsO, strsO, reprO, absO, maxO, minO, dmO, tupO, lstO, lstMO, maxLO, minLO, anyO, allO, strIO, srtSO, srtO, srtIO, numsD_lst, numsD_tup, nats_inj, nats_len, stepD_inj, nc0, nc1, nc2, nc3, nc4, nc5, nc6, nc7, nc8, nc9, nc10, nc11, nc12, nc13, nc14, nc15, nc16, nc17, nc18, nc19, nc20, appendM, popM, extendM, insertM, indexM, indexTM, updateM, dBMT, dBMT.tupT, dinOp, dgetOp, dGet2, dsPut, dNewK, dDc, dPar3, dNeg, dkO_inj, dkO_ne, dkO_ne2, lenM_dk, keyD_int, keyD_str, dic_dk, dicA_dk, moTy_dk, moTy_lst, moTy_none, dIsi, inOp, ixOp, dSl, slOp, dRev, dBM, dBM0, refL, tyD, lenM_lst, dNoP, dPart, dCallN, dMake, dProp, eqOwn, neOwn, lenOwn, strOwn, dIsO, dMethN, dsFld, dRevT, dStrI, insD_obj, insD_ref, isC_obj, isC_ref, isC_non, isC_bl, isC_int, isC_str, isC_tup, isC_lst, ex_ins2, beq_self_eq_true, Bool.not_eq_eq_eq_not, decide_true, decide_false, okN_bl, okN_int, okN_non, exists_and_left, and_assoc, List.cons.injEq, dListRg1, dListRg2, pick, List.filterMap_cons, List.filterMap_nil, List.set_cons_zero, List.set_cons_succ, List.getElem?_cons_zero, List.getElem?_cons_succ, List.getElem?_nil, List.length_cons, List.length_nil, List.length_append, List.length_map, List.length_range, rangeD_length, enumD_length, List.cons_append, List.nil_append, forall_const, true_implies, false_implies, reduceCtorEq, Bool.not_true, Bool.not_false, and_true, true_and, decide_eq_true_eq, decide_eq_false_iff_not, MH.put_same, if_true, if_false, not_true_eq_false, not_false_eq_true, exists_eq_left, exists_eq_left', Option.some.injEq, MO.lst.injEq, MH.put_put, at_0, at_1, at_2, at_3, Int.ofNat_lt, Int.ofNat_le, ix_30, ix_31, ix_32, Nat.zero_add, Int.zero_add, Nat.reduceAdd, D.lst.injEq, lenOk, Nat.reduceLeDiff, rowD_inj, strs_inj, ints_inj, ex_ins, tyNm, ts_NoneType_bool, ts_NoneType_int, ts_NoneType_str, ts_NoneType_tuple, ts_NoneType_list, ts_bool_bool, ts_bool_int, ts_bool_str, ts_bool_tuple, ts_bool_list, ts_int_bool, ts_int_int, ts_int_str, ts_int_tuple, ts_int_list, ts_str_bool, ts_str_int, ts_str_str, ts_str_tuple, ts_str_list, ts_tuple_bool, ts_tuple_int, ts_tuple_str, ts_tuple_tuple, ts_tuple_list, ts_list_bool, ts_list_int, ts_list_str, ts_list_tuple, ts_list_list, ins_row, isC_row, row_ne, Int.natCast_inj, Int.toNat_natCast, D.int.injEq, D.str.injEq, D.bl.injEq, D.tup.injEq, D.ref.injEq, D.scr.injEq]
    exact ⟨_, .put (.put .refl (MH.none_put.mpr ⟨hpl.symm, hl0⟩)) (MH.none_put.mpr ⟨hpf.symm, hf1⟩), h _ o (by rw [List.length_append, List.length_map, List.length_range]; omega) (line_good (k := 0) hm (by omega) (by omega)) ho⟩
  · rintro k σ M' hk ⟨o4, o5, f1, mw, o, rfl, hm, hk2, ho, rfl⟩
    have hlen := hm.length_eq
    rw [List.length_append, show menuW.length = 12 from rfl] at hlen
    simp only [d_law_line_b1, sp_law_take, dDk1, dicPO, eqOwnL, eqPairs, eqOne, dJoin, dMk, dstart, ends, dVar, dC, dOp, i2, ltO, leO, gtO, geO, subO, dTest, dAnd, dOr, dNot, asV, dAndV, dOrV, dNotV, dIf, dNil, dCons, dStar, dTup, dLst, dNew, seqD, lstD, datD, eqOp, neOp, addOp, mulOp, mulM, addM, divOp, modOp, powOp, isOp, isntOp, dNext, dSeq, dDrop, dRet, dRetN, dIfS, dBreak, dCont, dNever, dFrz, dgName, dgNil, dgCons, dgTup, dgSub, dAsg, dSet, dPar, dAugI, dSeqI, dRng1, dRng2, dEnum, dFor, dLast, dLink, dCh, dYes, dLc, dCall, dCall0, dFld, dMeth, dMeth0, dFrzO, frzO, dCB, ob1, ob2, oI, ii2, lenO, intO, sumO, intsO, blsO, strsO, reprO, absO, maxO, minO, dmO, tupO, lstO, lstMO, maxLO, minLO, anyO, allO, strIO, srtSO, srtO, srtIO, numsD_lst, numsD_tup, nats_inj, nats_len, stepD_inj, nc0, nc1, nc2, nc3, nc4, nc5, nc6, nc7, nc8, nc9, nc10, nc11, nc12, nc13, nc14, nc15, nc16, nc17, nc18, nc19, nc20, appendM, popM, extendM, insertM, indexM, indexTM, updateM, dBMT, dBMT.tupT, dinOp, dgetOp, dGet2, dsPut, dNewK, dDc, dPar3, dNeg, dkO_inj, dkO_ne, dkO_ne2, lenM_dk, keyD_int, keyD_str, dic_dk, dicA_dk, moTy_dk, moTy_lst, moTy_none, dIsi, inOp, ixOp, dSl, slOp, dRev, dBM, dBM0, refL, tyD, lenM_lst, dNoP, dPart, dCallN, dMake, dProp, eqOwn, neOwn, lenOwn, strOwn, dIsO, dMethN, dsFld, dRevT, dStrI, insD_obj, insD_ref, isC_obj, isC_ref, isC_non, isC_bl, isC_int, isC_str, isC_tup, isC_lst, ex_ins2, beq_self_eq_true, Bool.not_eq_eq_eq_not, decide_true, decide_false, okN_bl, okN_int, okN_non, exists_and_left, and_assoc, List.cons.injEq, dListRg1, dListRg2, pick, List.filterMap_cons, List.filterMap_nil, List.set_cons_zero, List.set_cons_succ, List.getElem?_cons_zero, List.getElem?_cons_succ, List.getElem?_nil, List.length_cons, List.length_nil, List.length_append, List.length_map, List.length_range, rangeD_length, enumD_length, List.cons_append, List.nil_append, forall_const, true_implies, false_implies, reduceCtorEq, Bool.not_true, Bool.not_false, and_true, true_and, decide_eq_true_eq, decide_eq_false_iff_not, MH.put_same, if_true, if_false, not_true_eq_false, not_false_eq_true, exists_eq_left, exists_eq_left', Option.some.injEq, MO.lst.injEq, MH.put_put, at_0, at_1, at_2, at_3, Int.ofNat_lt, Int.ofNat_le, ix_30, ix_31, ix_32, Nat.zero_add, Int.zero_add, Nat.reduceAdd, D.lst.injEq, lenOk, Nat.reduceLeDiff, rowD_inj, strs_inj, ints_inj, ex_ins, tyNm, ts_NoneType_bool, ts_NoneType_int, ts_NoneType_str, ts_NoneType_tuple, ts_NoneType_list, ts_bool_bool, ts_bool_int, ts_bool_str, ts_bool_tuple, ts_bool_list, ts_int_bool, ts_int_int, ts_int_str, ts_int_tuple, ts_int_list, ts_str_bool, ts_str_int, ts_str_str, ts_str_tuple, ts_str_list, ts_tuple_bool, ts_tuple_int, ts_tuple_str, ts_tuple_tuple, ts_tuple_list, ts_list_bool, ts_list_int, ts_list_str, ts_list_tuple, ts_list_list, ins_row, isC_row, row_ne, Int.natCast_inj, Int.toNat_natCast, D.int.injEq, D.str.injEq, D.bl.injEq, D.tup.injEq, D.ref.injEq, D.scr.injEq, MH.put_ne hpl, MH.put_ne hpf, MH.put_ne hfl.symm, List.length_map]
    refine ⟨fun hlt => ?_, fun hge => ?_⟩
    · refine ⟨ho, by omega, by omega, fun m o2 hr ho2 => ?_⟩
      have hm2 : m < mw.length := by omega
      have ek : k - 12 = 0 := by omega
      simp only [MH.put_under2 hpl hpf, MH.put_under hfl.symm, MH.put_ne hpl, MH.put_ne hpf, MH.put_ne hfl.symm, ixN_c hm2, get_map hm2, dDk1, dicPO, eqOwnL, eqPairs, eqOne, dJoin, dMk, dstart, ends, dVar, dC, dOp, i2, ltO, leO, gtO, geO, subO, dTest, dAnd, dOr, dNot, asV, dAndV, dOrV, dNotV, dIf, dNil, dCons, dStar, dTup, dLst, dNew, seqD, lstD, datD, eqOp, neOp, addOp, mulOp, mulM, addM, divOp, modOp, powOp, isOp, isntOp, dNext, dSeq, dDrop, dRet, dRetN, dIfS, dBreak, dCont, dNever, dFrz, dgName, dgNil, dgCons, dgTup, dgSub, dAsg, dSet, dPar, dAugI, dSeqI, dRng1, dRng2, dEnum, dFor, dLast, dLink, dCh, dYes, dLc, dCall, dCall0, dFld, dMeth, dMeth0, dFrzO, frzO, dCB, ob1, ob2, oI, ii2, lenO, intO, sumO, intsO, blsO, strsO, reprO, absO, maxO, minO, dmO, tupO, lstO, lstMO, maxLO, minLO, anyO, allO, strIO, srtSO, srtO, srtIO, numsD_lst, numsD_tup, nats_inj, nats_len, stepD_inj, nc0, nc1, nc2, nc3, nc4, nc5, nc6, nc7, nc8, nc9, nc10, nc11, nc12, nc13, nc14, nc15, nc16, nc17, nc18, nc19, nc20, appendM, popM, extendM, insertM, indexM, indexTM, updateM, dBMT, dBMT.tupT, dinOp, dgetOp, dGet2, dsPut, dNewK, dDc, dPar3, dNeg, dkO_inj, dkO_ne, dkO_ne2, lenM_dk, keyD_int, keyD_str, dic_dk, dicA_dk, moTy_dk, moTy_lst, moTy_none, dIsi, inOp, ixOp, dSl, slOp, dRev, dBM, dBM0, refL, tyD, lenM_lst, dNoP, dPart, dCallN, dMake, dProp, eqOwn, neOwn, lenOwn, strOwn, dIsO, dMethN, dsFld, dRevT, dStrI, insD_obj, insD_ref, isC_obj, isC_ref, isC_non, isC_bl, isC_int, isC_str, isC_tup, isC_lst, ex_ins2, beq_self_eq_true, Bool.not_eq_eq_eq_not, decide_true, decide_false, okN_bl, okN_int, okN_non, exists_and_left, and_assoc, List.cons.injEq, dListRg1, dListRg2, pick, List.filterMap_cons, List.filterMap_nil, List.set_cons_zero, List.set_cons_succ, List.getElem?_cons_zero, List.getElem?_cons_succ, List.getElem?_nil, List.length_cons, List.length_nil, List.length_append, List.length_map, List.length_range, rangeD_length, enumD_length, List.cons_append, List.nil_append, forall_const, true_implies, false_implies, reduceCtorEq, Bool.not_true, Bool.not_false, and_true, true_and, decide_eq_true_eq, decide_eq_false_iff_not, MH.put_same, if_true, if_false, not_true_eq_false, not_false_eq_true, exists_eq_left, exists_eq_left', Option.some.injEq, MO.lst.injEq, MH.put_put, at_0, at_1, at_2, at_3, Int.ofNat_lt, Int.ofNat_le, ix_30, ix_31, ix_32, Nat.zero_add, Int.zero_add, Nat.reduceAdd, D.lst.injEq, lenOk, Nat.reduceLeDiff, rowD_inj, strs_inj, ints_inj, ex_ins, tyNm, ts_NoneType_bool, ts_NoneType_int, ts_NoneType_str, ts_NoneType_tuple, ts_NoneType_list, ts_bool_bool, ts_bool_int, ts_bool_str, ts_bool_tuple, ts_bool_list, ts_int_bool, ts_int_int, ts_int_str, ts_int_tuple, ts_int_list, ts_str_bool, ts_str_int, ts_str_str, ts_str_tuple, ts_str_list, ts_tuple_bool, ts_tuple_int, ts_tuple_str, ts_tuple_tuple, ts_tuple_list, ts_list_bool, ts_list_int, ts_list_str, ts_list_tuple, ts_list_list, ins_row, isC_row, row_ne, Int.natCast_inj, Int.toNat_natCast, D.int.injEq, D.str.injEq, D.bl.injEq, D.tup.injEq, D.ref.injEq, D.scr.injEq]
      refine ⟨by omega, by omega, by omega, f1 ++ [mw[m]], mw.eraseIdx m, perm_take hm (get_c hm2), by rw [List.length_append, hk2]; simp; omega, o2, ho2, ?_⟩
      rw [ek, show k + 1 - 12 = 0 by omega]
      simp [map_eraseIdx]
    · have hge2 : 12 ≤ k := by omega
      obtain ⟨i, rfl⟩ : ∃ i, k = 12 + i := ⟨k - 12, by omega⟩
      have hi : i < 26 := by omega
      have tab : ∀ j : Nat, j < 26 → atI (("abcdefghijklmnopqrstuvwxyz" : Str)).cps.toList (j : Int) = some (97 + j : Nat) := by decide +kernel
      have e1 : ((12 + i : Nat) : Int) - 12 = i := by omega
      have k1 : (("k" : Str)).length = 1 := by decide
      have k2 : ∀ c : Nat, Str.length ⟨#[c]⟩ = 1 := fun c => rfl
      have k3 : ∀ c : Nat, Str.length ⟨List.foldl (fun x1 x2 => x1 ++ x2) #[] (List.replicate (Int.toNat 2) #[c])⟩ = 2 := fun c => rfl
      simp only [e1, tab i hi, k1, k2, k3, dDk1, dicPO, eqOwnL, eqPairs, eqOne, dJoin, dMk, dstart, ends, dVar, dC, dOp, i2, ltO, leO, gtO, geO, subO, dTest, dAnd, dOr, dNot, asV, dAndV, dOrV, dNotV, dIf, dNil, dCons, dStar, dTup, dLst, dNew, seqD, lstD, datD, eqOp, neOp, addOp, mulOp, mulM, addM, divOp, modOp, powOp, isOp, isntOp, dNext, dSeq, dDrop, dRet, dRetN, dIfS, dBreak, dCont, dNever, dFrz, dgName, dgNil, dgCons, dgTup, dgSub, dAsg, dSet, dPar, dAugI, dSeqI, dRng1, dRng2, dEnum, dFor, dLast, dLink, dCh, dYes, dLc, dCall, dCall0, dFld, dMeth, dMeth0, dFrzO, frzO, dCB, ob1, ob2, oI, ii2, lenO, intO, sumO, intsO, blsO, strsO, reprO, absO, maxO, minO, dmO, tupO, lstO, lstMO, maxLO, minLO, anyO, allO, strIO, srtSO, srtO, srtIO, numsD_lst, numsD_tup, nats_inj, nats_len, stepD_inj, nc0, nc1, nc2, nc3, nc4, nc5, nc6, nc7, nc8, nc9, nc10, nc11, nc12, nc13, nc14, nc15, nc16, nc17, nc18, nc19, nc20, appendM, popM, extendM, insertM, indexM, indexTM, updateM, dBMT, dBMT.tupT, dinOp, dgetOp, dGet2, dsPut, dNewK, dDc, dPar3, dNeg, dkO_inj, dkO_ne, dkO_ne2, lenM_dk, keyD_int, keyD_str, dic_dk, dicA_dk, moTy_dk, moTy_lst, moTy_none, dIsi, inOp, ixOp, dSl, slOp, dRev, dBM, dBM0, refL, tyD, lenM_lst, dNoP, dPart, dCallN, dMake, dProp, eqOwn, neOwn, lenOwn, strOwn, dIsO, dMethN, dsFld, dRevT, dStrI, insD_obj, insD_ref, isC_obj, isC_ref, isC_non, isC_bl, isC_int, isC_str, isC_tup, isC_lst, ex_ins2, beq_self_eq_true, Bool.not_eq_eq_eq_not, decide_true, decide_false, okN_bl, okN_int, okN_non, exists_and_left, and_assoc, List.cons.injEq, dListRg1, dListRg2, pick, List.filterMap_cons, List.filterMap_nil, List.set_cons_zero, List.set_cons_succ, List.getElem?_cons_zero, List.getElem?_cons_succ, List.getElem?_nil, List.length_cons, List.length_nil, List.length_append, List.length_map, List.length_range, rangeD_length, enumD_length, List.cons_append, List.nil_append, forall_const, true_implies, false_implies, reduceCtorEq, Bool.not_true, Bool.not_false, and_true, true_and, decide_eq_true_eq, decide_eq_false_iff_not, MH.put_same, if_true, if_false, not_true_eq_false, not_false_eq_true, exists_eq_left, exists_eq_left', Option.some.injEq, MO.lst.injEq, MH.put_put, at_0, at_1, at_2, at_3, Int.ofNat_lt, Int.ofNat_le, ix_30, ix_31, ix_32, Nat.zero_add, Int.zero_add, Nat.reduceAdd, D.lst.injEq, lenOk, Nat.reduceLeDiff, rowD_inj, strs_inj, ints_inj, ex_ins, tyNm, ts_NoneType_bool, ts_NoneType_int, ts_NoneType_str, ts_NoneType_tuple, ts_NoneType_list, ts_bool_bool, ts_bool_int, ts_bool_str, ts_bool_tuple, ts_bool_list, ts_int_bool, ts_int_int, ts_int_str, ts_int_tuple, ts_int_list, ts_str_bool, ts_str_int, ts_str_str, ts_str_tuple, ts_str_list, ts_tuple_bool, ts_tuple_int, ts_tuple_str, ts_tuple_tuple, ts_tuple_list, ts_list_bool, ts_list_int, ts_list_str, ts_list_tuple, ts_list_list, ins_row, isC_row, row_ne, Int.natCast_inj, Int.toNat_natCast, D.int.injEq, D.str.injEq, D.bl.injEq, D.tup.injEq, D.ref.injEq, D.scr.injEq]
      repeat (refine And.intro (by first | omega | (with_reducible assumption) | decide | exact okN_tupS (by assumption)) ?_)
      refine ⟨f1, mw, hm, by omega, o, ho, ?_⟩
      rw [show 12 + i - 12 = i by omega, show 12 + i + 1 - 12 = i + 1 by omega, List.range_succ]
      simp only [List.map_append, List.append_assoc]
      rfl

theorem ok_law_line (T : Txt ⟨P, w, K, mg, base⟩) : Cal ⟨P, w, K, mg, base⟩ "_law_line" 2 ["_law_bag_here", "_law_size"] sp_law_line := cal_mk T.t_law_line F_law_line (r_law_line T) pl_law_line
def sp_law_of : DSp := fun ds M Q _ => match ds with
  | [.ref p, d] => ∃ xs, seqDD d xs ∧ (∃ o, M p = some o ∧ BagOk o) ∧ 0 < xs.length ∧ xs.length < 1000 ∧ ∀ x, x ∈ xs → ∀ o, BagOk o → Q x (M.put p o)
  | _ => False

def d_law_of : DS :=
  (dRet (dOp ixOp (dVar 1) (dCall 2 sp_law_take (dCons (dVar 0) (dCons (dCB (ob1 lenO) (dCons (dVar 1) dNil)) dNil)))))
theorem st_law_of (v0 v1 : D) : dstart N_law_of [v0, v1] = [some v0, some v1] := rfl
theorem r_law_of (T : Txt ⟨P, w, K, mg, base⟩) : DPSs ⟨P, w, K, mg, base⟩ (Sx.fn N_law_of (defScope s_law_of) 1) (defBody s_law_of) d_law_of :=
  (dpss_one (dps_ret (dp_ix (dp_var S_law_of 1) (dp_call (ok_law_take T) S_law_of (dpa_cons (dp_var S_law_of 0) (by exact (dpa_cons (dp_callB S_law_of T.z_len (fun X ft => cb_len) boot_len (dpa_cons (dp_var S_law_of 1) dpa_nil)) dpa_nil)))))))
theorem pl_law_of (ds : List D) (M : MH) (Q : DQ) (E : Er → MH → Prop) (hl : ds.length = 2) (h : sp_law_of ds M Q E) : d_law_of (ends Q) (fun er _ M => E er M) (dstart N_law_of ds) M := by
  unfold sp_law_of at h
  split at h
  case h_2 => exact h.elim
  rename_i p d
  rw [st_law_of]
  obtain ⟨xs, hd, hb, h0, h1, h⟩ := h
  rcases hd with rfl | rfl
  all_goals
    simp only [d_law_of, sp_law_take, dDk1, dicPO, eqOwnL, eqPairs, eqOne, dJoin, dMk, dstart, ends, dVar, dC, dOp, i2, ltO, leO, gtO, geO, subO, dTest, dAnd, dOr, dNot, asV, dAndV, dOrV, dNotV, dIf, dNil, dCons, dStar, dTup, dLst, dNew, seqD, lstD, datD, eqOp, neOp, addOp, mulOp, mulM, addM, divOp, modOp, powOp, isOp, isntOp, dNext, dSeq, dDrop, dRet, dRetN, dIfS, dBreak, dCont, dNever, dFrz, dgName, dgNil, dgCons, dgTup, dgSub, dAsg, dSet, dPar, dAugI, dSeqI, dRng1, dRng2, dEnum, dFor, dLast, dLink, dCh, dYes, dLc, dCall, dCall0, dFld, dMeth, dMeth0, dFrzO, frzO, dCB, ob1, ob2, oI, ii2, lenO, intO, sumO, intsO, blsO, strsO, reprO, absO, maxO, minO, dmO, tupO, lstO, lstMO, maxLO, minLO, anyO, allO, strIO, srtSO, srtO, srtIO, numsD_lst, numsD_tup, nats_inj, nats_len, stepD_inj, nc0, nc1, nc2, nc3, nc4, nc5, nc6, nc7, nc8, nc9, nc10, nc11, nc12, nc13, nc14, nc15, nc16, nc17, nc18, nc19, nc20, appendM, popM, extendM, insertM, indexM, indexTM, updateM, dBMT, dBMT.tupT, dinOp, dgetOp, dGet2, dsPut, dNewK, dDc, dPar3, dNeg, dkO_inj, dkO_ne, dkO_ne2, lenM_dk, keyD_int, keyD_str, dic_dk, dicA_dk, moTy_dk, moTy_lst, moTy_none, dIsi, inOp, ixOp, dSl, slOp, dRev, dBM, dBM0, refL, tyD, lenM_lst, dNoP, dPart, dCallN, dMake, dProp, eqOwn, neOwn, lenOwn, strOwn, dIsO, dMethN, dsFld, dRevT, dStrI, insD_obj, insD_ref, isC_obj, isC_ref, isC_non, isC_bl, isC_int, isC_str, isC_tup, isC_lst, ex_ins2, beq_self_eq_true, Bool.not_eq_eq_eq_not, decide_true, decide_false, okN_bl, okN_int, okN_non, exists_and_left, and_assoc, List.cons.injEq, dListRg1, dListRg2, pick, List.filterMap_cons, List.filterMap_nil, List.set_cons_zero, List.set_cons_succ, List.getElem?_cons_zero, List.getElem?_cons_succ, List.getElem?_nil, List.length_cons, List.length_nil, List.length_append, List.length_map, List.length_range, rangeD_length, enumD_length, List.cons_append, List.nil_append, forall_const, true_implies, false_implies, reduceCtorEq, Bool.not_true, Bool.not_false, and_true, true_and, decide_eq_true_eq, decide_eq_false_iff_not, MH.put_same, if_true, if_false, not_true_eq_false, not_false_eq_true, exists_eq_left, exists_eq_left', Option.some.injEq, MO.lst.injEq, MH.put_put, at_0, at_1, at_2, at_3, Int.ofNat_lt, Int.ofNat_le, ix_30, ix_31, ix_32, Nat.zero_add, Int.zero_add, Nat.reduceAdd, D.lst.injEq, lenOk, Nat.reduceLeDiff, rowD_inj, strs_inj, ints_inj, ex_ins, tyNm, ts_NoneType_bool, ts_NoneType_int, ts_NoneType_str, ts_NoneType_tuple, ts_NoneType_list, ts_bool_bool, ts_bool_int, ts_bool_str, ts_bool_tuple, ts_bool_list, ts_int_bool, ts_int_int, ts_int_str, ts_int_tuple, ts_int_list, ts_str_bool, ts_str_int, ts_str_str, ts_str_tuple, ts_str_list, ts_tuple_bool, ts_tuple_int, ts_tuple_str, ts_tuple_tuple, ts_tuple_list, ts_list_bool, ts_list_int, ts_list_str, ts_list_tuple, ts_list_list, ins_row, isC_row, row_ne, Int.natCast_inj, Int.toNat_natCast, D.int.injEq, D.str.injEq, D.bl.injEq, D.tup.injEq, D.ref.injEq, D.scr.injEq]
    refine ⟨hb, by omega, by omega, fun m o hr ho => ?_⟩
    have hm : m < xs.length := by omega
    exact ⟨xs[m], atI_nat rfl hm, _, .refl, h _ (List.getElem_mem hm) _ ho⟩

theorem ok_law_of (T : Txt ⟨P, w, K, mg, base⟩) : Cal ⟨P, w, K, mg, base⟩ "_law_of" 2 ["_law_bag_here", "_law_some_here"] sp_law_of := cal_mk T.t_law_of F_law_of (r_law_of T) pl_law_of
def sp_law_from : DSp := fun ds M Q _ => match ds with
  | [.tup xs, .str w] => ∃ ws : List Str, xs = ws.map .str ∧ w ∈ ws ∧ ws.length ≤ 60 ∧ Q (.tup ((rotW ws w).map .str)) M
  | _ => False

def d_law_from : DS :=
  (dSeq (dSet 2 (dBMT indexTM (dVar 0) (dCons (dVar 1) dNil)))
    (dRet (dOp addOp (dSl (dVar 0) (dPart (dVar 2)) dNoP) (dSl (dVar 0) dNoP (dPart (dVar 2))))))
theorem st_law_from (v0 v1 : D) : dstart N_law_from [v0, v1] = [some v0, some v1, none] := rfl
theorem r_law_from (T : Txt ⟨P, w, K, mg, base⟩) : DPSs ⟨P, w, K, mg, base⟩ (Sx.fn N_law_from (defScope s_law_from) 0) (defBody s_law_from) d_law_from :=
  (dpss_cons (dps_set L_law_from 2 (dp_bmT sl_tuple_index ty_tuple_index (fun _ _ => mb_indexT) (dp_var S_law_from 0) (dpa_cons (dp_var S_law_from 1) dpa_nil)))
    (by exact (dpss_one (dps_ret (dp_bin (fun _ ft => opD_add ft) (dp_slice (dp_var S_law_from 0) (dpo_some (dp_var S_law_from 2)) dpo_none) (dp_slice (dp_var S_law_from 0) dpo_none (dpo_some (dp_var S_law_from 2))))))))
theorem pl_law_from (ds : List D) (M : MH) (Q : DQ) (E : Er → MH → Prop) (hl : ds.length = 2) (h : sp_law_from ds M Q E) : d_law_from (ends Q) (fun er _ M => E er M) (dstart N_law_from ds) M := by
  unfold sp_law_from at h
  split at h
  case h_2 => exact h.elim
  rename_i xs w
  rw [st_law_from]
  obtain ⟨ws, rfl, hw, hl, h⟩ := h
  have hi := List.idxOf_lt_length_of_mem hw
  have rc := rot_cut (ws := ws) (k := ws.idxOf w) (by omega)
  have l1 : (cutD (ws.map D.str) (some ((ws.idxOf w : Nat) : Int)) none).length + (cutD (ws.map D.str) none (some ((ws.idxOf w : Nat) : Int))).length = ws.length := by
    rw [← List.length_append, rc, List.length_map, rotL_len]
  simp only [d_law_from, rc, dDk1, dicPO, eqOwnL, eqPairs, eqOne, dJoin, dMk, dstart, ends, dVar, dC, dOp, i2, ltO, leO, gtO, geO, subO, dTest, dAnd, dOr, dNot, asV, dAndV, dOrV, dNotV, dIf, dNil, dCons, dStar, dTup, dLst, dNew, seqD, lstD, datD, eqOp, neOp, addOp, mulOp, mulM, addM, divOp, modOp, powOp, isOp, isntOp, dNext, dSeq, dDrop, dRet, dRetN, dIfS, dBreak, dCont, dNever, dFrz, dgName, dgNil, dgCons, dgTup, dgSub, dAsg, dSet, dPar, dAugI, dSeqI, dRng1, dRng2, dEnum, dFor, dLast, dLink, dCh, dYes, dLc, dCall, dCall0, dFld, dMeth, dMeth0, dFrzO, frzO, dCB, ob1, ob2, oI, ii2, lenO, intO, sumO, intsO, blsO, strsO, reprO, absO, maxO, minO, dmO, tupO, lstO, lstMO, maxLO, minLO, anyO, allO, strIO, srtSO, srtO, srtIO, numsD_lst, numsD_tup, nats_inj, nats_len, stepD_inj, nc0, nc1, nc2, nc3, nc4, nc5, nc6, nc7, nc8, nc9, nc10, nc11, nc12, nc13, nc14, nc15, nc16, nc17, nc18, nc19, nc20, appendM, popM, extendM, insertM, indexM, indexTM, updateM, dBMT, dBMT.tupT, dinOp, dgetOp, dGet2, dsPut, dNewK, dDc, dPar3, dNeg, dkO_inj, dkO_ne, dkO_ne2, lenM_dk, keyD_int, keyD_str, dic_dk, dicA_dk, moTy_dk, moTy_lst, moTy_none, dIsi, inOp, ixOp, dSl, slOp, dRev, dBM, dBM0, refL, tyD, lenM_lst, dNoP, dPart, dCallN, dMake, dProp, eqOwn, neOwn, lenOwn, strOwn, dIsO, dMethN, dsFld, dRevT, dStrI, insD_obj, insD_ref, isC_obj, isC_ref, isC_non, isC_bl, isC_int, isC_str, isC_tup, isC_lst, ex_ins2, beq_self_eq_true, Bool.not_eq_eq_eq_not, decide_true, decide_false, okN_bl, okN_int, okN_non, exists_and_left, and_assoc, List.cons.injEq, dListRg1, dListRg2, pick, List.filterMap_cons, List.filterMap_nil, List.set_cons_zero, List.set_cons_succ, List.getElem?_cons_zero, List.getElem?_cons_succ, List.getElem?_nil, List.length_cons, List.length_nil, List.length_append, List.length_map, List.length_range, rangeD_length, enumD_length, List.cons_append, List.nil_append, forall_const, true_implies, false_implies, reduceCtorEq, Bool.not_true, Bool.not_false, and_true, true_and, decide_eq_true_eq, decide_eq_false_iff_not, MH.put_same, if_true, if_false, not_true_eq_false, not_false_eq_true, exists_eq_left, exists_eq_left', Option.some.injEq, MO.lst.injEq, MH.put_put, at_0, at_1, at_2, at_3, Int.ofNat_lt, Int.ofNat_le, ix_30, ix_31, ix_32, Nat.zero_add, Int.zero_add, Nat.reduceAdd, D.lst.injEq, lenOk, Nat.reduceLeDiff, rowD_inj, strs_inj, ints_inj, ex_ins, tyNm, ts_NoneType_bool, ts_NoneType_int, ts_NoneType_str, ts_NoneType_tuple, ts_NoneType_list, ts_bool_bool, ts_bool_int, ts_bool_str, ts_bool_tuple, ts_bool_list, ts_int_bool, ts_int_int, ts_int_str, ts_int_tuple, ts_int_list, ts_str_bool, ts_str_int, ts_str_str, ts_str_tuple, ts_str_list, ts_tuple_bool, ts_tuple_int, ts_tuple_str, ts_tuple_tuple, ts_tuple_list, ts_list_bool, ts_list_int, ts_list_str, ts_list_tuple, ts_list_list, ins_row, isC_row, row_ne, Int.natCast_inj, Int.toNat_natCast, D.int.injEq, D.str.injEq, D.bl.injEq, D.tup.injEq, D.ref.injEq, D.scr.injEq]
  exact ⟨hw, by omega, _, .refl, h⟩

theorem ok_law_from (T : Txt ⟨P, w, K, mg, base⟩) : Cal ⟨P, w, K, mg, base⟩ "_law_from" 1 ["_law_line_here", "_law_head"] sp_law_from := cal_mk T.t_law_from F_law_from (r_law_from T) pl_law_from
def sp_is_name : DSp := fun ds M Q _ => match ds with
  | [.str w] => goodW w ∧ Q (.bl true) M
  | _ => False

def d_is_name_e1 : DE :=
  (dOp (inOp false) (dVar 1) (dC (.str "abcdefghijklmnopqrstuvwxyz")))
def d_is_name : DS :=
  (dRet (dAndV (dIsi "str" (dVar 0)) (dAndV (asV (dCh (dC (.int 0)) (dLink ltO (dCB (ob1 lenO) (dCons (dVar 0) dNil)) (dLast ltO (dC (.int 9)))))) (dCB (ob1 allO) (dCons (dLc (dStrI (dVar 0)) (dgName 1) dYes d_is_name_e1 [1]) dNil)))))
theorem st_is_name (v0 : D) : dstart N_is_name [v0] = [some v0, none] := rfl
theorem r_is_name (T : Txt ⟨P, w, K, mg, base⟩) : DPSs ⟨P, w, K, mg, base⟩ (Sx.fn N_is_name (defScope s_is_name) 0) (defBody s_is_name) d_is_name :=
  (dpss_one (dps_ret (dp_and (dp_isi S_is_name "str" T.z_isinstance T.z_str boot_str (dp_var S_is_name 0)) (dp_and (dp_chain dp_int (dpc_link (fun _ ft => opD_lt ft) (dp_callB S_is_name T.z_len (fun X ft => cb_len) boot_len (dpa_cons (dp_var S_is_name 0) dpa_nil)) (dpc_last (fun _ ft => opD_lt ft) dp_int))) (dp_one (dp_callB S_is_name T.z_all (fun X ft => (cb_all ft rfl)) boot_all (dpa_cons (dp_lc [("sign", 1)] (by decide +kernel) (dpi_str (dp_var S_is_name 0)) (dpg_name (stOk_of (ls := [1]) (by decide +kernel)) 1) dpts_nil (dp_cmp (fun _ ft => opD_in ft) (dp_var (scOk_of (vs := [1]) (gs := ["LETTERS"]) (by decide +kernel)) 1) (dp_gstr (scOk_of (vs := [1]) (gs := ["LETTERS"]) (by decide +kernel)) T.c_LETTERS) (by with_unfolding_all rfl))) dpa_nil)))))))
theorem pl_is_name (ds : List D) (M : MH) (Q : DQ) (E : Er → MH → Prop) (hl : ds.length = 1) (h : sp_is_name ds M Q E) : d_is_name (ends Q) (fun er _ M => E er M) (dstart N_is_name ds) M := by
  unfold sp_is_name at h
  split at h
  case h_2 => exact h.elim
  rename_i w
  rw [st_is_name]
  obtain ⟨⟨g0, g1, g2⟩, h⟩ := h
  have e : tySub "str" "str" = true := by decide
  simp only [d_is_name, dDk1, dicPO, eqOwnL, eqPairs, eqOne, dJoin, dMk, dstart, ends, dVar, dC, dOp, i2, ltO, leO, gtO, geO, subO, dTest, dAnd, dOr, dNot, asV, dAndV, dOrV, dNotV, dIf, dNil, dCons, dStar, dTup, dLst, dNew, seqD, lstD, datD, eqOp, neOp, addOp, mulOp, mulM, addM, divOp, modOp, powOp, isOp, isntOp, dNext, dSeq, dDrop, dRet, dRetN, dIfS, dBreak, dCont, dNever, dFrz, dgName, dgNil, dgCons, dgTup, dgSub, dAsg, dSet, dPar, dAugI, dSeqI, dRng1, dRng2, dEnum, dFor, dLast, dLink, dCh, dYes, dLc, dCall, dCall0, dFld, dMeth, dMeth0, dFrzO, frzO, dCB, ob1, ob2, oI, ii2, lenO, intO, sumO, intsO, blsO, strsO, reprO, absO, maxO, minO, dmO, tupO, lstO, lstMO, maxLO, minLO, anyO, allO, strIO, srtSO, srtO, srtIO, numsD_lst, numsD_tup, nats_inj, nats_len, stepD_inj, nc0, nc1, nc2, nc3, nc4, nc5, nc6, nc7, nc8, nc9, nc10, nc11, nc12, nc13, nc14, nc15, nc16, nc17, nc18, nc19, nc20, appendM, popM, extendM, insertM, indexM, indexTM, updateM, dBMT, dBMT.tupT, dinOp, dgetOp, dGet2, dsPut, dNewK, dDc, dPar3, dNeg, dkO_inj, dkO_ne, dkO_ne2, lenM_dk, keyD_int, keyD_str, dic_dk, dicA_dk, moTy_dk, moTy_lst, moTy_none, dIsi, inOp, ixOp, dSl, slOp, dRev, dBM, dBM0, refL, tyD, lenM_lst, dNoP, dPart, dCallN, dMake, dProp, eqOwn, neOwn, lenOwn, strOwn, dIsO, dMethN, dsFld, dRevT, dStrI, insD_obj, insD_ref, isC_obj, isC_ref, isC_non, isC_bl, isC_int, isC_str, isC_tup, isC_lst, ex_ins2, beq_self_eq_true, Bool.not_eq_eq_eq_not, decide_true, decide_false, okN_bl, okN_int, okN_non, exists_and_left, and_assoc, List.cons.injEq, dListRg1, dListRg2, pick, List.filterMap_cons, List.filterMap_nil, List.set_cons_zero, List.set_cons_succ, List.getElem?_cons_zero, List.getElem?_cons_succ, List.getElem?_nil, List.length_cons, List.length_nil, List.length_append, List.length_map, List.length_range, rangeD_length, enumD_length, List.cons_append, List.nil_append, forall_const, true_implies, false_implies, reduceCtorEq, Bool.not_true, Bool.not_false, and_true, true_and, decide_eq_true_eq, decide_eq_false_iff_not, MH.put_same, if_true, if_false, not_true_eq_false, not_false_eq_true, exists_eq_left, exists_eq_left', Option.some.injEq, MO.lst.injEq, MH.put_put, at_0, at_1, at_2, at_3, Int.ofNat_lt, Int.ofNat_le, ix_30, ix_31, ix_32, Nat.zero_add, Int.zero_add, Nat.reduceAdd, D.lst.injEq, lenOk, Nat.reduceLeDiff, rowD_inj, strs_inj, ints_inj, ex_ins, tyNm, ts_NoneType_bool, ts_NoneType_int, ts_NoneType_str, ts_NoneType_tuple, ts_NoneType_list, ts_bool_bool, ts_bool_int, ts_bool_str, ts_bool_tuple, ts_bool_list, ts_int_bool, ts_int_int, ts_int_str, ts_int_tuple, ts_int_list, ts_str_bool, ts_str_int, ts_str_str, ts_str_tuple, ts_str_list, ts_tuple_bool, ts_tuple_int, ts_tuple_str, ts_tuple_tuple, ts_tuple_list, ts_list_bool, ts_list_int, ts_list_str, ts_list_tuple, ts_list_list, ins_row, isC_row, row_ne, Int.natCast_inj, Int.toNat_natCast, D.int.injEq, D.str.injEq, D.bl.injEq, D.tup.injEq, D.ref.injEq, D.scr.injEq, tyNm, e]
  refine ⟨by omega, fun _ => ⟨fun _ => ⟨by omega, ?_⟩, fun hn => absurd hn (by omega)⟩, fun hn => absurd hn (by omega)⟩
  refine lc_idx (fun _ => .bl true) (by unfold lenOk signsD; rw [List.length_map, Array.length_toList]; have : w.length = w.cps.size := rfl; omega) ?_ ?_
  · intro p acc i hi C hp hC
    have hi2 : i < w.cps.toList.length := by unfold signsD at hi; rwa [List.length_map] at hi
    have es : (signsD w)[i] = .str ⟨#[w.cps.toList[i]]⟩ := by simp [signsD]
    rw [es]
    simp only [wipeD, d_is_name_e1, dDk1, dicPO, eqOwnL, eqPairs, eqOne, dJoin, dMk, dstart, ends, dVar, dC, dOp, i2, ltO, leO, gtO, geO, subO, dTest, dAnd, dOr, dNot, asV, dAndV, dOrV, dNotV, dIf, dNil, dCons, dStar, dTup, dLst, dNew, seqD, lstD, datD, eqOp, neOp, addOp, mulOp, mulM, addM, divOp, modOp, powOp, isOp, isntOp, dNext, dSeq, dDrop, dRet, dRetN, dIfS, dBreak, dCont, dNever, dFrz, dgName, dgNil, dgCons, dgTup, dgSub, dAsg, dSet, dPar, dAugI, dSeqI, dRng1, dRng2, dEnum, dFor, dLast, dLink, dCh, dYes, dLc, dCall, dCall0, dFld, dMeth, dMeth0, dFrzO, frzO, dCB, ob1, ob2, oI, ii2, lenO, intO, sumO, intsO, blsO, strsO, reprO, absO, maxO, minO, dmO, tupO, lstO, lstMO, maxLO, minLO, anyO, allO, strIO, srtSO, srtO, srtIO, numsD_lst, numsD_tup, nats_inj, nats_len, stepD_inj, nc0, nc1, nc2, nc3, nc4, nc5, nc6, nc7, nc8, nc9, nc10, nc11, nc12, nc13, nc14, nc15, nc16, nc17, nc18, nc19, nc20, appendM, popM, extendM, insertM, indexM, indexTM, updateM, dBMT, dBMT.tupT, dinOp, dgetOp, dGet2, dsPut, dNewK, dDc, dPar3, dNeg, dkO_inj, dkO_ne, dkO_ne2, lenM_dk, keyD_int, keyD_str, dic_dk, dicA_dk, moTy_dk, moTy_lst, moTy_none, dIsi, inOp, ixOp, dSl, slOp, dRev, dBM, dBM0, refL, tyD, lenM_lst, dNoP, dPart, dCallN, dMake, dProp, eqOwn, neOwn, lenOwn, strOwn, dIsO, dMethN, dsFld, dRevT, dStrI, insD_obj, insD_ref, isC_obj, isC_ref, isC_non, isC_bl, isC_int, isC_str, isC_tup, isC_lst, ex_ins2, beq_self_eq_true, Bool.not_eq_eq_eq_not, decide_true, decide_false, okN_bl, okN_int, okN_non, exists_and_left, and_assoc, List.cons.injEq, dListRg1, dListRg2, pick, List.filterMap_cons, List.filterMap_nil, List.set_cons_zero, List.set_cons_succ, List.getElem?_cons_zero, List.getElem?_cons_succ, List.getElem?_nil, List.length_cons, List.length_nil, List.length_append, List.length_map, List.length_range, rangeD_length, enumD_length, List.cons_append, List.nil_append, forall_const, true_implies, false_implies, reduceCtorEq, Bool.not_true, Bool.not_false, and_true, true_and, decide_eq_true_eq, decide_eq_false_iff_not, MH.put_same, if_true, if_false, not_true_eq_false, not_false_eq_true, exists_eq_left, exists_eq_left', Option.some.injEq, MO.lst.injEq, MH.put_put, at_0, at_1, at_2, at_3, Int.ofNat_lt, Int.ofNat_le, ix_30, ix_31, ix_32, Nat.zero_add, Int.zero_add, Nat.reduceAdd, D.lst.injEq, lenOk, Nat.reduceLeDiff, rowD_inj, strs_inj, ints_inj, ex_ins, tyNm, ts_NoneType_bool, ts_NoneType_int, ts_NoneType_str, ts_NoneType_tuple, ts_NoneType_list, ts_bool_bool, ts_bool_int, ts_bool_str, ts_bool_tuple, ts_bool_list, ts_int_bool, ts_int_int, ts_int_str, ts_int_tuple, ts_int_list, ts_str_bool, ts_str_int, ts_str_str, ts_str_tuple, ts_str_list, ts_tuple_bool, ts_tuple_int, ts_tuple_str, ts_tuple_tuple, ts_tuple_list, ts_list_bool, ts_list_int, ts_list_str, ts_list_tuple, ts_list_list, ins_row, isC_row, row_ne, Int.natCast_inj, Int.toNat_natCast, D.int.injEq, D.str.injEq, D.bl.injEq, D.tup.injEq, D.ref.injEq, D.scr.injEq]
    refine ⟨_, rfl, ?_⟩
    have hm := g2 _ (List.getElem_mem hi2)
    have ed : decide (w.cps.toList[i] ∈ (("abcdefghijklmnopqrstuvwxyz" : Str)).cps.toList) = true := decide_eq_true hm
    rw [ed]
    exact hC
  · simp only [dDk1, dicPO, eqOwnL, eqPairs, eqOne, dJoin, dMk, dstart, ends, dVar, dC, dOp, i2, ltO, leO, gtO, geO, subO, dTest, dAnd, dOr, dNot, asV, dAndV, dOrV, dNotV, dIf, dNil, dCons, dStar, dTup, dLst, dNew, seqD, lstD, datD, eqOp, neOp, addOp, mulOp, mulM, addM, divOp, modOp, powOp, isOp, isntOp, dNext, dSeq, dDrop, dRet, dRetN, dIfS, dBreak, dCont, dNever, dFrz, dgName, dgNil, dgCons, dgTup, dgSub, dAsg, dSet, dPar, dAugI, dSeqI, dRng1, dRng2, dEnum, dFor, dLast, dLink, dCh, dYes, dLc, dCall, dCall0, dFld, dMeth, dMeth0, dFrzO, frzO, dCB, ob1, ob2, oI, ii2, lenO, intO, sumO, intsO, blsO, strsO, reprO, absO, maxO, minO, dmO, tupO, lstO, lstMO, maxLO, minLO, anyO, allO, strIO, srtSO, srtO, srtIO, numsD_lst, numsD_tup, nats_inj, nats_len, stepD_inj, nc0, nc1, nc2, nc3, nc4, nc5, nc6, nc7, nc8, nc9, nc10, nc11, nc12, nc13, nc14, nc15, nc16, nc17, nc18, nc19, nc20, appendM, popM, extendM, insertM, indexM, indexTM, updateM, dBMT, dBMT.tupT, dinOp, dgetOp, dGet2, dsPut, dNewK, dDc, dPar3, dNeg, dkO_inj, dkO_ne, dkO_ne2, lenM_dk, keyD_int, keyD_str, dic_dk, dicA_dk, moTy_dk, moTy_lst, moTy_none, dIsi, inOp, ixOp, dSl, slOp, dRev, dBM, dBM0, refL, tyD, lenM_lst, dNoP, dPart, dCallN, dMake, dProp, eqOwn, neOwn, lenOwn, strOwn, dIsO, dMethN, dsFld, dRevT, dStrI, insD_obj, insD_ref, isC_obj, isC_ref, isC_non, isC_bl, isC_int, isC_str, isC_tup, isC_lst, ex_ins2, beq_self_eq_true, Bool.not_eq_eq_eq_not, decide_true, decide_false, okN_bl, okN_int, okN_non, exists_and_left, and_assoc, List.cons.injEq, dListRg1, dListRg2, pick, List.filterMap_cons, List.filterMap_nil, List.set_cons_zero, List.set_cons_succ, List.getElem?_cons_zero, List.getElem?_cons_succ, List.getElem?_nil, List.length_cons, List.length_nil, List.length_append, List.length_map, List.length_range, rangeD_length, enumD_length, List.cons_append, List.nil_append, forall_const, true_implies, false_implies, reduceCtorEq, Bool.not_true, Bool.not_false, and_true, true_and, decide_eq_true_eq, decide_eq_false_iff_not, MH.put_same, if_true, if_false, not_true_eq_false, not_false_eq_true, exists_eq_left, exists_eq_left', Option.some.injEq, MO.lst.injEq, MH.put_put, at_0, at_1, at_2, at_3, Int.ofNat_lt, Int.ofNat_le, ix_30, ix_31, ix_32, Nat.zero_add, Int.zero_add, Nat.reduceAdd, D.lst.injEq, lenOk, Nat.reduceLeDiff, rowD_inj, strs_inj, ints_inj, ex_ins, tyNm, ts_NoneType_bool, ts_NoneType_int, ts_NoneType_str, ts_NoneType_tuple, ts_NoneType_list, ts_bool_bool, ts_bool_int, ts_bool_str, ts_bool_tuple, ts_bool_list, ts_int_bool, ts_int_int, ts_int_str, ts_int_tuple, ts_int_list, ts_str_bool, ts_str_int, ts_str_str, ts_str_tuple, ts_str_list, ts_tuple_bool, ts_tuple_int, ts_tuple_str, ts_tuple_tuple, ts_tuple_list, ts_list_bool, ts_list_int, ts_list_str, ts_list_tuple, ts_list_list, ins_row, isC_row, row_ne, Int.natCast_inj, Int.toNat_natCast, D.int.injEq, D.str.injEq, D.bl.injEq, D.tup.injEq, D.ref.injEq, D.scr.injEq]
    refine ⟨List.replicate (signsD w).length true, ?_, M, .refl, ?_⟩
    · rw [List.map_replicate]
      apply List.ext_getElem
      · simp
      · intro i h1 h2; simp
    · rw [show (List.replicate (signsD w).length true).all _root_.id = true by simp]
      exact h

theorem ok_is_name (T : Txt ⟨P, w, K, mg, base⟩) : Cal ⟨P, w, K, mg, base⟩ "is_name" 1 ["value"] sp_is_name := cal_mk T.t_is_name F_is_name (r_is_name T) pl_is_name
def sp_check_things : DSp := fun ds M Q _ => match ds with
  | [.tup xs] => ∃ ws : List Str, xs = ws.map .str ∧ GoodT ws ∧ Q .non M
  | _ => False

def d_check_things_b1 : DS :=
  (dIfS (dOr (dTest (dOp eqOp (dVar 1) (dC (.int 40)))) (dOr (dNot (dTest (dCall 1 sp_is_name (dCons (dVar 2) dNil)))) (dTest (dOp (inOp false) (dVar 2) (dSl (dVar 0) dNoP (dPart (dVar 1))))))) dNever dNext)
def d_check_things : DS :=
  (dSeq (dIfS (dOr (dNot (dTest (dIsi "tuple" (dVar 0)))) (dTest (dOp eqOp (dVar 0) (dTup dNil)))) dNever dNext)
    (dFor (dEnum (dCons (dVar 0) dNil)) (dgTup 2 (dgCons (dgName 1) (dgCons (dgName 2) dgNil))) d_check_things_b1))
theorem st_check_things (v0 : D) : dstart N_check_things [v0] = [some v0, none, none] := rfl
theorem r_check_things (T : Txt ⟨P, w, K, mg, base⟩) : DPSs ⟨P, w, K, mg, base⟩ (Sx.fn N_check_things (defScope s_check_things) 1) (defBody s_check_things) d_check_things :=
  (dpss_cons (dps_if (DPW.pt (dpw_or (dpt_not (dpt_val (dp_isi S_check_things "tuple" T.z_isinstance T.z_tuple boot_tuple (dp_var S_check_things 0)))) (dpw_or1 (dpt_cmp (fun _ ft => opD_eq ft) (dp_var S_check_things 0) (dp_tup dpa_nil) (by with_unfolding_all rfl))))) (dpss_one dps_never) dpss_nil)
    (by exact (dpss_one (dps_for (dpi_enum S_check_things T.z_enumerate (dpa_cons (dp_var S_check_things 0) dpa_nil)) (dpg_tup (n := 2) (dpgs_cons (dpg_name L_check_things 1) (dpgs_cons (dpg_name L_check_things 2) dpgs_nil))) (dpss_one (dps_if (DPW.pt (dpw_or (dpt_cmp (fun _ ft => opD_eq ft) (dp_var S_check_things 1) (dp_gint S_check_things T.c_MOST_THINGS) (by with_unfolding_all rfl)) (dpw_or (dpt_not (dpt_val (dp_call (ok_is_name T) S_check_things (dpa_cons (dp_var S_check_things 2) dpa_nil)))) (dpw_or1 (dpt_cmp (fun _ ft => opD_in ft) (dp_var S_check_things 2) (dp_slice (dp_var S_check_things 0) dpo_none (dpo_some (dp_var S_check_things 1))) (by with_unfolding_all rfl)))))) (dpss_one dps_never) dpss_nil))))))
theorem pl_check_things (ds : List D) (M : MH) (Q : DQ) (E : Er → MH → Prop) (hl : ds.length = 1) (h : sp_check_things ds M Q E) : d_check_things (ends Q) (fun er _ M => E er M) (dstart N_check_things ds) M := by
  unfold sp_check_things at h
  split at h
  case h_2 => exact h.elim
  rename_i xs
  rw [st_check_things]
  obtain ⟨ws, rfl, G, h⟩ := h
  have e : tySub "tuple" "tuple" = true := by decide
  simp only [d_check_things, dDk1, dicPO, eqOwnL, eqPairs, eqOne, dJoin, dMk, dstart, ends, dVar, dC, dOp, i2, ltO, leO, gtO, geO, subO, dTest, dAnd, dOr, dNot, asV, dAndV, dOrV, dNotV, dIf, dNil, dCons, dStar, dTup, dLst, dNew, seqD, lstD, datD, eqOp, neOp, addOp, mulOp, mulM, addM, divOp, modOp, powOp, isOp, isntOp, dNext, dSeq, dDrop, dRet, dRetN, dIfS, dBreak, dCont, dNever, dFrz, dgName, dgNil, dgCons, dgTup, dgSub, dAsg, dSet, dPar, dAugI, dSeqI, dRng1, dRng2, dEnum, dFor, dLast, dLink, dCh, dYes, dLc, dCall, dCall0, dFld, dMeth, dMeth0, dFrzO, frzO, dCB, ob1, ob2, oI, ii2, lenO, intO, sumO, intsO, blsO, strsO, reprO, absO, maxO, minO, dmO, tupO, lstO, lstMO, maxLO, minLO, anyO, allO, strIO, srtSO, srtO, srtIO, numsD_lst, numsD_tup, nats_inj, nats_len, stepD_inj, nc0, nc1, nc2, nc3, nc4, nc5, nc6, nc7, nc8, nc9, nc10, nc11, nc12, nc13, nc14, nc15, nc16, nc17, nc18, nc19, nc20, appendM, popM, extendM, insertM, indexM, indexTM, updateM, dBMT, dBMT.tupT, dinOp, dgetOp, dGet2, dsPut, dNewK, dDc, dPar3, dNeg, dkO_inj, dkO_ne, dkO_ne2, lenM_dk, keyD_int, keyD_str, dic_dk, dicA_dk, moTy_dk, moTy_lst, moTy_none, dIsi, inOp, ixOp, dSl, slOp, dRev, dBM, dBM0, refL, tyD, lenM_lst, dNoP, dPart, dCallN, dMake, dProp, eqOwn, neOwn, lenOwn, strOwn, dIsO, dMethN, dsFld, dRevT, dStrI, insD_obj, insD_ref, isC_obj, isC_ref, isC_non, isC_bl, isC_int, isC_str, isC_tup, isC_lst, ex_ins2, beq_self_eq_true, Bool.not_eq_eq_eq_not, decide_true, decide_false, okN_bl, okN_int, okN_non, exists_and_left, and_assoc, List.cons.injEq, dListRg1, dListRg2, pick, List.filterMap_cons, List.filterMap_nil, List.set_cons_zero, List.set_cons_succ, List.getElem?_cons_zero, List.getElem?_cons_succ, List.getElem?_nil, List.length_cons, List.length_nil, List.length_append, List.length_map, List.length_range, rangeD_length, enumD_length, List.cons_append, List.nil_append, forall_const, true_implies, false_implies, reduceCtorEq, Bool.not_true, Bool.not_false, and_true, true_and, decide_eq_true_eq, decide_eq_false_iff_not, MH.put_same, if_true, if_false, not_true_eq_false, not_false_eq_true, exists_eq_left, exists_eq_left', Option.some.injEq, MO.lst.injEq, MH.put_put, at_0, at_1, at_2, at_3, Int.ofNat_lt, Int.ofNat_le, ix_30, ix_31, ix_32, Nat.zero_add, Int.zero_add, Nat.reduceAdd, D.lst.injEq, lenOk, Nat.reduceLeDiff, rowD_inj, strs_inj, ints_inj, ex_ins, tyNm, ts_NoneType_bool, ts_NoneType_int, ts_NoneType_str, ts_NoneType_tuple, ts_NoneType_list, ts_bool_bool, ts_bool_int, ts_bool_str, ts_bool_tuple, ts_bool_list, ts_int_bool, ts_int_int, ts_int_str, ts_int_tuple, ts_int_list, ts_str_bool, ts_str_int, ts_str_str, ts_str_tuple, ts_str_list, ts_tuple_bool, ts_tuple_int, ts_tuple_str, ts_tuple_tuple, ts_tuple_list, ts_list_bool, ts_list_int, ts_list_str, ts_list_tuple, ts_list_list, ins_row, isC_row, row_ne, Int.natCast_inj, Int.toNat_natCast, D.int.injEq, D.str.injEq, D.bl.injEq, D.tup.injEq, D.ref.injEq, D.scr.injEq, tyNm, e]
  refine ⟨?_, ?_, ?_⟩
  · exact ok_strs (n := 49) G.good
  · simp [okN]
  · have ne : eqD (.tup (ws.map .str)) (.tup []) = false := by
      cases ws with
      | nil => exact absurd G.some (by simp)
      | cons w r => simp [eqD, eqDL]
    rw [ne]
    simp only [dDk1, dicPO, eqOwnL, eqPairs, eqOne, dJoin, dMk, dstart, ends, dVar, dC, dOp, i2, ltO, leO, gtO, geO, subO, dTest, dAnd, dOr, dNot, asV, dAndV, dOrV, dNotV, dIf, dNil, dCons, dStar, dTup, dLst, dNew, seqD, lstD, datD, eqOp, neOp, addOp, mulOp, mulM, addM, divOp, modOp, powOp, isOp, isntOp, dNext, dSeq, dDrop, dRet, dRetN, dIfS, dBreak, dCont, dNever, dFrz, dgName, dgNil, dgCons, dgTup, dgSub, dAsg, dSet, dPar, dAugI, dSeqI, dRng1, dRng2, dEnum, dFor, dLast, dLink, dCh, dYes, dLc, dCall, dCall0, dFld, dMeth, dMeth0, dFrzO, frzO, dCB, ob1, ob2, oI, ii2, lenO, intO, sumO, intsO, blsO, strsO, reprO, absO, maxO, minO, dmO, tupO, lstO, lstMO, maxLO, minLO, anyO, allO, strIO, srtSO, srtO, srtIO, numsD_lst, numsD_tup, nats_inj, nats_len, stepD_inj, nc0, nc1, nc2, nc3, nc4, nc5, nc6, nc7, nc8, nc9, nc10, nc11, nc12, nc13, nc14, nc15, nc16, nc17, nc18, nc19, nc20, appendM, popM, extendM, insertM, indexM, indexTM, updateM, dBMT, dBMT.tupT, dinOp, dgetOp, dGet2, dsPut, dNewK, dDc, dPar3, dNeg, dkO_inj, dkO_ne, dkO_ne2, lenM_dk, keyD_int, keyD_str, dic_dk, dicA_dk, moTy_dk, moTy_lst, moTy_none, dIsi, inOp, ixOp, dSl, slOp, dRev, dBM, dBM0, refL, tyD, lenM_lst, dNoP, dPart, dCallN, dMake, dProp, eqOwn, neOwn, lenOwn, strOwn, dIsO, dMethN, dsFld, dRevT, dStrI, insD_obj, insD_ref, isC_obj, isC_ref, isC_non, isC_bl, isC_int, isC_str, isC_tup, isC_lst, ex_ins2, beq_self_eq_true, Bool.not_eq_eq_eq_not, decide_true, decide_false, okN_bl, okN_int, okN_non, exists_and_left, and_assoc, List.cons.injEq, dListRg1, dListRg2, pick, List.filterMap_cons, List.filterMap_nil, List.set_cons_zero, List.set_cons_succ, List.getElem?_cons_zero, List.getElem?_cons_succ, List.getElem?_nil, List.length_cons, List.length_nil, List.length_append, List.length_map, List.length_range, rangeD_length, enumD_length, List.cons_append, List.nil_append, forall_const, true_implies, false_implies, reduceCtorEq, Bool.not_true, Bool.not_false, and_true, true_and, decide_eq_true_eq, decide_eq_false_iff_not, MH.put_same, if_true, if_false, not_true_eq_false, not_false_eq_true, exists_eq_left, exists_eq_left', Option.some.injEq, MO.lst.injEq, MH.put_put, at_0, at_1, at_2, at_3, Int.ofNat_lt, Int.ofNat_le, ix_30, ix_31, ix_32, Nat.zero_add, Int.zero_add, Nat.reduceAdd, D.lst.injEq, lenOk, Nat.reduceLeDiff, rowD_inj, strs_inj, ints_inj, ex_ins, tyNm, ts_NoneType_bool, ts_NoneType_int, ts_NoneType_str, ts_NoneType_tuple, ts_NoneType_list, ts_bool_bool, ts_bool_int, ts_bool_str, ts_bool_tuple, ts_bool_list, ts_int_bool, ts_int_int, ts_int_str, ts_int_tuple, ts_int_list, ts_str_bool, ts_str_int, ts_str_str, ts_str_tuple, ts_str_list, ts_tuple_bool, ts_tuple_int, ts_tuple_str, ts_tuple_tuple, ts_tuple_list, ts_list_bool, ts_list_int, ts_list_str, ts_list_tuple, ts_list_list, ins_row, isC_row, row_ne, Int.natCast_inj, Int.toNat_natCast, D.int.injEq, D.str.injEq, D.bl.injEq, D.tup.injEq, D.ref.injEq, D.scr.injEq]
    refine for_list (fun k σ M' => M' = M ∧ ∃ o1 o2, σ = [some (.tup (ws.map .str)), o1, o2]) ⟨rfl, _, _, rfl⟩ ?_ ?_
    · rintro σ M' ⟨rfl, o1, o2, rfl⟩
      exact ⟨M', .refl, h⟩
    · rintro i σ M' hi ⟨rfl, o1, o2, rfl⟩
      have hi2 : i < ws.length := by rw [enumD_length, List.length_map] at hi; exact hi
      have ei : (enumD (ws.map D.str))[i] = .wtp [.int (i : Nat), .str ws[i]] := by
        have := enumD_get (xs := ws.map D.str) (i := i) (d := .str ws[i]) (by rw [List.getElem?_map, List.getElem?_eq_getElem hi2]; rfl)
        rw [List.getElem?_eq_getElem hi] at this
        exact Option.some.inj this
      rw [ei]
      simp only [d_check_things_b1, sp_is_name, dDk1, dicPO, eqOwnL, eqPairs, eqOne, dJoin, dMk, dstart, ends, dVar, dC, dOp, i2, ltO, leO, gtO, geO, subO, dTest, dAnd, dOr, dNot, asV, dAndV, dOrV, dNotV, dIf, dNil, dCons, dStar, dTup, dLst, dNew, seqD, lstD, datD, eqOp, neOp, addOp, mulOp, mulM, addM, divOp, modOp, powOp, isOp, isntOp, dNext, dSeq, dDrop, dRet, dRetN, dIfS, dBreak, dCont, dNever, dFrz, dgName, dgNil, dgCons, dgTup, dgSub, dAsg, dSet, dPar, dAugI, dSeqI, dRng1, dRng2, dEnum, dFor, dLast, dLink, dCh, dYes, dLc, dCall, dCall0, dFld, dMeth, dMeth0, dFrzO, frzO, dCB, ob1, ob2, oI, ii2, lenO, intO, sumO, intsO, blsO, strsO, reprO, absO, maxO, minO, dmO, tupO, lstO, lstMO, maxLO, minLO, anyO, allO, strIO, srtSO, srtO, srtIO, numsD_lst, numsD_tup, nats_inj, nats_len, stepD_inj, nc0, nc1, nc2, nc3, nc4, nc5, nc6, nc7, nc8, nc9, nc10, nc11, nc12, nc13, nc14, nc15, nc16, nc17, nc18, nc19, nc20, appendM, popM, extendM, insertM, indexM, indexTM, updateM, dBMT, dBMT.tupT, dinOp, dgetOp, dGet2, dsPut, dNewK, dDc, dPar3, dNeg, dkO_inj, dkO_ne, dkO_ne2, lenM_dk, keyD_int, keyD_str, dic_dk, dicA_dk, moTy_dk, moTy_lst, moTy_none, dIsi, inOp, ixOp, dSl, slOp, dRev, dBM, dBM0, refL, tyD, lenM_lst, dNoP, dPart, dCallN, dMake, dProp, eqOwn, neOwn, lenOwn, strOwn, dIsO, dMethN, dsFld, dRevT, dStrI, insD_obj, insD_ref, isC_obj, isC_ref, isC_non, isC_bl, isC_int, isC_str, isC_tup, isC_lst, ex_ins2, beq_self_eq_true, Bool.not_eq_eq_eq_not, decide_true, decide_false, okN_bl, okN_int, okN_non, exists_and_left, and_assoc, List.cons.injEq, dListRg1, dListRg2, pick, List.filterMap_cons, List.filterMap_nil, List.set_cons_zero, List.set_cons_succ, List.getElem?_cons_zero, List.getElem?_cons_succ, List.getElem?_nil, List.length_cons, List.length_nil, List.length_append, List.length_map, List.length_range, rangeD_length, enumD_length, List.cons_append, List.nil_append, forall_const, true_implies, false_implies, reduceCtorEq, Bool.not_true, Bool.not_false, and_true, true_and, decide_eq_true_eq, decide_eq_false_iff_not, MH.put_same, if_true, if_false, not_true_eq_false, not_false_eq_true, exists_eq_left, exists_eq_left', Option.some.injEq, MO.lst.injEq, MH.put_put, at_0, at_1, at_2, at_3, Int.ofNat_lt, Int.ofNat_le, ix_30, ix_31, ix_32, Nat.zero_add, Int.zero_add, Nat.reduceAdd, D.lst.injEq, lenOk, Nat.reduceLeDiff, rowD_inj, strs_inj, ints_inj, ex_ins, tyNm, ts_NoneType_bool, ts_NoneType_int, ts_NoneType_str, ts_NoneType_tuple, ts_NoneType_list, ts_bool_bool, ts_bool_int, ts_bool_str, ts_bool_tuple, ts_bool_list, ts_int_bool, ts_int_int, ts_int_str, ts_int_tuple, ts_int_list, ts_str_bool, ts_str_int, ts_str_str, ts_str_tuple, ts_str_list, ts_tuple_bool, ts_tuple_int, ts_tuple_str, ts_tuple_tuple, ts_tuple_list, ts_list_bool, ts_list_int, ts_list_str, ts_list_tuple, ts_list_list, ins_row, isC_row, row_ne, Int.natCast_inj, Int.toNat_natCast, D.int.injEq, D.str.injEq, D.bl.injEq, D.tup.injEq, D.ref.injEq, D.scr.injEq]
      have hg := G.good _ (List.getElem_mem hi2)
      have few := G.few
      rw [cutD_take _ _ (by rw [List.length_map]; omega)]
      refine ⟨fun h => absurd h (by omega), fun _ => ⟨hg, by simpa [okN] using hg.ok, ?_, ?_⟩⟩
      · show ∀ x ∈ (ws.map D.str).take i, okN 49 x
        intro x hx
        exact ok_strs G.good x (List.mem_of_mem_take hx)
      · unfold inAny
        rw [not_before G.nd hi2]
        simp only [dDk1, dicPO, eqOwnL, eqPairs, eqOne, dJoin, dMk, dstart, ends, dVar, dC, dOp, i2, ltO, leO, gtO, geO, subO, dTest, dAnd, dOr, dNot, asV, dAndV, dOrV, dNotV, dIf, dNil, dCons, dStar, dTup, dLst, dNew, seqD, lstD, datD, eqOp, neOp, addOp, mulOp, mulM, addM, divOp, modOp, powOp, isOp, isntOp, dNext, dSeq, dDrop, dRet, dRetN, dIfS, dBreak, dCont, dNever, dFrz, dgName, dgNil, dgCons, dgTup, dgSub, dAsg, dSet, dPar, dAugI, dSeqI, dRng1, dRng2, dEnum, dFor, dLast, dLink, dCh, dYes, dLc, dCall, dCall0, dFld, dMeth, dMeth0, dFrzO, frzO, dCB, ob1, ob2, oI, ii2, lenO, intO, sumO, intsO, blsO, strsO, reprO, absO, maxO, minO, dmO, tupO, lstO, lstMO, maxLO, minLO, anyO, allO, strIO, srtSO, srtO, srtIO, numsD_lst, numsD_tup, nats_inj, nats_len, stepD_inj, nc0, nc1, nc2, nc3, nc4, nc5, nc6, nc7, nc8, nc9, nc10, nc11, nc12, nc13, nc14, nc15, nc16, nc17, nc18, nc19, nc20, appendM, popM, extendM, insertM, indexM, indexTM, updateM, dBMT, dBMT.tupT, dinOp, dgetOp, dGet2, dsPut, dNewK, dDc, dPar3, dNeg, dkO_inj, dkO_ne, dkO_ne2, lenM_dk, keyD_int, keyD_str, dic_dk, dicA_dk, moTy_dk, moTy_lst, moTy_none, dIsi, inOp, ixOp, dSl, slOp, dRev, dBM, dBM0, refL, tyD, lenM_lst, dNoP, dPart, dCallN, dMake, dProp, eqOwn, neOwn, lenOwn, strOwn, dIsO, dMethN, dsFld, dRevT, dStrI, insD_obj, insD_ref, isC_obj, isC_ref, isC_non, isC_bl, isC_int, isC_str, isC_tup, isC_lst, ex_ins2, beq_self_eq_true, Bool.not_eq_eq_eq_not, decide_true, decide_false, okN_bl, okN_int, okN_non, exists_and_left, and_assoc, List.cons.injEq, dListRg1, dListRg2, pick, List.filterMap_cons, List.filterMap_nil, List.set_cons_zero, List.set_cons_succ, List.getElem?_cons_zero, List.getElem?_cons_succ, List.getElem?_nil, List.length_cons, List.length_nil, List.length_append, List.length_map, List.length_range, rangeD_length, enumD_length, List.cons_append, List.nil_append, forall_const, true_implies, false_implies, reduceCtorEq, Bool.not_true, Bool.not_false, and_true, true_and, decide_eq_true_eq, decide_eq_false_iff_not, MH.put_same, if_true, if_false, not_true_eq_false, not_false_eq_true, exists_eq_left, exists_eq_left', Option.some.injEq, MO.lst.injEq, MH.put_put, at_0, at_1, at_2, at_3, Int.ofNat_lt, Int.ofNat_le, ix_30, ix_31, ix_32, Nat.zero_add, Int.zero_add, Nat.reduceAdd, D.lst.injEq, lenOk, Nat.reduceLeDiff, rowD_inj, strs_inj, ints_inj, ex_ins, tyNm, ts_NoneType_bool, ts_NoneType_int, ts_NoneType_str, ts_NoneType_tuple, ts_NoneType_list, ts_bool_bool, ts_bool_int, ts_bool_str, ts_bool_tuple, ts_bool_list, ts_int_bool, ts_int_int, ts_int_str, ts_int_tuple, ts_int_list, ts_str_bool, ts_str_int, ts_str_str, ts_str_tuple, ts_str_list, ts_tuple_bool, ts_tuple_int, ts_tuple_str, ts_tuple_tuple, ts_tuple_list, ts_list_bool, ts_list_int, ts_list_str, ts_list_tuple, ts_list_list, ins_row, isC_row, row_ne, Int.natCast_inj, Int.toNat_natCast, D.int.injEq, D.str.injEq, D.bl.injEq, D.tup.injEq, D.ref.injEq, D.scr.injEq, Bool.false_eq_true]
        exact ⟨_, rfl⟩

theorem ok_check_things (T : Txt ⟨P, w, K, mg, base⟩) : Cal ⟨P, w, K, mg, base⟩ "check_things" 2 ["things"] sp_check_things := cal_mk T.t_check_things F_check_things (r_check_things T) pl_check_things
def sp_Row_init : DSp := fun ds M Q _ => match ds with
  | [.ref x, .tup xs] => ∃ ws : List Str, xs = ws.map .str ∧ GoodT ws ∧ M x = some (.ins "Row" [] []) ∧ Q .non (M.put x (.ins "Row" ["line"] [.tup (ws.map .str)]))
  | _ => False

def d_Row_init : DS :=
  (dSeq (dDrop (dCall 1 sp_check_things (dCons (dVar 1) dNil)))
    (dsFld "Row" "line" (dVar 1) (dVar 0)))
theorem st_Row_init (v0 v1 : D) : dstart N_Row_init [v0, v1] = [some v0, some v1] := rfl
theorem r_Row_init (T : Txt ⟨P, w, K, mg, base⟩) : DPSs ⟨P, w, K, mg, base⟩ (Sx.fn N_Row_init (defScope s_Row_init) 2) (defBody s_Row_init) d_Row_init :=
  (dpss_cons (dps_expr (dp_call (ok_check_things T) S_Row_init (dpa_cons (dp_var S_Row_init 1) dpa_nil)))
    (by exact (dpss_one (dps_fld T.h_Row.cl T.n_Row_line (dp_var S_Row_init 1) (dp_var S_Row_init 0)))))
theorem pl_Row_init (ds : List D) (M : MH) (Q : DQ) (E : Er → MH → Prop) (hl : ds.length = 2) (h : sp_Row_init ds M Q E) : d_Row_init (ends Q) (fun er _ M => E er M) (dstart N_Row_init ds) M := by
  unfold sp_Row_init at h
  split at h
  case h_2 => exact h.elim
  rename_i x xs
  rw [st_Row_init]
  obtain ⟨ws, rfl, G, hx, h⟩ := h
  simp only [d_Row_init, sp_check_things, hx, dDk1, dicPO, eqOwnL, eqPairs, eqOne, dJoin, dMk, dstart, ends, dVar, dC, dOp, i2, ltO, leO, gtO, geO, subO, dTest, dAnd, dOr, dNot, asV, dAndV, dOrV, dNotV, dIf, dNil, dCons, dStar, dTup, dLst, dNew, seqD, lstD, datD, eqOp, neOp, addOp, mulOp, mulM, addM, divOp, modOp, powOp, isOp, isntOp, dNext, dSeq, dDrop, dRet, dRetN, dIfS, dBreak, dCont, dNever, dFrz, dgName, dgNil, dgCons, dgTup, dgSub, dAsg, dSet, dPar, dAugI, dSeqI, dRng1, dRng2, dEnum, dFor, dLast, dLink, dCh, dYes, dLc, dCall, dCall0, dFld, dMeth, dMeth0, dFrzO, frzO, dCB, ob1, ob2, oI, ii2, lenO, intO, sumO, intsO, blsO, strsO, reprO, absO, maxO, minO, dmO, tupO, lstO, lstMO, maxLO, minLO, anyO, allO, strIO, srtSO, srtO, srtIO, numsD_lst, numsD_tup, nats_inj, nats_len, stepD_inj, nc0, nc1, nc2, nc3, nc4, nc5, nc6, nc7, nc8, nc9, nc10, nc11, nc12, nc13, nc14, nc15, nc16, nc17, nc18, nc19, nc20, appendM, popM, extendM, insertM, indexM, indexTM, updateM, dBMT, dBMT.tupT, dinOp, dgetOp, dGet2, dsPut, dNewK, dDc, dPar3, dNeg, dkO_inj, dkO_ne, dkO_ne2, lenM_dk, keyD_int, keyD_str, dic_dk, dicA_dk, moTy_dk, moTy_lst, moTy_none, dIsi, inOp, ixOp, dSl, slOp, dRev, dBM, dBM0, refL, tyD, lenM_lst, dNoP, dPart, dCallN, dMake, dProp, eqOwn, neOwn, lenOwn, strOwn, dIsO, dMethN, dsFld, dRevT, dStrI, insD_obj, insD_ref, isC_obj, isC_ref, isC_non, isC_bl, isC_int, isC_str, isC_tup, isC_lst, ex_ins2, beq_self_eq_true, Bool.not_eq_eq_eq_not, decide_true, decide_false, okN_bl, okN_int, okN_non, exists_and_left, and_assoc, List.cons.injEq, dListRg1, dListRg2, pick, List.filterMap_cons, List.filterMap_nil, List.set_cons_zero, List.set_cons_succ, List.getElem?_cons_zero, List.getElem?_cons_succ, List.getElem?_nil, List.length_cons, List.length_nil, List.length_append, List.length_map, List.length_range, rangeD_length, enumD_length, List.cons_append, List.nil_append, forall_const, true_implies, false_implies, reduceCtorEq, Bool.not_true, Bool.not_false, and_true, true_and, decide_eq_true_eq, decide_eq_false_iff_not, MH.put_same, if_true, if_false, not_true_eq_false, not_false_eq_true, exists_eq_left, exists_eq_left', Option.some.injEq, MO.lst.injEq, MH.put_put, at_0, at_1, at_2, at_3, Int.ofNat_lt, Int.ofNat_le, ix_30, ix_31, ix_32, Nat.zero_add, Int.zero_add, Nat.reduceAdd, D.lst.injEq, lenOk, Nat.reduceLeDiff, rowD_inj, strs_inj, ints_inj, ex_ins, tyNm, ts_NoneType_bool, ts_NoneType_int, ts_NoneType_str, ts_NoneType_tuple, ts_NoneType_list, ts_bool_bool, ts_bool_int, ts_bool_str, ts_bool_tuple, ts_bool_list, ts_int_bool, ts_int_int, ts_int_str, ts_int_tuple, ts_int_list, ts_str_bool, ts_str_int, ts_str_str, ts_str_tuple, ts_str_list, ts_tuple_bool, ts_tuple_int, ts_tuple_str, ts_tuple_tuple, ts_tuple_list, ts_list_bool, ts_list_int, ts_list_str, ts_list_tuple, ts_list_list, ins_row, isC_row, row_ne, Int.natCast_inj, Int.toNat_natCast, D.int.injEq, D.str.injEq, D.bl.injEq, D.tup.injEq, D.ref.injEq, D.scr.injEq]
  exact ⟨G, by decide, _, .refl, h⟩

def sp_Row_new : DSp := fun ds M Q _ => match ds with
  | [.tup xs] => ∃ ws : List Str, xs = ws.map .str ∧ GoodT ws ∧ Q (rowD ws) M
  | _ => False

theorem pl_Row_new : MkOf "Row" 2 sp_Row_init sp_Row_new := by
  intro ds M Q E h
  unfold sp_Row_new at h
  split at h
  case h_2 => exact h.elim
  rename_i xs
  obtain ⟨ws, rfl, G, h⟩ := h
  refine ⟨rfl, fun x hx => ?_⟩
  refine ⟨ws, rfl, G, MH.put_same, ?_⟩
  simp only [frzO, MH.put_put, MH.put_same]
  exact ⟨trivial, _, _, _, rfl, by rw [MH.del_put hx]; exact h⟩

theorem ok_Row_init (T : Txt ⟨P, w, K, mg, base⟩) : CalI ⟨P, w, K, mg, base⟩ "Row" 3 ["self", "things"] sp_Row_init := calI_mk T.t_Row_init F_Row_init (r_Row_init T) pl_Row_init
def sp_law_far : DSp := fun ds M Q _ => match ds with
  | [.tup as, .tup bs] => ∃ ws vs : List Str, as = ws.map D.str ∧ bs = vs.map D.str ∧ GoodT ws ∧ GoodT vs ∧ ws.Perm vs ∧ Q (.int (dist ws vs : Nat)) M
  | _ => False

def d_law_far_b1 : DS :=
  (dsPut (dOp addOp (dVar 4) (dC (.int 1))) (dVar 3) (dOp ixOp (dVar 0) (dVar 4)))
def d_law_far_e1 : DE :=
  (dTup (dCons (dOp ixOp (dVar 1) (dVar 4)) (dCons (dIf (dTest (dOp gtO (dVar 4) (dC (.int 0)))) (dOp ixOp (dVar 1) (dOp subO (dVar 4) (dC (.int 1)))) (dC (.str "*"))) dNil)))
def d_law_far_b3 : DS :=
  (dIfS (dTest (dOp (dinOp true) (dVar 9) (dVar 6))) (dSeq (dsPut (dC (.bl true)) (dVar 6) (dVar 9))
    (dSet 9 (dOp dgetOp (dVar 3) (dOp dgetOp (dVar 5) (dOp ixOp (dVar 2) (dVar 9)))))) dNext)
def d_law_far_b2 : DS :=
  (dSeq (dSet 9 (dVar 8))
    (dSeq (dSet 7 (dOp addOp (dVar 7) (dCB (ob1 intO) (dCons (dOp (dinOp true) (dVar 8) (dVar 6)) dNil))))
    (dFor (dRng1 (dCons (dCB (ob1 lenO) (dCons (dVar 2) dNil)) dNil)) (dgName 10) d_law_far_b3)))
def d_law_far_r2 : DS :=
  (dRet (dOp divOp (dOp subO (dCB (ob1 lenO) (dCons (dVar 2) dNil)) (dVar 7)) (dC (.int 2))))
def d_law_far_r1 : DS :=
  (dSeq (dSet 5 (dCB (ob1 dicPO) (dCons (dLc (dRng1 (dCons (dCB (ob1 lenO) (dCons (dVar 1) dNil)) dNil)) (dgName 4) dYes d_law_far_e1 [4]) dNil)))
    (dSeq (dsPut (dOp ixOp (dVar 1) (dNeg (dC (.int 1)))) (dVar 5) (dC (.str "#")))
    (dSeq (dPar 6 7 (dCons dNewK (dCons (dC (.int 0)) dNil)))
    (dSeq (dFor (dRng1 (dCons (dCB (ob1 lenO) (dCons (dVar 2) dNil)) dNil)) (dgName 8) d_law_far_b2)
    d_law_far_r2))))
def d_law_far : DS :=
  (dSeq (dPar 2 3 (dCons (dOp addOp (dCB (ob1 lstO) (dCons (dVar 0) dNil)) (dLst (dCons (dC (.str "#")) dNil))) (dCons (dDk1 (dC (.str "*")) (dC (.int 0))) dNil)))
    (dSeq (dFor (dRng1 (dCons (dCB (ob1 lenO) (dCons (dVar 0) dNil)) dNil)) (dgName 4) d_law_far_b1)
    d_law_far_r1))
theorem st_law_far (v0 v1 : D) : dstart N_law_far [v0, v1] = [some v0, some v1, none, none, none, none, none, none, none, none, none] := rfl
theorem r_law_far (T : Txt ⟨P, w, K, mg, base⟩) : DPSs ⟨P, w, K, mg, base⟩ (Sx.fn N_law_far (defScope s_law_far) 0) (defBody s_law_far) d_law_far :=
  (dpss_cons (dps_par L_law_far 2 3 (dpa_cons (dp_bin (fun _ ft => opD_add ft) (dp_callT S_law_far T.z_list (fun X ft => cb_list) boot_list (dpa_cons (dp_var S_law_far 0) dpa_nil)) (dp_lst (dpa_cons dp_str dpa_nil))) (dpa_cons (dp_dk1 dp_str dp_int) dpa_nil)) (hw := fun env h => by cases env; cases h; rfl))
    (by exact (dpss_cons (dps_for (dpi_range1 S_law_far T.z_range (dpa_cons (dp_callB S_law_far T.z_len (fun X ft => cb_len) boot_len (dpa_cons (dp_var S_law_far 0) dpa_nil)) dpa_nil)) (dpg_name L_law_far 4) (dpss_one (dps_dput (dp_bin (fun _ ft => opD_add ft) (dp_var S_law_far 4) dp_int) (dp_var S_law_far 3) (dp_ix (dp_var S_law_far 0) (dp_var S_law_far 4)))))
    (by exact (dpss_cons (dps_set L_law_far 5 (dp_callT S_law_far T.z_dict (fun X ft => (cb_dictP ft rfl)) boot_dict (dpa_cons (dp_lc [("_law_k", 4)] (by decide +kernel) (dpi_range1 S_law_far T.z_range (dpa_cons (dp_callB S_law_far T.z_len (fun X ft => cb_len) boot_len (dpa_cons (dp_var S_law_far 1) dpa_nil)) dpa_nil)) (dpg_name (stOk_of (ls := [4]) (by decide +kernel)) 4) dpts_nil (dp_tup (dpa_cons (dp_ix (dp_var (scOk_of (vs := [4, 1]) (gs := []) (by decide +kernel)) 1) (dp_var (scOk_of (vs := [4, 1]) (gs := []) (by decide +kernel)) 4)) (by exact (dpa_cons (dp_if (dpt_cmp (fun _ ft => opD_gt ft) (dp_var (scOk_of (vs := [4, 1]) (gs := []) (by decide +kernel)) 4) dp_int (by with_unfolding_all rfl)) (dp_ix (dp_var (scOk_of (vs := [4, 1]) (gs := []) (by decide +kernel)) 1) (dp_bin (fun _ ft => opD_sub ft) (dp_var (scOk_of (vs := [4, 1]) (gs := []) (by decide +kernel)) 4) dp_int)) dp_str) dpa_nil))))) dpa_nil)))
    (by exact (dpss_cons (dps_dput (dp_ix (dp_var S_law_far 1) (dp_neg dp_int)) (dp_var S_law_far 5) dp_str)
    (by exact (dpss_cons (dps_par L_law_far 6 7 (dpa_cons dp_newK (dpa_cons dp_int dpa_nil)) (hw := fun env h => by cases env; cases h; rfl))
    (by exact (dpss_cons (dps_for (dpi_range1 S_law_far T.z_range (dpa_cons (dp_callB S_law_far T.z_len (fun X ft => cb_len) boot_len (dpa_cons (dp_var S_law_far 2) dpa_nil)) dpa_nil)) (dpg_name L_law_far 8) (dpss_cons (dps_set L_law_far 9 (dp_var S_law_far 8))
    (by exact (dpss_cons (dps_set L_law_far 7 (dp_bin (fun _ ft => opD_add ft) (dp_var S_law_far 7) (dp_callT S_law_far T.z_int (fun X ft => cb_int) boot_int (dpa_cons (dp_cmp (fun _ ft => opD_dnotIn ft) (dp_var S_law_far 8) (dp_var S_law_far 6) (by with_unfolding_all rfl)) dpa_nil))))
    (by exact (dpss_one (dps_for (dpi_range1 S_law_far T.z_range (dpa_cons (dp_callB S_law_far T.z_len (fun X ft => cb_len) boot_len (dpa_cons (dp_var S_law_far 2) dpa_nil)) dpa_nil)) (dpg_name L_law_far 10) (dpss_one (dps_if (dpt_cmp (fun _ ft => opD_dnotIn ft) (dp_var S_law_far 9) (dp_var S_law_far 6) (by with_unfolding_all rfl)) (dpss_cons (dps_dput dp_bl (dp_var S_law_far 6) (dp_var S_law_far 9))
    (by exact (dpss_one (dps_set L_law_far 9 (dp_dget (dp_var S_law_far 3) (dp_dget (dp_var S_law_far 5) (dp_ix (dp_var S_law_far 2) (dp_var S_law_far 9)))))))) dpss_nil)))))))))
    (by exact (dpss_one (dps_ret (dp_bin (fun _ ft => opD_div ft) (dp_bin (fun _ ft => opD_sub ft) (dp_callB S_law_far T.z_len (fun X ft => cb_len) boot_len (dpa_cons (dp_var S_law_far 2) dpa_nil)) (dp_var S_law_far 7)) dp_int)))))))))))))))
theorem fold_getK {key : Nat → Key} {val : Nat → D} {T0 : TabK} {n : Nat} (inj : ∀ i j, i < n → j < n → key i = key j → i = j) : ∀ m, m ≤ n → ∀ j, j < m → dGet ((List.range m).foldl (fun t i => dPut t (key i) (val i)) T0) (key j) = some (val j)
  | 0, _, j, h => absurd h (Nat.not_lt_zero j)
  | m + 1, hm, j, hj => by
    rw [List.range_succ, List.foldl_append]
    show dGet (dPut _ (key m) (val m)) _ = _
    rw [dGet_put]
    by_cases e : j = m
    · subst e; rw [if_pos rfl]
    · rw [if_neg fun z => e (inj j m (by omega) (by omega) z)]
      exact fold_getK inj m (by omega) j (by omega)
theorem fold_getO {key : Nat → Key} {val : Nat → D} {T0 : TabK} {k : Key} : ∀ m, (∀ j, j < m → k ≠ key j) → dGet ((List.range m).foldl (fun t i => dPut t (key i) (val i)) T0) k = dGet T0 k
  | 0, _ => rfl
  | m + 1, h => by
    rw [List.range_succ, List.foldl_append]
    show dGet (dPut _ (key m) (val m)) _ = _
    rw [dGet_put, if_neg (h m (by omega))]
    exact fold_getO m fun j hj => h j (by omega)
theorem fold_lenK {key : Nat → Key} {val : Nat → D} {T0 : TabK} : ∀ n, ((List.range n).foldl (fun t i => dPut t (key i) (val i)) T0).length ≤ T0.length + n
  | 0 => Nat.le_refl _
  | n + 1 => by
    rw [List.range_succ, List.foldl_append]
    exact Nat.le_trans (dPut_len _ _ _) (Nat.add_le_add_right (fold_lenK n) 1)
theorem good_star {ws : List Str} (G : GoodT ws) {i : Nat} (hi : i < ws.length) : ws[i] ≠ "*" ∧ ws[i] ≠ "#" := by
  obtain ⟨_, _, h⟩ := G.good _ (List.getElem_mem hi)
  constructor <;> intro e <;> rw [e] at h
  · exact absurd (h 42 (by decide)) (by decide)
  · exact absurd (h 35 (by decide)) (by decide)
/-- behind, ahead of the law's own walk -/
def farB (ws : List Str) (k : Nat) : TabK := (List.range k).foldl (fun t i => dPut t (.inr (ws.getD i "")) (.int ((i + 1 : Nat) : Int))) [(.inr "*", .int 0)]
def farP (vs : List Str) (i : Nat) : Str := if 0 < i then vs.getD (i - 1) "" else "*"
def farT (vs : List Str) : TabK := mergeD [] ((List.range vs.length).map fun i => (.inr (vs.getD i ""), .str (farP vs i)))
def farA (vs : List Str) : TabK := dPut (farT vs) (.inr "#") (.str (vs.getD (vs.length - 1) ""))
def farR (ws : List Str) : List D := ws.map D.str ++ [.str "#"]
theorem farT_fold (vs : List Str) : farT vs = (List.range vs.length).foldl (fun t i => dPut t (.inr (vs.getD i "")) (.str (farP vs i))) [] := by
  unfold farT mergeD; rw [List.foldl_map]
theorem getD_str {ws : List Str} {i : Nat} (hi : i < ws.length) : ws.getD i "" = ws[i] := by rw [List.getD_eq_getElem?_getD, List.getElem?_eq_getElem hi]; rfl
theorem key_injS {ws : List Str} (nd : ws.Nodup) : ∀ i j, i < ws.length → j < ws.length → (Sum.inr (ws.getD i "") : Key) = Sum.inr (ws.getD j "") → i = j := fun i j hi hj e => by
  have e := Sum.inr.inj e
  rw [getD_str hi, getD_str hj] at e
  exact (List.getElem_inj nd).mp e
theorem far_step {ws vs : List Str} (G1 : GoodT ws) (G2 : GoodT vs) (hp : ws.Perm vs) {h : Nat} (hh : h < ws.length + 1) :
    ∃ s1 s2, atI (farR ws) (h : Int) = some (.str s1) ∧ dGet (farA vs) (.inr s1) = some (.str s2) ∧ dGet (farB ws ws.length) (.inr s2) = some (.int (W.lead (numsOf ws vs) h : Nat)) := by
  have hl := hp.length_eq
  have nl : (numsOf ws vs).length = ws.length := numsOf_len
  have hP := numsOf_isP G1 G2 hp
  have star : dGet (farB ws ws.length) (.inr "*") = some (.int 0) := by
    unfold farB
    rw [fold_getO _ fun j hj z => (good_star G1 hj).1 (by have := Sum.inr.inj z; rw [getD_str hj] at this; exact this.symm)]
    simp [dGet]
  have back : ∀ j (hj : j < ws.length), dGet (farB ws ws.length) (.inr ws[j]) = some (.int ((j + 1 : Nat) : Int)) := fun j hj => by
    have := fold_getK (key := fun i => .inr (ws.getD i "")) (val := fun i => .int ((i + 1 : Nat) : Int)) (T0 := [(.inr "*", .int 0)]) (key_injS G1.nd) ws.length (Nat.le_refl _) j hj
    simp only [getD_str hj] at this
    exact this
  have backN : ∀ m, 0 < m → m ≤ ws.length → dGet (farB ws ws.length) (.inr (vs.getD (m - 1) "")) = some (.int ((W.padN (numsOf ws vs)).idxOf m : Nat)) := fun m m0 m1 => by
    have hm : m - 1 < vs.length := by omega
    rw [getD_str hm]
    have mem : vs[m - 1] ∈ ws := hp.mem_iff.mpr (List.getElem_mem hm)
    obtain ⟨hi, he⟩ := getS mem
    have e1 : (numsOf ws vs)[ws.idxOf vs[m - 1]]'(by rw [nl]; exact hi) = m := by
      simp only [numsOf, List.getElem_map, he]
      rw [idxS G2.nd hm]; omega
    have e2 : (numsOf ws vs).idxOf m = ws.idxOf vs[m - 1] := by
      have := W.idxOf_get (hP.nd) (i := ws.idxOf vs[m - 1]) (by rw [nl]; exact hi)
      rw [e1] at this; exact this
    rw [W.idx_pad hP m0 (by omega), e2]
    have := back _ hi
    rw [he] at this; exact this
  have leadE : W.lead (numsOf ws vs) h = (W.padN (numsOf ws vs)).idxOf ((W.padN (numsOf ws vs)).getD (h + 1) 0 - 1) := rfl
  by_cases hlt : h < ws.length
  · have en : (W.padN (numsOf ws vs)).getD (h + 1) 0 = vs.idxOf ws[h] + 1 := by
      rw [W.pad_in (by rw [nl]; exact hlt)]; simp [numsOf]
    have mem : ws[h] ∈ vs := hp.mem_iff.mp (List.getElem_mem hlt)
    obtain ⟨hi, he⟩ := getS mem
    refine ⟨ws[h], farP vs (vs.idxOf ws[h]), atI_some rfl (by unfold farR; rw [List.getElem?_append_left (by simpa using hlt)]; simp [hlt]), ?_, ?_⟩
    · unfold farA
      rw [dGet_put, if_neg (fun z => (good_star G1 hlt).2 (Sum.inr.inj z)), farT_fold]
      have := fold_getK (key := fun i => .inr (vs.getD i "")) (val := fun i => .str (farP vs i)) (T0 := []) (key_injS G2.nd) vs.length (Nat.le_refl _) _ hi
      simp only [getD_str hi, he] at this
      exact this
    · rw [leadE, en, Nat.add_sub_cancel]
      unfold farP
      by_cases h0 : 0 < vs.idxOf ws[h]
      · rw [if_pos h0]; exact backN _ h0 (by omega)
      · rw [if_neg h0, star, show vs.idxOf ws[h] = 0 by omega]; simp [W.padN]
  · have e : h = ws.length := by omega
    subst e
    have en : (W.padN (numsOf ws vs)).getD (ws.length + 1) 0 = ws.length + 1 := by
      have := W.pad_last (ns := numsOf ws vs); rw [nl] at this; exact this
    have := G1.some
    refine ⟨"#", vs.getD (vs.length - 1) "", atI_some rfl (by unfold farR; rw [List.getElem?_append_right (by simp)]; simp), by unfold farA; rw [dGet_put, if_pos rfl], ?_⟩
    rw [leadE, en, Nat.add_sub_cancel, ← hl]
    exact backN _ this (Nat.le_refl _)
theorem pl_law_far (ds : List D) (M : MH) (Q : DQ) (E : Er → MH → Prop) (hl : ds.length = 2) (h : sp_law_far ds M Q E) : d_law_far (ends Q) (fun er _ M => E er M) (dstart N_law_far ds) M := by
  unfold sp_law_far at h
  split at h
  case h_2 => exact h.elim
  rename_i as bs
  rw [st_law_far]
  obtain ⟨ws, vs, rfl, rfl, G1, G2, hp, h⟩ := h
  have hl := hp.length_eq
  have nl : (numsOf ws vs).length = ws.length := numsOf_len
  have hP := numsOf_isP G1 G2 hp
  have w40 := G1.few
  have w0 := G1.some
  have hf : W.PermN (ws.length + 1) (W.lead (numsOf ws vs)) := by have := W.permN_lead hP; rwa [nl] at this
  have hN : ∀ x ∈ (List.map D.str ws), True := fun _ _ => trivial
  have wi : ∀ {i : Nat} (hi : i < ws.length), atI (List.map D.str ws) ((i : Nat) : Int) = some (.str ws[i]) := fun hi => atI_some rfl (by simp [hi])
  have vi : ∀ {i : Nat} (hi : i < vs.length), atI (List.map D.str vs) ((i : Nat) : Int) = some (.str vs[i]) := fun hi => atI_some rfl (by simp [hi])
  simp only [d_law_far, dDk1, dicPO, eqOwnL, eqPairs, eqOne, dJoin, dMk, dstart, ends, dVar, dC, dOp, i2, ltO, leO, gtO, geO, subO, dTest, dAnd, dOr, dNot, asV, dAndV, dOrV, dNotV, dIf, dNil, dCons, dStar, dTup, dLst, dNew, seqD, lstD, datD, eqOp, neOp, addOp, mulOp, mulM, addM, divOp, modOp, powOp, isOp, isntOp, dNext, dSeq, dDrop, dRet, dRetN, dIfS, dBreak, dCont, dNever, dFrz, dgName, dgNil, dgCons, dgTup, dgSub, dAsg, dSet, dPar, dAugI, dSeqI, dRng1, dRng2, dEnum, dFor, dLast, dLink, dCh, dYes, dLc, dCall, dCall0, dFld, dMeth, dMeth0, dFrzO, frzO, dCB, ob1, ob2, oI, ii2, lenO, intO, sumO, intsO, blsO, strsO, reprO, absO, maxO, minO, dmO, tupO, lstO, lstMO, maxLO, minLO, anyO, allO, strIO, srtSO, srtO, srtIO, numsD_lst, numsD_tup, nats_inj, nats_len, stepD_inj, nc0, nc1, nc2, nc3, nc4, nc5, nc6, nc7, nc8, nc9, nc10, nc11, nc12, nc13, nc14, nc15, nc16, nc17, nc18, nc19, nc20, appendM, popM, extendM, insertM, indexM, indexTM, updateM, dBMT, dBMT.tupT, dinOp, dgetOp, dGet2, dsPut, dNewK, dDc, dPar3, dNeg, dkO_inj, dkO_ne, dkO_ne2, lenM_dk, keyD_int, keyD_str, dic_dk, dicA_dk, moTy_dk, moTy_lst, moTy_none, dIsi, inOp, ixOp, dSl, slOp, dRev, dBM, dBM0, refL, tyD, lenM_lst, dNoP, dPart, dCallN, dMake, dProp, eqOwn, neOwn, lenOwn, strOwn, dIsO, dMethN, dsFld, dRevT, dStrI, insD_obj, insD_ref, isC_obj, isC_ref, isC_non, isC_bl, isC_int, isC_str, isC_tup, isC_lst, ex_ins2, beq_self_eq_true, Bool.not_eq_eq_eq_not, decide_true, decide_false, okN_bl, okN_int, okN_non, exists_and_left, and_assoc, List.cons.injEq, dListRg1, dListRg2, pick, List.filterMap_cons, List.filterMap_nil, List.set_cons_zero, List.set_cons_succ, List.getElem?_cons_zero, List.getElem?_cons_succ, List.getElem?_nil, List.length_cons, List.length_nil, List.length_append, List.length_map, List.length_range, rangeD_length, enumD_length, List.cons_append, List.nil_append, forall_const, true_implies, false_implies, reduceCtorEq, Bool.not_true, Bool.not_false, and_true, true_and, decide_eq_true_eq, decide_eq_false_iff_not, MH.put_same, if_true, if_false, not_true_eq_false, not_false_eq_true, exists_eq_left, exists_eq_left', Option.some.injEq, MO.lst.injEq, MH.put_put, at_0, at_1, at_2, at_3, Int.ofNat_lt, Int.ofNat_le, ix_30, ix_31, ix_32, Nat.zero_add, Int.zero_add, Nat.reduceAdd, D.lst.injEq, lenOk, Nat.reduceLeDiff, rowD_inj, strs_inj, ints_inj, ex_ins, tyNm, ts_NoneType_bool, ts_NoneType_int, ts_NoneType_str, ts_NoneType_tuple, ts_NoneType_list, ts_bool_bool, ts_bool_int, ts_bool_str, ts_bool_tuple, ts_bool_list, ts_int_bool, ts_int_int, ts_int_str, ts_int_tuple, ts_int_list, ts_str_bool, ts_str_int, ts_str_str, ts_str_tuple, ts_str_list, ts_tuple_bool, ts_tuple_int, ts_tuple_str, ts_tuple_tuple, ts_tuple_list, ts_list_bool, ts_list_int, ts_list_str, ts_list_tuple, ts_list_list, ins_row, isC_row, row_ne, Int.natCast_inj, Int.toNat_natCast, D.int.injEq, D.str.injEq, D.bl.injEq, D.tup.injEq, D.ref.injEq, D.scr.injEq]
  refine ⟨by omega, fun pB hB => ⟨by omega, by omega, ?_⟩⟩
  refine for_range (fun k σ M' => ∃ o4, σ = [some (D.tup (List.map D.str ws)), some (D.tup (List.map D.str vs)), some (D.lst (farR ws)), some (D.ref pB), o4, none, none, none, none, none, none] ∧ M' = M.put pB (dkO (farB ws k))) ⟨_, rfl, rfl⟩ ?_ ?_
  rotate_left
  · rintro k σ M' hk ⟨o4, rfl, rfl⟩
    have fl := fold_lenK (key := fun i => .inr (ws.getD i "")) (val := fun i => .int ((i + 1 : Nat) : Int)) (T0 := [(.inr "*", .int 0)]) k
    simp only [d_law_far_b1, wi hk, dDk1, dicPO, eqOwnL, eqPairs, eqOne, dJoin, dMk, dstart, ends, dVar, dC, dOp, i2, ltO, leO, gtO, geO, subO, dTest, dAnd, dOr, dNot, asV, dAndV, dOrV, dNotV, dIf, dNil, dCons, dStar, dTup, dLst, dNew, seqD, lstD, datD, eqOp, neOp, addOp, mulOp, mulM, addM, divOp, modOp, powOp, isOp, isntOp, dNext, dSeq, dDrop, dRet, dRetN, dIfS, dBreak, dCont, dNever, dFrz, dgName, dgNil, dgCons, dgTup, dgSub, dAsg, dSet, dPar, dAugI, dSeqI, dRng1, dRng2, dEnum, dFor, dLast, dLink, dCh, dYes, dLc, dCall, dCall0, dFld, dMeth, dMeth0, dFrzO, frzO, dCB, ob1, ob2, oI, ii2, lenO, intO, sumO, intsO, blsO, strsO, reprO, absO, maxO, minO, dmO, tupO, lstO, lstMO, maxLO, minLO, anyO, allO, strIO, srtSO, srtO, srtIO, numsD_lst, numsD_tup, nats_inj, nats_len, stepD_inj, nc0, nc1, nc2, nc3, nc4, nc5, nc6, nc7, nc8, nc9, nc10, nc11, nc12, nc13, nc14, nc15, nc16, nc17, nc18, nc19, nc20, appendM, popM, extendM, insertM, indexM, indexTM, updateM, dBMT, dBMT.tupT, dinOp, dgetOp, dGet2, dsPut, dNewK, dDc, dPar3, dNeg, dkO_inj, dkO_ne, dkO_ne2, lenM_dk, keyD_int, keyD_str, dic_dk, dicA_dk, moTy_dk, moTy_lst, moTy_none, dIsi, inOp, ixOp, dSl, slOp, dRev, dBM, dBM0, refL, tyD, lenM_lst, dNoP, dPart, dCallN, dMake, dProp, eqOwn, neOwn, lenOwn, strOwn, dIsO, dMethN, dsFld, dRevT, dStrI, insD_obj, insD_ref, isC_obj, isC_ref, isC_non, isC_bl, isC_int, isC_str, isC_tup, isC_lst, ex_ins2, beq_self_eq_true, Bool.not_eq_eq_eq_not, decide_true, decide_false, okN_bl, okN_int, okN_non, exists_and_left, and_assoc, List.cons.injEq, dListRg1, dListRg2, pick, List.filterMap_cons, List.filterMap_nil, List.set_cons_zero, List.set_cons_succ, List.getElem?_cons_zero, List.getElem?_cons_succ, List.getElem?_nil, List.length_cons, List.length_nil, List.length_append, List.length_map, List.length_range, rangeD_length, enumD_length, List.cons_append, List.nil_append, forall_const, true_implies, false_implies, reduceCtorEq, Bool.not_true, Bool.not_false, and_true, true_and, decide_eq_true_eq, decide_eq_false_iff_not, MH.put_same, if_true, if_false, not_true_eq_false, not_false_eq_true, exists_eq_left, exists_eq_left', Option.some.injEq, MO.lst.injEq, MH.put_put, at_0, at_1, at_2, at_3, Int.ofNat_lt, Int.ofNat_le, ix_30, ix_31, ix_32, Nat.zero_add, Int.zero_add, Nat.reduceAdd, D.lst.injEq, lenOk, Nat.reduceLeDiff, rowD_inj, strs_inj, ints_inj, ex_ins, tyNm, ts_NoneType_bool, ts_NoneType_int, ts_NoneType_str, ts_NoneType_tuple, ts_NoneType_list, ts_bool_bool, ts_bool_int, ts_bool_str, ts_bool_tuple, ts_bool_list, ts_int_bool, ts_int_int, ts_int_str, ts_int_tuple, ts_int_list, ts_str_bool, ts_str_int, ts_str_str, ts_str_tuple, ts_str_list, ts_tuple_bool, ts_tuple_int, ts_tuple_str, ts_tuple_tuple, ts_tuple_list, ts_list_bool, ts_list_int, ts_list_str, ts_list_tuple, ts_list_list, ins_row, isC_row, row_ne, Int.natCast_inj, Int.toNat_natCast, D.int.injEq, D.str.injEq, D.bl.injEq, D.tup.injEq, D.ref.injEq, D.scr.injEq]
    rw [dput_k MH.put_same]
    refine ⟨_, rfl, by simp only [List.length_cons, List.length_nil] at fl; unfold lenOk farB; refine Nat.le_trans (Nat.add_le_add_right fl 1) (by omega), ?_⟩
    rw [MH.put_put]
    congr 2
    unfold farB
    rw [List.range_succ, List.foldl_append]
    simp only [List.foldl_cons, List.foldl_nil, getD_str hk]
    rfl
  rintro σ M' ⟨o4, rfl, rfl⟩
  simp only [d_law_far_r1, dDk1, dicPO, eqOwnL, eqPairs, eqOne, dJoin, dMk, dstart, ends, dVar, dC, dOp, i2, ltO, leO, gtO, geO, subO, dTest, dAnd, dOr, dNot, asV, dAndV, dOrV, dNotV, dIf, dNil, dCons, dStar, dTup, dLst, dNew, seqD, lstD, datD, eqOp, neOp, addOp, mulOp, mulM, addM, divOp, modOp, powOp, isOp, isntOp, dNext, dSeq, dDrop, dRet, dRetN, dIfS, dBreak, dCont, dNever, dFrz, dgName, dgNil, dgCons, dgTup, dgSub, dAsg, dSet, dPar, dAugI, dSeqI, dRng1, dRng2, dEnum, dFor, dLast, dLink, dCh, dYes, dLc, dCall, dCall0, dFld, dMeth, dMeth0, dFrzO, frzO, dCB, ob1, ob2, oI, ii2, lenO, intO, sumO, intsO, blsO, strsO, reprO, absO, maxO, minO, dmO, tupO, lstO, lstMO, maxLO, minLO, anyO, allO, strIO, srtSO, srtO, srtIO, numsD_lst, numsD_tup, nats_inj, nats_len, stepD_inj, nc0, nc1, nc2, nc3, nc4, nc5, nc6, nc7, nc8, nc9, nc10, nc11, nc12, nc13, nc14, nc15, nc16, nc17, nc18, nc19, nc20, appendM, popM, extendM, insertM, indexM, indexTM, updateM, dBMT, dBMT.tupT, dinOp, dgetOp, dGet2, dsPut, dNewK, dDc, dPar3, dNeg, dkO_inj, dkO_ne, dkO_ne2, lenM_dk, keyD_int, keyD_str, dic_dk, dicA_dk, moTy_dk, moTy_lst, moTy_none, dIsi, inOp, ixOp, dSl, slOp, dRev, dBM, dBM0, refL, tyD, lenM_lst, dNoP, dPart, dCallN, dMake, dProp, eqOwn, neOwn, lenOwn, strOwn, dIsO, dMethN, dsFld, dRevT, dStrI, insD_obj, insD_ref, isC_obj, isC_ref, isC_non, isC_bl, isC_int, isC_str, isC_tup, isC_lst, ex_ins2, beq_self_eq_true, Bool.not_eq_eq_eq_not, decide_true, decide_false, okN_bl, okN_int, okN_non, exists_and_left, and_assoc, List.cons.injEq, dListRg1, dListRg2, pick, List.filterMap_cons, List.filterMap_nil, List.set_cons_zero, List.set_cons_succ, List.getElem?_cons_zero, List.getElem?_cons_succ, List.getElem?_nil, List.length_cons, List.length_nil, List.length_append, List.length_map, List.length_range, rangeD_length, enumD_length, List.cons_append, List.nil_append, forall_const, true_implies, false_implies, reduceCtorEq, Bool.not_true, Bool.not_false, and_true, true_and, decide_eq_true_eq, decide_eq_false_iff_not, MH.put_same, if_true, if_false, not_true_eq_false, not_false_eq_true, exists_eq_left, exists_eq_left', Option.some.injEq, MO.lst.injEq, MH.put_put, at_0, at_1, at_2, at_3, Int.ofNat_lt, Int.ofNat_le, ix_30, ix_31, ix_32, Nat.zero_add, Int.zero_add, Nat.reduceAdd, D.lst.injEq, lenOk, Nat.reduceLeDiff, rowD_inj, strs_inj, ints_inj, ex_ins, tyNm, ts_NoneType_bool, ts_NoneType_int, ts_NoneType_str, ts_NoneType_tuple, ts_NoneType_list, ts_bool_bool, ts_bool_int, ts_bool_str, ts_bool_tuple, ts_bool_list, ts_int_bool, ts_int_int, ts_int_str, ts_int_tuple, ts_int_list, ts_str_bool, ts_str_int, ts_str_str, ts_str_tuple, ts_str_list, ts_tuple_bool, ts_tuple_int, ts_tuple_str, ts_tuple_tuple, ts_tuple_list, ts_list_bool, ts_list_int, ts_list_str, ts_list_tuple, ts_list_list, ins_row, isC_row, row_ne, Int.natCast_inj, Int.toNat_natCast, D.int.injEq, D.str.injEq, D.bl.injEq, D.tup.injEq, D.ref.injEq, D.scr.injEq]
  refine ⟨by omega, by omega, ?_⟩
  refine lc_range (fun i => .tup [.str (vs.getD i ""), .str (farP vs i)]) (by unfold lenOk; omega) ?_ ?_
  · intro p acc i C hi2 hp hC
    rw [getD_str hi2] at hC
    simp only [wipeD, d_law_far_e1, vi hi2, dDk1, dicPO, eqOwnL, eqPairs, eqOne, dJoin, dMk, dstart, ends, dVar, dC, dOp, i2, ltO, leO, gtO, geO, subO, dTest, dAnd, dOr, dNot, asV, dAndV, dOrV, dNotV, dIf, dNil, dCons, dStar, dTup, dLst, dNew, seqD, lstD, datD, eqOp, neOp, addOp, mulOp, mulM, addM, divOp, modOp, powOp, isOp, isntOp, dNext, dSeq, dDrop, dRet, dRetN, dIfS, dBreak, dCont, dNever, dFrz, dgName, dgNil, dgCons, dgTup, dgSub, dAsg, dSet, dPar, dAugI, dSeqI, dRng1, dRng2, dEnum, dFor, dLast, dLink, dCh, dYes, dLc, dCall, dCall0, dFld, dMeth, dMeth0, dFrzO, frzO, dCB, ob1, ob2, oI, ii2, lenO, intO, sumO, intsO, blsO, strsO, reprO, absO, maxO, minO, dmO, tupO, lstO, lstMO, maxLO, minLO, anyO, allO, strIO, srtSO, srtO, srtIO, numsD_lst, numsD_tup, nats_inj, nats_len, stepD_inj, nc0, nc1, nc2, nc3, nc4, nc5, nc6, nc7, nc8, nc9, nc10, nc11, nc12, nc13, nc14, nc15, nc16, nc17, nc18, nc19, nc20, appendM, popM, extendM, insertM, indexM, indexTM, updateM, dBMT, dBMT.tupT, dinOp, dgetOp, dGet2, dsPut, dNewK, dDc, dPar3, dNeg, dkO_inj, dkO_ne, dkO_ne2, lenM_dk, keyD_int, keyD_str, dic_dk, dicA_dk, moTy_dk, moTy_lst, moTy_none, dIsi, inOp, ixOp, dSl, slOp, dRev, dBM, dBM0, refL, tyD, lenM_lst, dNoP, dPart, dCallN, dMake, dProp, eqOwn, neOwn, lenOwn, strOwn, dIsO, dMethN, dsFld, dRevT, dStrI, insD_obj, insD_ref, isC_obj, isC_ref, isC_non, isC_bl, isC_int, isC_str, isC_tup, isC_lst, ex_ins2, beq_self_eq_true, Bool.not_eq_eq_eq_not, decide_true, decide_false, okN_bl, okN_int, okN_non, exists_and_left, and_assoc, List.cons.injEq, dListRg1, dListRg2, pick, List.filterMap_cons, List.filterMap_nil, List.set_cons_zero, List.set_cons_succ, List.getElem?_cons_zero, List.getElem?_cons_succ, List.getElem?_nil, List.length_cons, List.length_nil, List.length_append, List.length_map, List.length_range, rangeD_length, enumD_length, List.cons_append, List.nil_append, forall_const, true_implies, false_implies, reduceCtorEq, Bool.not_true, Bool.not_false, and_true, true_and, decide_eq_true_eq, decide_eq_false_iff_not, MH.put_same, if_true, if_false, not_true_eq_false, not_false_eq_true, exists_eq_left, exists_eq_left', Option.some.injEq, MO.lst.injEq, MH.put_put, at_0, at_1, at_2, at_3, Int.ofNat_lt, Int.ofNat_le, ix_30, ix_31, ix_32, Nat.zero_add, Int.zero_add, Nat.reduceAdd, D.lst.injEq, lenOk, Nat.reduceLeDiff, rowD_inj, strs_inj, ints_inj, ex_ins, tyNm, ts_NoneType_bool, ts_NoneType_int, ts_NoneType_str, ts_NoneType_tuple, ts_NoneType_list, ts_bool_bool, ts_bool_int, ts_bool_str, ts_bool_tuple, ts_bool_list, ts_int_bool, ts_int_int, ts_int_str, ts_int_tuple, ts_int_list, ts_str_bool, ts_str_int, ts_str_str, ts_str_tuple, ts_str_list, ts_tuple_bool, ts_tuple_int, ts_tuple_str, ts_tuple_tuple, ts_tuple_list, ts_list_bool, ts_list_int, ts_list_str, ts_list_tuple, ts_list_list, ins_row, isC_row, row_ne, Int.natCast_inj, Int.toNat_natCast, D.int.injEq, D.str.injEq, D.bl.injEq, D.tup.injEq, D.ref.injEq, D.scr.injEq]
    refine ⟨fun h0 => ?_, fun h0 => ?_⟩
    · have h1 : 0 < i := by simpa using h0
      unfold farP at hC
      rw [if_pos h1, getD_str (show i - 1 < vs.length by omega)] at hC
      have e1 : ((i : Nat) : Int) - 1 = ((i - 1 : Nat) : Int) := by omega
      rw [e1]
      simp only [vi (show i - 1 < vs.length by omega), dDk1, dicPO, eqOwnL, eqPairs, eqOne, dJoin, dMk, dstart, ends, dVar, dC, dOp, i2, ltO, leO, gtO, geO, subO, dTest, dAnd, dOr, dNot, asV, dAndV, dOrV, dNotV, dIf, dNil, dCons, dStar, dTup, dLst, dNew, seqD, lstD, datD, eqOp, neOp, addOp, mulOp, mulM, addM, divOp, modOp, powOp, isOp, isntOp, dNext, dSeq, dDrop, dRet, dRetN, dIfS, dBreak, dCont, dNever, dFrz, dgName, dgNil, dgCons, dgTup, dgSub, dAsg, dSet, dPar, dAugI, dSeqI, dRng1, dRng2, dEnum, dFor, dLast, dLink, dCh, dYes, dLc, dCall, dCall0, dFld, dMeth, dMeth0, dFrzO, frzO, dCB, ob1, ob2, oI, ii2, lenO, intO, sumO, intsO, blsO, strsO, reprO, absO, maxO, minO, dmO, tupO, lstO, lstMO, maxLO, minLO, anyO, allO, strIO, srtSO, srtO, srtIO, numsD_lst, numsD_tup, nats_inj, nats_len, stepD_inj, nc0, nc1, nc2, nc3, nc4, nc5, nc6, nc7, nc8, nc9, nc10, nc11, nc12, nc13, nc14, nc15, nc16, nc17, nc18, nc19, nc20, appendM, popM, extendM, insertM, indexM, indexTM, updateM, dBMT, dBMT.tupT, dinOp, dgetOp, dGet2, dsPut, dNewK, dDc, dPar3, dNeg, dkO_inj, dkO_ne, dkO_ne2, lenM_dk, keyD_int, keyD_str, dic_dk, dicA_dk, moTy_dk, moTy_lst, moTy_none, dIsi, inOp, ixOp, dSl, slOp, dRev, dBM, dBM0, refL, tyD, lenM_lst, dNoP, dPart, dCallN, dMake, dProp, eqOwn, neOwn, lenOwn, strOwn, dIsO, dMethN, dsFld, dRevT, dStrI, insD_obj, insD_ref, isC_obj, isC_ref, isC_non, isC_bl, isC_int, isC_str, isC_tup, isC_lst, ex_ins2, beq_self_eq_true, Bool.not_eq_eq_eq_not, decide_true, decide_false, okN_bl, okN_int, okN_non, exists_and_left, and_assoc, List.cons.injEq, dListRg1, dListRg2, pick, List.filterMap_cons, List.filterMap_nil, List.set_cons_zero, List.set_cons_succ, List.getElem?_cons_zero, List.getElem?_cons_succ, List.getElem?_nil, List.length_cons, List.length_nil, List.length_append, List.length_map, List.length_range, rangeD_length, enumD_length, List.cons_append, List.nil_append, forall_const, true_implies, false_implies, reduceCtorEq, Bool.not_true, Bool.not_false, and_true, true_and, decide_eq_true_eq, decide_eq_false_iff_not, MH.put_same, if_true, if_false, not_true_eq_false, not_false_eq_true, exists_eq_left, exists_eq_left', Option.some.injEq, MO.lst.injEq, MH.put_put, at_0, at_1, at_2, at_3, Int.ofNat_lt, Int.ofNat_le, ix_30, ix_31, ix_32, Nat.zero_add, Int.zero_add, Nat.reduceAdd, D.lst.injEq, lenOk, Nat.reduceLeDiff, rowD_inj, strs_inj, ints_inj, ex_ins, tyNm, ts_NoneType_bool, ts_NoneType_int, ts_NoneType_str, ts_NoneType_tuple, ts_NoneType_list, ts_bool_bool, ts_bool_int, ts_bool_str, ts_bool_tuple, ts_bool_list, ts_int_bool, ts_int_int, ts_int_str, ts_int_tuple, ts_int_list, ts_str_bool, ts_str_int, ts_str_str, ts_str_tuple, ts_str_list, ts_tuple_bool, ts_tuple_int, ts_tuple_str, ts_tuple_tuple, ts_tuple_list, ts_list_bool, ts_list_int, ts_list_str, ts_list_tuple, ts_list_list, ins_row, isC_row, row_ne, Int.natCast_inj, Int.toNat_natCast, D.int.injEq, D.str.injEq, D.bl.injEq, D.tup.injEq, D.ref.injEq, D.scr.injEq]
      exact hC
    · have h1 : ¬ 0 < i := by simpa using h0
      unfold farP at hC
      rw [if_neg h1] at hC
      exact hC
  simp only [dDk1, dicPO, eqOwnL, eqPairs, eqOne, dJoin, dMk, dstart, ends, dVar, dC, dOp, i2, ltO, leO, gtO, geO, subO, dTest, dAnd, dOr, dNot, asV, dAndV, dOrV, dNotV, dIf, dNil, dCons, dStar, dTup, dLst, dNew, seqD, lstD, datD, eqOp, neOp, addOp, mulOp, mulM, addM, divOp, modOp, powOp, isOp, isntOp, dNext, dSeq, dDrop, dRet, dRetN, dIfS, dBreak, dCont, dNever, dFrz, dgName, dgNil, dgCons, dgTup, dgSub, dAsg, dSet, dPar, dAugI, dSeqI, dRng1, dRng2, dEnum, dFor, dLast, dLink, dCh, dYes, dLc, dCall, dCall0, dFld, dMeth, dMeth0, dFrzO, frzO, dCB, ob1, ob2, oI, ii2, lenO, intO, sumO, intsO, blsO, strsO, reprO, absO, maxO, minO, dmO, tupO, lstO, lstMO, maxLO, minLO, anyO, allO, strIO, srtSO, srtO, srtIO, numsD_lst, numsD_tup, nats_inj, nats_len, stepD_inj, nc0, nc1, nc2, nc3, nc4, nc5, nc6, nc7, nc8, nc9, nc10, nc11, nc12, nc13, nc14, nc15, nc16, nc17, nc18, nc19, nc20, appendM, popM, extendM, insertM, indexM, indexTM, updateM, dBMT, dBMT.tupT, dinOp, dgetOp, dGet2, dsPut, dNewK, dDc, dPar3, dNeg, dkO_inj, dkO_ne, dkO_ne2, lenM_dk, keyD_int, keyD_str, dic_dk, dicA_dk, moTy_dk, moTy_lst, moTy_none, dIsi, inOp, ixOp, dSl, slOp, dRev, dBM, dBM0, refL, tyD, lenM_lst, dNoP, dPart, dCallN, dMake, dProp, eqOwn, neOwn, lenOwn, strOwn, dIsO, dMethN, dsFld, dRevT, dStrI, insD_obj, insD_ref, isC_obj, isC_ref, isC_non, isC_bl, isC_int, isC_str, isC_tup, isC_lst, ex_ins2, beq_self_eq_true, Bool.not_eq_eq_eq_not, decide_true, decide_false, okN_bl, okN_int, okN_non, exists_and_left, and_assoc, List.cons.injEq, dListRg1, dListRg2, pick, List.filterMap_cons, List.filterMap_nil, List.set_cons_zero, List.set_cons_succ, List.getElem?_cons_zero, List.getElem?_cons_succ, List.getElem?_nil, List.length_cons, List.length_nil, List.length_append, List.length_map, List.length_range, rangeD_length, enumD_length, List.cons_append, List.nil_append, forall_const, true_implies, false_implies, reduceCtorEq, Bool.not_true, Bool.not_false, and_true, true_and, decide_eq_true_eq, decide_eq_false_iff_not, MH.put_same, if_true, if_false, not_true_eq_false, not_false_eq_true, exists_eq_left, exists_eq_left', Option.some.injEq, MO.lst.injEq, MH.put_put, at_0, at_1, at_2, at_3, Int.ofNat_lt, Int.ofNat_le, ix_30, ix_31, ix_32, Nat.zero_add, Int.zero_add, Nat.reduceAdd, D.lst.injEq, lenOk, Nat.reduceLeDiff, rowD_inj, strs_inj, ints_inj, ex_ins, tyNm, ts_NoneType_bool, ts_NoneType_int, ts_NoneType_str, ts_NoneType_tuple, ts_NoneType_list, ts_bool_bool, ts_bool_int, ts_bool_str, ts_bool_tuple, ts_bool_list, ts_int_bool, ts_int_int, ts_int_str, ts_int_tuple, ts_int_list, ts_str_bool, ts_str_int, ts_str_str, ts_str_tuple, ts_str_list, ts_tuple_bool, ts_tuple_int, ts_tuple_str, ts_tuple_tuple, ts_tuple_list, ts_list_bool, ts_list_int, ts_list_str, ts_list_tuple, ts_list_list, ins_row, isC_row, row_ne, Int.natCast_inj, Int.toNat_natCast, D.int.injEq, D.str.injEq, D.bl.injEq, D.tup.injEq, D.ref.injEq, D.scr.injEq]
  refine ⟨_, prsD_map (fun i => .inr (vs.getD i "")) (fun i => .str (vs.getD i "")) (fun i => .str (farP vs i)) (fun i => rfl) _, fun pA hA => ?_⟩
  obtain ⟨hAB, hA1⟩ := MH.none_put.mp hA
  refine ⟨_, atI_last (v := .str (vs.getD (vs.length - 1) "")) (by rw [List.length_map, getD_str (by omega), List.getElem?_map, List.getElem?_eq_getElem (by omega)]; rfl), ?_⟩
  rw [dput_k MH.put_same]
  refine ⟨_, rfl, by have := mergeD_len ((List.range vs.length).map fun i => ((.inr (vs.getD i "") : Key), D.str (farP vs i))) []; simp only [List.length_map, List.length_range, List.length_nil] at this; unfold lenOk; omega, ?_⟩
  intro pK hK
  have eA : dPut (mergeD [] (List.map (fun i => ((Sum.inr (vs.getD i "") : Key), D.str (farP vs i))) (List.range vs.length))) (Sum.inr "#") (D.str (vs.getD (vs.length - 1) "")) = farA vs := rfl
  rw [MH.put_put, eA] at hK ⊢
  obtain ⟨hKA, hK1⟩ := MH.none_put.mp hK
  obtain ⟨hKB, hK2⟩ := MH.none_put.mp hK1
  have hR : (farR ws).length = ws.length + 1 := by simp [farR]
  rw [hR]
  refine ⟨by omega, by omega, ?_⟩
  let N := ws.length + 1
  let f := W.lead (numsOf ws vs)
  refine for_range (fun g σ M' => ∃ o4 o8 o9 o10 T, σ = [some (D.tup (List.map D.str ws)), some (D.tup (List.map D.str vs)), some (D.lst (farR ws)), some (D.ref pB), o4, some (D.ref pA), some (D.ref pK), some (.int (((List.range g).filter (W.first N f)).length : Nat)), o8, o9, o10] ∧
    M' = ((M.put pB (dkO (farB ws ws.length))).put pA (dkO (farA vs))).put pK (dkO T) ∧ T.length ≤ 41 * g ∧ ∀ x, keyIn T x = decide (∃ h, h < g ∧ x ∈ W.ring N f h)) ⟨_, _, _, _, [], rfl, rfl, by simp, fun x => by simp [keyIn, dGet]⟩ ?_ ?_
  · rintro σ M' ⟨o4, o8, o9, o10, T, rfl, rfl, hT, hk⟩
    simp only [d_law_far_r2, hR, dDk1, dicPO, eqOwnL, eqPairs, eqOne, dJoin, dMk, dstart, ends, dVar, dC, dOp, i2, ltO, leO, gtO, geO, subO, dTest, dAnd, dOr, dNot, asV, dAndV, dOrV, dNotV, dIf, dNil, dCons, dStar, dTup, dLst, dNew, seqD, lstD, datD, eqOp, neOp, addOp, mulOp, mulM, addM, divOp, modOp, powOp, isOp, isntOp, dNext, dSeq, dDrop, dRet, dRetN, dIfS, dBreak, dCont, dNever, dFrz, dgName, dgNil, dgCons, dgTup, dgSub, dAsg, dSet, dPar, dAugI, dSeqI, dRng1, dRng2, dEnum, dFor, dLast, dLink, dCh, dYes, dLc, dCall, dCall0, dFld, dMeth, dMeth0, dFrzO, frzO, dCB, ob1, ob2, oI, ii2, lenO, intO, sumO, intsO, blsO, strsO, reprO, absO, maxO, minO, dmO, tupO, lstO, lstMO, maxLO, minLO, anyO, allO, strIO, srtSO, srtO, srtIO, numsD_lst, numsD_tup, nats_inj, nats_len, stepD_inj, nc0, nc1, nc2, nc3, nc4, nc5, nc6, nc7, nc8, nc9, nc10, nc11, nc12, nc13, nc14, nc15, nc16, nc17, nc18, nc19, nc20, appendM, popM, extendM, insertM, indexM, indexTM, updateM, dBMT, dBMT.tupT, dinOp, dgetOp, dGet2, dsPut, dNewK, dDc, dPar3, dNeg, dkO_inj, dkO_ne, dkO_ne2, lenM_dk, keyD_int, keyD_str, dic_dk, dicA_dk, moTy_dk, moTy_lst, moTy_none, dIsi, inOp, ixOp, dSl, slOp, dRev, dBM, dBM0, refL, tyD, lenM_lst, dNoP, dPart, dCallN, dMake, dProp, eqOwn, neOwn, lenOwn, strOwn, dIsO, dMethN, dsFld, dRevT, dStrI, insD_obj, insD_ref, isC_obj, isC_ref, isC_non, isC_bl, isC_int, isC_str, isC_tup, isC_lst, ex_ins2, beq_self_eq_true, Bool.not_eq_eq_eq_not, decide_true, decide_false, okN_bl, okN_int, okN_non, exists_and_left, and_assoc, List.cons.injEq, dListRg1, dListRg2, pick, List.filterMap_cons, List.filterMap_nil, List.set_cons_zero, List.set_cons_succ, List.getElem?_cons_zero, List.getElem?_cons_succ, List.getElem?_nil, List.length_cons, List.length_nil, List.length_append, List.length_map, List.length_range, rangeD_length, enumD_length, List.cons_append, List.nil_append, forall_const, true_implies, false_implies, reduceCtorEq, Bool.not_true, Bool.not_false, and_true, true_and, decide_eq_true_eq, decide_eq_false_iff_not, MH.put_same, if_true, if_false, not_true_eq_false, not_false_eq_true, exists_eq_left, exists_eq_left', Option.some.injEq, MO.lst.injEq, MH.put_put, at_0, at_1, at_2, at_3, Int.ofNat_lt, Int.ofNat_le, ix_30, ix_31, ix_32, Nat.zero_add, Int.zero_add, Nat.reduceAdd, D.lst.injEq, lenOk, Nat.reduceLeDiff, rowD_inj, strs_inj, ints_inj, ex_ins, tyNm, ts_NoneType_bool, ts_NoneType_int, ts_NoneType_str, ts_NoneType_tuple, ts_NoneType_list, ts_bool_bool, ts_bool_int, ts_bool_str, ts_bool_tuple, ts_bool_list, ts_int_bool, ts_int_int, ts_int_str, ts_int_tuple, ts_int_list, ts_str_bool, ts_str_int, ts_str_str, ts_str_tuple, ts_str_list, ts_tuple_bool, ts_tuple_int, ts_tuple_str, ts_tuple_tuple, ts_tuple_list, ts_list_bool, ts_list_int, ts_list_str, ts_list_tuple, ts_list_list, ins_row, isC_row, row_ne, Int.natCast_inj, Int.toNat_natCast, D.int.injEq, D.str.injEq, D.bl.injEq, D.tup.injEq, D.ref.injEq, D.scr.injEq]
    refine ⟨by decide, by decide, M, .put (.put (.put .refl hB) hA1) hK2, ?_⟩
    have e1 : ((List.range N).filter (W.first N f)).length = W.nrings (numsOf ws vs) := by
      have := W.ringsL_len hf
      rw [W.ringsL, List.length_map] at this
      rw [this, W.nrings, nl]
    have e2 := W.nrings_le hP
    rw [nl] at e2
    have e3 : ((ws.length + 1 : Nat) : Int) - (((List.range N).filter (W.first N f)).length : Nat) = ((ws.length + 1 - W.nrings (numsOf ws vs) : Nat) : Int) := by rw [e1]; omega
    have e5 : ((ws.length + 1 : Nat) : Int) - (((List.range (ws.length + 1)).filter (W.first N f)).length : Nat) = ((ws.length + 1 - W.nrings (numsOf ws vs) : Nat) : Int) := e3
    rw [e5]
    have e6 : (((ws.length + 1 - W.nrings (numsOf ws vs) : Nat) : Int) / 2) = ((dist ws vs : Nat) : Int) := by
      unfold dist W.far; rw [nl]; omega
    rw [e6]; exact h
  · rintro g σ M' hg ⟨o4, o8, o9, o10, T, rfl, rfl, hT, hk⟩
    have kk : (dGet T (.inl ((g : Nat) : Int))).isSome = keyIn T g := rfl
    simp only [d_law_far_b2, dDk1, dicPO, eqOwnL, eqPairs, eqOne, dJoin, dMk, dstart, ends, dVar, dC, dOp, i2, ltO, leO, gtO, geO, subO, dTest, dAnd, dOr, dNot, asV, dAndV, dOrV, dNotV, dIf, dNil, dCons, dStar, dTup, dLst, dNew, seqD, lstD, datD, eqOp, neOp, addOp, mulOp, mulM, addM, divOp, modOp, powOp, isOp, isntOp, dNext, dSeq, dDrop, dRet, dRetN, dIfS, dBreak, dCont, dNever, dFrz, dgName, dgNil, dgCons, dgTup, dgSub, dAsg, dSet, dPar, dAugI, dSeqI, dRng1, dRng2, dEnum, dFor, dLast, dLink, dCh, dYes, dLc, dCall, dCall0, dFld, dMeth, dMeth0, dFrzO, frzO, dCB, ob1, ob2, oI, ii2, lenO, intO, sumO, intsO, blsO, strsO, reprO, absO, maxO, minO, dmO, tupO, lstO, lstMO, maxLO, minLO, anyO, allO, strIO, srtSO, srtO, srtIO, numsD_lst, numsD_tup, nats_inj, nats_len, stepD_inj, nc0, nc1, nc2, nc3, nc4, nc5, nc6, nc7, nc8, nc9, nc10, nc11, nc12, nc13, nc14, nc15, nc16, nc17, nc18, nc19, nc20, appendM, popM, extendM, insertM, indexM, indexTM, updateM, dBMT, dBMT.tupT, dinOp, dgetOp, dGet2, dsPut, dNewK, dDc, dPar3, dNeg, dkO_inj, dkO_ne, dkO_ne2, lenM_dk, keyD_int, keyD_str, dic_dk, dicA_dk, moTy_dk, moTy_lst, moTy_none, dIsi, inOp, ixOp, dSl, slOp, dRev, dBM, dBM0, refL, tyD, lenM_lst, dNoP, dPart, dCallN, dMake, dProp, eqOwn, neOwn, lenOwn, strOwn, dIsO, dMethN, dsFld, dRevT, dStrI, insD_obj, insD_ref, isC_obj, isC_ref, isC_non, isC_bl, isC_int, isC_str, isC_tup, isC_lst, ex_ins2, beq_self_eq_true, Bool.not_eq_eq_eq_not, decide_true, decide_false, okN_bl, okN_int, okN_non, exists_and_left, and_assoc, List.cons.injEq, dListRg1, dListRg2, pick, List.filterMap_cons, List.filterMap_nil, List.set_cons_zero, List.set_cons_succ, List.getElem?_cons_zero, List.getElem?_cons_succ, List.getElem?_nil, List.length_cons, List.length_nil, List.length_append, List.length_map, List.length_range, rangeD_length, enumD_length, List.cons_append, List.nil_append, forall_const, true_implies, false_implies, reduceCtorEq, Bool.not_true, Bool.not_false, and_true, true_and, decide_eq_true_eq, decide_eq_false_iff_not, MH.put_same, if_true, if_false, not_true_eq_false, not_false_eq_true, exists_eq_left, exists_eq_left', Option.some.injEq, MO.lst.injEq, MH.put_put, at_0, at_1, at_2, at_3, Int.ofNat_lt, Int.ofNat_le, ix_30, ix_31, ix_32, Nat.zero_add, Int.zero_add, Nat.reduceAdd, D.lst.injEq, lenOk, Nat.reduceLeDiff, rowD_inj, strs_inj, ints_inj, ex_ins, tyNm, ts_NoneType_bool, ts_NoneType_int, ts_NoneType_str, ts_NoneType_tuple, ts_NoneType_list, ts_bool_bool, ts_bool_int, ts_bool_str, ts_bool_tuple, ts_bool_list, ts_int_bool, ts_int_int, ts_int_str, ts_int_tuple, ts_int_list, ts_str_bool, ts_str_int, ts_str_str, ts_str_tuple, ts_str_list, ts_tuple_bool, ts_tuple_int, ts_tuple_str, ts_tuple_tuple, ts_tuple_list, ts_list_bool, ts_list_int, ts_list_str, ts_list_tuple, ts_list_list, ins_row, isC_row, row_ne, Int.natCast_inj, Int.toNat_natCast, D.int.injEq, D.str.injEq, D.bl.injEq, D.tup.injEq, D.ref.injEq, D.scr.injEq]
    rw [dic_k MH.put_same]
    refine ⟨_, rfl, by omega, by omega, ?_⟩
    rw [hR]
    have eF : (List.range (g + 1)).filter (W.first N f) = (List.range g).filter (W.first N f) ++ (if W.first N f g = true then [g] else []) := by
      rw [List.range_succ, List.filter_append]
      congr 1
      by_cases q : W.first N f g = true <;> simp [q]
    have fin : ∀ x, (∃ h, h < g + 1 ∧ x ∈ W.ring N f h) ↔ (∃ h, h < g ∧ x ∈ W.ring N f h) ∨ x ∈ W.ring N f g := fun x => by
      constructor
      · rintro ⟨h, hh, hx⟩
        by_cases e : h = g
        · subst e; exact .inr hx
        · exact .inl ⟨h, by omega, hx⟩
      · rintro (⟨h, hh, hx⟩ | hx)
        · exact ⟨h, by omega, hx⟩
        · exact ⟨g, by omega, hx⟩
    cases hin : keyIn T g with
    | true =>
      have hin2 := hin
      rw [hk, decide_eq_true_eq] at hin2
      have nF : W.first N f g = false := by
        unfold W.first
        rw [decide_eq_false_iff_not]
        intro q
        obtain ⟨h, hh, hm⟩ := hin2
        exact q h hh hm
      rw [nF] at eF
      simp only [Bool.false_eq_true, if_false, List.append_nil] at eF
      rw [kk, hin]
      refine for_range (fun t σ M' => ∃ o10, σ = [some (D.tup (List.map D.str ws)), some (D.tup (List.map D.str vs)), some (D.lst (farR ws)), some (D.ref pB), o4, some (D.ref pA), some (D.ref pK), some (.int (((List.range g).filter (W.first N f)).length : Nat)), some (.int (g : Nat)), some (.int (g : Nat)), o10] ∧
        M' = ((M.put pB (dkO (farB ws ws.length))).put pA (dkO (farA vs))).put pK (dkO T)) ⟨o10, by simp, rfl⟩ ?_ ?_
      · rintro σ M' ⟨o10, rfl, rfl⟩
        refine ⟨o4, _, _, _, by rw [eF], T, rfl, by omega, fun x => ?_⟩
        rw [hk, Bool.eq_iff_iff]
        simp only [decide_eq_true_eq]
        rw [fin x]
        constructor
        · exact .inl
        · rintro (q | hx)
          · exact q
          · obtain ⟨h, hh, hm⟩ := hin2
            exact ⟨h, hh, (W.mem_ring hf (by omega)).mpr (((W.mem_ring hf (by omega)).mp hm).trans ((W.mem_ring hf hg).mp hx))⟩
      · rintro t σ M' ht ⟨o10, rfl, rfl⟩
        simp only [d_law_far_b3, dDk1, dicPO, eqOwnL, eqPairs, eqOne, dJoin, dMk, dstart, ends, dVar, dC, dOp, i2, ltO, leO, gtO, geO, subO, dTest, dAnd, dOr, dNot, asV, dAndV, dOrV, dNotV, dIf, dNil, dCons, dStar, dTup, dLst, dNew, seqD, lstD, datD, eqOp, neOp, addOp, mulOp, mulM, addM, divOp, modOp, powOp, isOp, isntOp, dNext, dSeq, dDrop, dRet, dRetN, dIfS, dBreak, dCont, dNever, dFrz, dgName, dgNil, dgCons, dgTup, dgSub, dAsg, dSet, dPar, dAugI, dSeqI, dRng1, dRng2, dEnum, dFor, dLast, dLink, dCh, dYes, dLc, dCall, dCall0, dFld, dMeth, dMeth0, dFrzO, frzO, dCB, ob1, ob2, oI, ii2, lenO, intO, sumO, intsO, blsO, strsO, reprO, absO, maxO, minO, dmO, tupO, lstO, lstMO, maxLO, minLO, anyO, allO, strIO, srtSO, srtO, srtIO, numsD_lst, numsD_tup, nats_inj, nats_len, stepD_inj, nc0, nc1, nc2, nc3, nc4, nc5, nc6, nc7, nc8, nc9, nc10, nc11, nc12, nc13, nc14, nc15, nc16, nc17, nc18, nc19, nc20, appendM, popM, extendM, insertM, indexM, indexTM, updateM, dBMT, dBMT.tupT, dinOp, dgetOp, dGet2, dsPut, dNewK, dDc, dPar3, dNeg, dkO_inj, dkO_ne, dkO_ne2, lenM_dk, keyD_int, keyD_str, dic_dk, dicA_dk, moTy_dk, moTy_lst, moTy_none, dIsi, inOp, ixOp, dSl, slOp, dRev, dBM, dBM0, refL, tyD, lenM_lst, dNoP, dPart, dCallN, dMake, dProp, eqOwn, neOwn, lenOwn, strOwn, dIsO, dMethN, dsFld, dRevT, dStrI, insD_obj, insD_ref, isC_obj, isC_ref, isC_non, isC_bl, isC_int, isC_str, isC_tup, isC_lst, ex_ins2, beq_self_eq_true, Bool.not_eq_eq_eq_not, decide_true, decide_false, okN_bl, okN_int, okN_non, exists_and_left, and_assoc, List.cons.injEq, dListRg1, dListRg2, pick, List.filterMap_cons, List.filterMap_nil, List.set_cons_zero, List.set_cons_succ, List.getElem?_cons_zero, List.getElem?_cons_succ, List.getElem?_nil, List.length_cons, List.length_nil, List.length_append, List.length_map, List.length_range, rangeD_length, enumD_length, List.cons_append, List.nil_append, forall_const, true_implies, false_implies, reduceCtorEq, Bool.not_true, Bool.not_false, and_true, true_and, decide_eq_true_eq, decide_eq_false_iff_not, MH.put_same, if_true, if_false, not_true_eq_false, not_false_eq_true, exists_eq_left, exists_eq_left', Option.some.injEq, MO.lst.injEq, MH.put_put, at_0, at_1, at_2, at_3, Int.ofNat_lt, Int.ofNat_le, ix_30, ix_31, ix_32, Nat.zero_add, Int.zero_add, Nat.reduceAdd, D.lst.injEq, lenOk, Nat.reduceLeDiff, rowD_inj, strs_inj, ints_inj, ex_ins, tyNm, ts_NoneType_bool, ts_NoneType_int, ts_NoneType_str, ts_NoneType_tuple, ts_NoneType_list, ts_bool_bool, ts_bool_int, ts_bool_str, ts_bool_tuple, ts_bool_list, ts_int_bool, ts_int_int, ts_int_str, ts_int_tuple, ts_int_list, ts_str_bool, ts_str_int, ts_str_str, ts_str_tuple, ts_str_list, ts_tuple_bool, ts_tuple_int, ts_tuple_str, ts_tuple_tuple, ts_tuple_list, ts_list_bool, ts_list_int, ts_list_str, ts_list_tuple, ts_list_list, ins_row, isC_row, row_ne, Int.natCast_inj, Int.toNat_natCast, D.int.injEq, D.str.injEq, D.bl.injEq, D.tup.injEq, D.ref.injEq, D.scr.injEq]
        rw [dic_k MH.put_same]
        refine ⟨_, rfl, fun q => ?_, fun _ => by first | rfl | exact ⟨_, rfl, rfl⟩ | exact ⟨_, rfl⟩⟩
        rw [kk, hin] at q; simp at q
    | false =>
      have hno := hin
      rw [hk, decide_eq_false_iff_not] at hno
      have isF : W.first N f g = true := by
        unfold W.first
        rw [decide_eq_true_eq]
        intro h hh hm
        exact hno ⟨h, hh, hm⟩
      rw [isF] at eF
      simp only [if_true] at eF
      rw [kk, hin]
      obtain ⟨p1, p2, p3⟩ := W.per_ok hf hg
      have ex : ∀ j, (∃ h, h < g ∧ W.itr f j g ∈ W.ring N f h) → False := fun j ⟨h, hh, hm⟩ => by
        have hc := (W.mem_ring hf (by omega)).mp hm
        have h2 : W.conn f g (W.itr f j g) := ⟨j, rfl⟩
        exact hno ⟨h, hh, (W.mem_ring hf (by omega)).mpr (hc.trans (W.conn.symm hf hg h2))⟩
      refine for_range (fun t σ M' => ∃ o10 T', σ = [some (D.tup (List.map D.str ws)), some (D.tup (List.map D.str vs)), some (D.lst (farR ws)), some (D.ref pB), o4, some (D.ref pA), some (D.ref pK), some (.int (((List.range (g + 1)).filter (W.first N f)).length : Nat)), some (.int (g : Nat)), some (.int (W.itr f (min t (W.per N f g)) g : Nat)), o10] ∧
        M' = ((M.put pB (dkO (farB ws ws.length))).put pA (dkO (farA vs))).put pK (dkO T') ∧ T'.length ≤ T.length + t ∧ ∀ x, keyIn T' x = (keyIn T x || decide (∃ j, j < min t (W.per N f g) ∧ x = W.itr f j g))) ⟨o10, T, by rw [eF]; simp [W.itr], rfl, by omega, fun x => by simp⟩ ?_ ?_
      · rintro σ M' ⟨o10, T', rfl, rfl, hT', hk'⟩
        refine ⟨o4, _, _, _, rfl, T', rfl, by omega, fun x => ?_⟩
        rw [hk', hk, Bool.eq_iff_iff, show min (ws.length + 1) (W.per N f g) = W.per N f g from Nat.min_eq_right p2]
        simp only [Bool.or_eq_true, decide_eq_true_eq]
        rw [fin x]
        have : (∃ j, j < W.per N f g ∧ x = W.itr f j g) ↔ x ∈ W.ring N f g := by
          unfold W.ring
          simp only [List.mem_map, List.mem_range]
          exact ⟨fun ⟨j, a, b⟩ => ⟨j, a, b.symm⟩, fun ⟨j, a, b⟩ => ⟨j, a, b.symm⟩⟩
        rw [this]
      · rintro t σ M' ht ⟨o10, T', rfl, rfl, hT', hk'⟩
        have hlt := hf.itr_lt hg (min t (W.per N f g))
        have kk' : (dGet T' (.inl ((W.itr f (min t (W.per N f g)) g : Nat) : Int))).isSome = keyIn T' (W.itr f (min t (W.per N f g)) g) := rfl
        obtain ⟨s1, s2, a1, a2, a3⟩ := far_step G1 G2 hp hlt
        simp only [d_law_far_b3, dDk1, dicPO, eqOwnL, eqPairs, eqOne, dJoin, dMk, dstart, ends, dVar, dC, dOp, i2, ltO, leO, gtO, geO, subO, dTest, dAnd, dOr, dNot, asV, dAndV, dOrV, dNotV, dIf, dNil, dCons, dStar, dTup, dLst, dNew, seqD, lstD, datD, eqOp, neOp, addOp, mulOp, mulM, addM, divOp, modOp, powOp, isOp, isntOp, dNext, dSeq, dDrop, dRet, dRetN, dIfS, dBreak, dCont, dNever, dFrz, dgName, dgNil, dgCons, dgTup, dgSub, dAsg, dSet, dPar, dAugI, dSeqI, dRng1, dRng2, dEnum, dFor, dLast, dLink, dCh, dYes, dLc, dCall, dCall0, dFld, dMeth, dMeth0, dFrzO, frzO, dCB, ob1, ob2, oI, ii2, lenO, intO, sumO, intsO, blsO, strsO, reprO, absO, maxO, minO, dmO, tupO, lstO, lstMO, maxLO, minLO, anyO, allO, strIO, srtSO, srtO, srtIO, numsD_lst, numsD_tup, nats_inj, nats_len, stepD_inj, nc0, nc1, nc2, nc3, nc4, nc5, nc6, nc7, nc8, nc9, nc10, nc11, nc12, nc13, nc14, nc15, nc16, nc17, nc18, nc19, nc20, appendM, popM, extendM, insertM, indexM, indexTM, updateM, dBMT, dBMT.tupT, dinOp, dgetOp, dGet2, dsPut, dNewK, dDc, dPar3, dNeg, dkO_inj, dkO_ne, dkO_ne2, lenM_dk, keyD_int, keyD_str, dic_dk, dicA_dk, moTy_dk, moTy_lst, moTy_none, dIsi, inOp, ixOp, dSl, slOp, dRev, dBM, dBM0, refL, tyD, lenM_lst, dNoP, dPart, dCallN, dMake, dProp, eqOwn, neOwn, lenOwn, strOwn, dIsO, dMethN, dsFld, dRevT, dStrI, insD_obj, insD_ref, isC_obj, isC_ref, isC_non, isC_bl, isC_int, isC_str, isC_tup, isC_lst, ex_ins2, beq_self_eq_true, Bool.not_eq_eq_eq_not, decide_true, decide_false, okN_bl, okN_int, okN_non, exists_and_left, and_assoc, List.cons.injEq, dListRg1, dListRg2, pick, List.filterMap_cons, List.filterMap_nil, List.set_cons_zero, List.set_cons_succ, List.getElem?_cons_zero, List.getElem?_cons_succ, List.getElem?_nil, List.length_cons, List.length_nil, List.length_append, List.length_map, List.length_range, rangeD_length, enumD_length, List.cons_append, List.nil_append, forall_const, true_implies, false_implies, reduceCtorEq, Bool.not_true, Bool.not_false, and_true, true_and, decide_eq_true_eq, decide_eq_false_iff_not, MH.put_same, if_true, if_false, not_true_eq_false, not_false_eq_true, exists_eq_left, exists_eq_left', Option.some.injEq, MO.lst.injEq, MH.put_put, at_0, at_1, at_2, at_3, Int.ofNat_lt, Int.ofNat_le, ix_30, ix_31, ix_32, Nat.zero_add, Int.zero_add, Nat.reduceAdd, D.lst.injEq, lenOk, Nat.reduceLeDiff, rowD_inj, strs_inj, ints_inj, ex_ins, tyNm, ts_NoneType_bool, ts_NoneType_int, ts_NoneType_str, ts_NoneType_tuple, ts_NoneType_list, ts_bool_bool, ts_bool_int, ts_bool_str, ts_bool_tuple, ts_bool_list, ts_int_bool, ts_int_int, ts_int_str, ts_int_tuple, ts_int_list, ts_str_bool, ts_str_int, ts_str_str, ts_str_tuple, ts_str_list, ts_tuple_bool, ts_tuple_int, ts_tuple_str, ts_tuple_tuple, ts_tuple_list, ts_list_bool, ts_list_int, ts_list_str, ts_list_tuple, ts_list_list, ins_row, isC_row, row_ne, Int.natCast_inj, Int.toNat_natCast, D.int.injEq, D.str.injEq, D.bl.injEq, D.tup.injEq, D.ref.injEq, D.scr.injEq]
        rw [dic_k MH.put_same]
        refine ⟨_, rfl, fun q => ?_, fun q => ?_⟩
        · rw [kk', hk'] at q
          simp only [Bool.or_eq_false_iff, decide_eq_false_iff_not] at q
          have tl : t < W.per N f g := by
            rcases Nat.lt_or_ge t (W.per N f g) with z | z
            · exact z
            · exfalso
              rw [Nat.min_eq_right z] at q
              exact q.2 ⟨0, W.per_pos, by rw [p1]; rfl⟩
          have m1 : min t (W.per N f g) = t := by omega
          have m2 : min (t + 1) (W.per N f g) = t + 1 := by omega
          rw [m1] at a1 a3 ⊢
          rw [dput_k MH.put_same]
          refine ⟨_, rfl, by unfold lenOk; omega, _, a1, ?_⟩
          rw [MH.put_put]
          rw [dic_k (t := farA vs) (by rw [MH.put_ne hKA.symm, MH.put_same])]
          refine ⟨_, rfl, _, a2, ?_⟩
          rw [dic_k (t := farB ws ws.length) (by rw [MH.put_ne hKB.symm, MH.put_ne hAB.symm, MH.put_same])]
          refine ⟨_, rfl, _, a3, by rw [m2]; rfl, dPut T' (.inl ((W.itr f t g : Nat) : Int)) (.bl true), rfl, ?_, fun x => ?_⟩
          · have := dPut_len T' (.inl ((W.itr f t g : Nat) : Int)) (.bl true); omega
          · unfold keyIn at hk' ⊢
            rw [dGet_put, m2]
            by_cases e : x = W.itr f t g
            · subst e
              rw [if_pos rfl]
              have : decide (∃ j, j < t + 1 ∧ W.itr f t g = W.itr f j g) = true := decide_eq_true ⟨t, by omega, rfl⟩
              rw [this]; simp
            · rw [if_neg (fun z => e (by have := Sum.inl.inj z; omega)), hk', m1]
              congr 1
              rw [Bool.eq_iff_iff, decide_eq_true_eq, decide_eq_true_eq]
              constructor
              · rintro ⟨j, hj, he⟩; exact ⟨j, by omega, he⟩
              · rintro ⟨j, hj, he⟩
                refine ⟨j, ?_, he⟩
                rcases Nat.lt_or_ge j t with z | z
                · exact z
                · exact absurd (by rw [he, show j = t by omega]) e
        · rw [kk', hk'] at q
          have tl : ¬ t < W.per N f g := fun z => by
            have m1 : min t (W.per N f g) = t := by omega
            rw [m1] at q
            have q : (keyIn T (W.itr f t g) = true) ∨ ∃ j, j < t ∧ W.itr f t g = W.itr f j g := by simpa using q
            rcases q with q | ⟨j, hj, he⟩
            · rw [hk, decide_eq_true_eq] at q; exact ex t q
            · have nd := W.ring_nd hf hg
              unfold W.ring at nd
              have := (List.getElem_inj nd (i := t) (j := j) (h₀ := by simpa using z) (h₁ := by simpa using Nat.lt_trans hj z)).mp (by simpa using he)
              omega
          have m1 : min t (W.per N f g) = W.per N f g := by omega
          have m2 : min (t + 1) (W.per N f g) = W.per N f g := by omega
          rw [m1, m2]
          refine ⟨rfl, T', rfl, by omega, fun x => by rw [hk', m1]⟩

theorem ok_law_far (T : Txt ⟨P, w, K, mg, base⟩) : Cal ⟨P, w, K, mg, base⟩ "_law_far" 1 ["_law_line_here", "_law_aim"] sp_law_far := cal_mk T.t_law_far F_law_far (r_law_far T) pl_law_far
def sp_check_row : DSp := fun ds M Q _ => match ds with
  | [r] => ∃ ws, r = rowD ws ∧ Q .non M
  | _ => False

def d_check_row : DS :=
  (dIfS (dNot (dTest (dIsO "Row" (dVar 0)))) dNever dNext)
theorem st_check_row (v0 : D) : dstart N_check_row [v0] = [some v0] := rfl
theorem r_check_row (T : Txt ⟨P, w, K, mg, base⟩) : DPSs ⟨P, w, K, mg, base⟩ (Sx.fn N_check_row (defScope s_check_row) 0) (defBody s_check_row) d_check_row :=
  (dpss_one (dps_if (dpt_not (dpt_val (dp_isO S_check_row T.z_isinstance T.h_Row (dp_var S_check_row 0)))) (dpss_one dps_never) dpss_nil))
theorem pl_check_row (ds : List D) (M : MH) (Q : DQ) (E : Er → MH → Prop) (hl : ds.length = 1) (h : sp_check_row ds M Q E) : d_check_row (ends Q) (fun er _ M => E er M) (dstart N_check_row ds) M := by
  unfold sp_check_row at h
  split at h
  case h_2 => exact h.elim
  rename_i r
  rw [st_check_row]
  obtain ⟨ws, rfl, h⟩ := h
  simp only [d_check_row, dDk1, dicPO, eqOwnL, eqPairs, eqOne, dJoin, dMk, dstart, ends, dVar, dC, dOp, i2, ltO, leO, gtO, geO, subO, dTest, dAnd, dOr, dNot, asV, dAndV, dOrV, dNotV, dIf, dNil, dCons, dStar, dTup, dLst, dNew, seqD, lstD, datD, eqOp, neOp, addOp, mulOp, mulM, addM, divOp, modOp, powOp, isOp, isntOp, dNext, dSeq, dDrop, dRet, dRetN, dIfS, dBreak, dCont, dNever, dFrz, dgName, dgNil, dgCons, dgTup, dgSub, dAsg, dSet, dPar, dAugI, dSeqI, dRng1, dRng2, dEnum, dFor, dLast, dLink, dCh, dYes, dLc, dCall, dCall0, dFld, dMeth, dMeth0, dFrzO, frzO, dCB, ob1, ob2, oI, ii2, lenO, intO, sumO, intsO, blsO, strsO, reprO, absO, maxO, minO, dmO, tupO, lstO, lstMO, maxLO, minLO, anyO, allO, strIO, srtSO, srtO, srtIO, numsD_lst, numsD_tup, nats_inj, nats_len, stepD_inj, nc0, nc1, nc2, nc3, nc4, nc5, nc6, nc7, nc8, nc9, nc10, nc11, nc12, nc13, nc14, nc15, nc16, nc17, nc18, nc19, nc20, appendM, popM, extendM, insertM, indexM, indexTM, updateM, dBMT, dBMT.tupT, dinOp, dgetOp, dGet2, dsPut, dNewK, dDc, dPar3, dNeg, dkO_inj, dkO_ne, dkO_ne2, lenM_dk, keyD_int, keyD_str, dic_dk, dicA_dk, moTy_dk, moTy_lst, moTy_none, dIsi, inOp, ixOp, dSl, slOp, dRev, dBM, dBM0, refL, tyD, lenM_lst, dNoP, dPart, dCallN, dMake, dProp, eqOwn, neOwn, lenOwn, strOwn, dIsO, dMethN, dsFld, dRevT, dStrI, insD_obj, insD_ref, isC_obj, isC_ref, isC_non, isC_bl, isC_int, isC_str, isC_tup, isC_lst, ex_ins2, beq_self_eq_true, Bool.not_eq_eq_eq_not, decide_true, decide_false, okN_bl, okN_int, okN_non, exists_and_left, and_assoc, List.cons.injEq, dListRg1, dListRg2, pick, List.filterMap_cons, List.filterMap_nil, List.set_cons_zero, List.set_cons_succ, List.getElem?_cons_zero, List.getElem?_cons_succ, List.getElem?_nil, List.length_cons, List.length_nil, List.length_append, List.length_map, List.length_range, rangeD_length, enumD_length, List.cons_append, List.nil_append, forall_const, true_implies, false_implies, reduceCtorEq, Bool.not_true, Bool.not_false, and_true, true_and, decide_eq_true_eq, decide_eq_false_iff_not, MH.put_same, if_true, if_false, not_true_eq_false, not_false_eq_true, exists_eq_left, exists_eq_left', Option.some.injEq, MO.lst.injEq, MH.put_put, at_0, at_1, at_2, at_3, Int.ofNat_lt, Int.ofNat_le, ix_30, ix_31, ix_32, Nat.zero_add, Int.zero_add, Nat.reduceAdd, D.lst.injEq, lenOk, Nat.reduceLeDiff, rowD_inj, strs_inj, ints_inj, ex_ins, tyNm, ts_NoneType_bool, ts_NoneType_int, ts_NoneType_str, ts_NoneType_tuple, ts_NoneType_list, ts_bool_bool, ts_bool_int, ts_bool_str, ts_bool_tuple, ts_bool_list, ts_int_bool, ts_int_int, ts_int_str, ts_int_tuple, ts_int_list, ts_str_bool, ts_str_int, ts_str_str, ts_str_tuple, ts_str_list, ts_tuple_bool, ts_tuple_int, ts_tuple_str, ts_tuple_tuple, ts_tuple_list, ts_list_bool, ts_list_int, ts_list_str, ts_list_tuple, ts_list_list, ins_row, isC_row, row_ne, Int.natCast_inj, Int.toNat_natCast, D.int.injEq, D.str.injEq, D.bl.injEq, D.tup.injEq, D.ref.injEq, D.scr.injEq]
  exact ⟨_, .refl, h⟩

theorem ok_check_row (T : Txt ⟨P, w, K, mg, base⟩) : Cal ⟨P, w, K, mg, base⟩ "check_row" 1 ["value"] sp_check_row := cal_mk T.t_check_row F_check_row (r_check_row T) pl_check_row
def sp_Row_is_kin : DSp := fun ds M Q _ => match ds with
  | [r1, r2] => ∃ ws vs, r1 = rowD ws ∧ r2 = rowD vs ∧ GoodT ws ∧ GoodT vs ∧ ∀ b : Bool, (b = true ↔ ws.Perm vs) → Q (.bl b) M
  | _ => False

def d_Row_is_kin : DS :=
  (dSeq (dDrop (dCall 1 sp_check_row (dCons (dVar 1) dNil)))
    (dRet (dOp eqOp (dCB (ob1 srtO) (dCons (dFld "Row" "line" (dVar 0)) dNil)) (dCB (ob1 srtO) (dCons (dFld "Row" "line" (dVar 1)) dNil)))))
theorem st_Row_is_kin (v0 v1 : D) : dstart N_Row_is_kin [v0, v1] = [some v0, some v1] := rfl
theorem r_Row_is_kin (T : Txt ⟨P, w, K, mg, base⟩) : DPSs ⟨P, w, K, mg, base⟩ (Sx.fn N_Row_is_kin (defScope s_Row_is_kin) 1) (defBody s_Row_is_kin) d_Row_is_kin :=
  (dpss_cons (dps_expr (dp_call (ok_check_row T) S_Row_is_kin (dpa_cons (dp_var S_Row_is_kin 1) dpa_nil)))
    (by exact (dpss_one (dps_ret (dp_cmp (fun _ ft => opD_eq ft) (dp_callB S_Row_is_kin T.z_sorted (fun X ft => cb_sortedA) boot_sorted (dpa_cons (dp_fld T.h_Row.cl T.n_Row_line (dp_var S_Row_is_kin 0)) dpa_nil)) (dp_callB S_Row_is_kin T.z_sorted (fun X ft => cb_sortedA) boot_sorted (dpa_cons (dp_fld T.h_Row.cl T.n_Row_line (dp_var S_Row_is_kin 1)) dpa_nil)) (by with_unfolding_all rfl))))))
theorem pl_Row_is_kin (ds : List D) (M : MH) (Q : DQ) (E : Er → MH → Prop) (hl : ds.length = 2) (h : sp_Row_is_kin ds M Q E) : d_Row_is_kin (ends Q) (fun er _ M => E er M) (dstart N_Row_is_kin ds) M := by
  unfold sp_Row_is_kin at h
  split at h
  case h_2 => exact h.elim
  rename_i r1 r2
  rw [st_Row_is_kin]
  obtain ⟨ws, vs, rfl, rfl, G1, G2, h⟩ := h
  have f1 := G1.few
  have f2 := G2.few
  simp only [d_Row_is_kin, sp_check_row, rowD, fldOf, dDk1, dicPO, eqOwnL, eqPairs, eqOne, dJoin, dMk, dstart, ends, dVar, dC, dOp, i2, ltO, leO, gtO, geO, subO, dTest, dAnd, dOr, dNot, asV, dAndV, dOrV, dNotV, dIf, dNil, dCons, dStar, dTup, dLst, dNew, seqD, lstD, datD, eqOp, neOp, addOp, mulOp, mulM, addM, divOp, modOp, powOp, isOp, isntOp, dNext, dSeq, dDrop, dRet, dRetN, dIfS, dBreak, dCont, dNever, dFrz, dgName, dgNil, dgCons, dgTup, dgSub, dAsg, dSet, dPar, dAugI, dSeqI, dRng1, dRng2, dEnum, dFor, dLast, dLink, dCh, dYes, dLc, dCall, dCall0, dFld, dMeth, dMeth0, dFrzO, frzO, dCB, ob1, ob2, oI, ii2, lenO, intO, sumO, intsO, blsO, strsO, reprO, absO, maxO, minO, dmO, tupO, lstO, lstMO, maxLO, minLO, anyO, allO, strIO, srtSO, srtO, srtIO, numsD_lst, numsD_tup, nats_inj, nats_len, stepD_inj, nc0, nc1, nc2, nc3, nc4, nc5, nc6, nc7, nc8, nc9, nc10, nc11, nc12, nc13, nc14, nc15, nc16, nc17, nc18, nc19, nc20, appendM, popM, extendM, insertM, indexM, indexTM, updateM, dBMT, dBMT.tupT, dinOp, dgetOp, dGet2, dsPut, dNewK, dDc, dPar3, dNeg, dkO_inj, dkO_ne, dkO_ne2, lenM_dk, keyD_int, keyD_str, dic_dk, dicA_dk, moTy_dk, moTy_lst, moTy_none, dIsi, inOp, ixOp, dSl, slOp, dRev, dBM, dBM0, refL, tyD, lenM_lst, dNoP, dPart, dCallN, dMake, dProp, eqOwn, neOwn, lenOwn, strOwn, dIsO, dMethN, dsFld, dRevT, dStrI, insD_obj, insD_ref, isC_obj, isC_ref, isC_non, isC_bl, isC_int, isC_str, isC_tup, isC_lst, ex_ins2, beq_self_eq_true, Bool.not_eq_eq_eq_not, decide_true, decide_false, okN_bl, okN_int, okN_non, exists_and_left, and_assoc, List.cons.injEq, dListRg1, dListRg2, pick, List.filterMap_cons, List.filterMap_nil, List.set_cons_zero, List.set_cons_succ, List.getElem?_cons_zero, List.getElem?_cons_succ, List.getElem?_nil, List.length_cons, List.length_nil, List.length_append, List.length_map, List.length_range, rangeD_length, enumD_length, List.cons_append, List.nil_append, forall_const, true_implies, false_implies, reduceCtorEq, Bool.not_true, Bool.not_false, and_true, true_and, decide_eq_true_eq, decide_eq_false_iff_not, MH.put_same, if_true, if_false, not_true_eq_false, not_false_eq_true, exists_eq_left, exists_eq_left', Option.some.injEq, MO.lst.injEq, MH.put_put, at_0, at_1, at_2, at_3, Int.ofNat_lt, Int.ofNat_le, ix_30, ix_31, ix_32, Nat.zero_add, Int.zero_add, Nat.reduceAdd, D.lst.injEq, lenOk, Nat.reduceLeDiff, rowD_inj, strs_inj, ints_inj, ex_ins, tyNm, ts_NoneType_bool, ts_NoneType_int, ts_NoneType_str, ts_NoneType_tuple, ts_NoneType_list, ts_bool_bool, ts_bool_int, ts_bool_str, ts_bool_tuple, ts_bool_list, ts_int_bool, ts_int_int, ts_int_str, ts_int_tuple, ts_int_list, ts_str_bool, ts_str_int, ts_str_str, ts_str_tuple, ts_str_list, ts_tuple_bool, ts_tuple_int, ts_tuple_str, ts_tuple_tuple, ts_tuple_list, ts_list_bool, ts_list_int, ts_list_str, ts_list_tuple, ts_list_list, ins_row, isC_row, row_ne, Int.natCast_inj, Int.toNat_natCast, D.int.injEq, D.str.injEq, D.bl.injEq, D.tup.injEq, D.ref.injEq, D.scr.injEq]
  refine ⟨vs, rfl, by omega, fun ys p1 s1 => ⟨by omega, fun zs p2 s2 => ⟨?_, ?_, M, .refl, ?_⟩⟩⟩
  · exact ok_strs (n := 49) (G1.perm p1).good
  · exact ok_strs (n := 49) (G2.perm p2).good
  · rw [eqD, eqDL_strs]
    refine h _ ?_
    rw [decide_eq_true_eq]
    exact ⟨fun e => (p1.symm.trans (e ▸ .refl _)).trans p2, fun e => sorted_same ((p1.trans e).trans p2.symm) s1 s2⟩

theorem ok_Row_is_kin (T : Txt ⟨P, w, K, mg, base⟩) : CalM ⟨P, w, K, mg, base⟩ "Row" "is_kin" 2 ["self", "other"] sp_Row_is_kin := calM_mk T.t_Row_is_kin F_Row_is_kin (r_Row_is_kin T) pl_Row_is_kin
def sp_check_kin : DSp := fun ds M Q _ => match ds with
  | [r1, r2] => ∃ ws vs, r1 = rowD ws ∧ r2 = rowD vs ∧ GoodT ws ∧ GoodT vs ∧ ws.Perm vs ∧ Q .non M
  | _ => False

def d_check_kin : DS :=
  (dIfS (dNot (dTest (dMeth "Row" "is_kin" 2 sp_Row_is_kin (dVar 0) (dCons (dVar 1) dNil)))) dNever dNext)
theorem st_check_kin (v0 v1 : D) : dstart N_check_kin [v0, v1] = [some v0, some v1] := rfl
theorem r_check_kin (T : Txt ⟨P, w, K, mg, base⟩) : DPSs ⟨P, w, K, mg, base⟩ (Sx.fn N_check_kin (defScope s_check_kin) 2) (defBody s_check_kin) d_check_kin :=
  (dpss_one (dps_if (dpt_not (dpt_val (dp_meth (ok_Row_is_kin T) T.h_Row.cl (dp_var S_check_kin 0) (dpa_cons (dp_var S_check_kin 1) dpa_nil)))) (dpss_one dps_never) dpss_nil))
theorem pl_check_kin (ds : List D) (M : MH) (Q : DQ) (E : Er → MH → Prop) (hl : ds.length = 2) (h : sp_check_kin ds M Q E) : d_check_kin (ends Q) (fun er _ M => E er M) (dstart N_check_kin ds) M := by
  unfold sp_check_kin at h
  split at h
  case h_2 => exact h.elim
  rename_i r1 r2
  rw [st_check_kin]
  obtain ⟨ws, vs, rfl, rfl, G1, G2, hp, h⟩ := h
  simp only [d_check_kin, sp_Row_is_kin, dDk1, dicPO, eqOwnL, eqPairs, eqOne, dJoin, dMk, dstart, ends, dVar, dC, dOp, i2, ltO, leO, gtO, geO, subO, dTest, dAnd, dOr, dNot, asV, dAndV, dOrV, dNotV, dIf, dNil, dCons, dStar, dTup, dLst, dNew, seqD, lstD, datD, eqOp, neOp, addOp, mulOp, mulM, addM, divOp, modOp, powOp, isOp, isntOp, dNext, dSeq, dDrop, dRet, dRetN, dIfS, dBreak, dCont, dNever, dFrz, dgName, dgNil, dgCons, dgTup, dgSub, dAsg, dSet, dPar, dAugI, dSeqI, dRng1, dRng2, dEnum, dFor, dLast, dLink, dCh, dYes, dLc, dCall, dCall0, dFld, dMeth, dMeth0, dFrzO, frzO, dCB, ob1, ob2, oI, ii2, lenO, intO, sumO, intsO, blsO, strsO, reprO, absO, maxO, minO, dmO, tupO, lstO, lstMO, maxLO, minLO, anyO, allO, strIO, srtSO, srtO, srtIO, numsD_lst, numsD_tup, nats_inj, nats_len, stepD_inj, nc0, nc1, nc2, nc3, nc4, nc5, nc6, nc7, nc8, nc9, nc10, nc11, nc12, nc13, nc14, nc15, nc16, nc17, nc18, nc19, nc20, appendM, popM, extendM, insertM, indexM, indexTM, updateM, dBMT, dBMT.tupT, dinOp, dgetOp, dGet2, dsPut, dNewK, dDc, dPar3, dNeg, dkO_inj, dkO_ne, dkO_ne2, lenM_dk, keyD_int, keyD_str, dic_dk, dicA_dk, moTy_dk, moTy_lst, moTy_none, dIsi, inOp, ixOp, dSl, slOp, dRev, dBM, dBM0, refL, tyD, lenM_lst, dNoP, dPart, dCallN, dMake, dProp, eqOwn, neOwn, lenOwn, strOwn, dIsO, dMethN, dsFld, dRevT, dStrI, insD_obj, insD_ref, isC_obj, isC_ref, isC_non, isC_bl, isC_int, isC_str, isC_tup, isC_lst, ex_ins2, beq_self_eq_true, Bool.not_eq_eq_eq_not, decide_true, decide_false, okN_bl, okN_int, okN_non, exists_and_left, and_assoc, List.cons.injEq, dListRg1, dListRg2, pick, List.filterMap_cons, List.filterMap_nil, List.set_cons_zero, List.set_cons_succ, List.getElem?_cons_zero, List.getElem?_cons_succ, List.getElem?_nil, List.length_cons, List.length_nil, List.length_append, List.length_map, List.length_range, rangeD_length, enumD_length, List.cons_append, List.nil_append, forall_const, true_implies, false_implies, reduceCtorEq, Bool.not_true, Bool.not_false, and_true, true_and, decide_eq_true_eq, decide_eq_false_iff_not, MH.put_same, if_true, if_false, not_true_eq_false, not_false_eq_true, exists_eq_left, exists_eq_left', Option.some.injEq, MO.lst.injEq, MH.put_put, at_0, at_1, at_2, at_3, Int.ofNat_lt, Int.ofNat_le, ix_30, ix_31, ix_32, Nat.zero_add, Int.zero_add, Nat.reduceAdd, D.lst.injEq, lenOk, Nat.reduceLeDiff, rowD_inj, strs_inj, ints_inj, ex_ins, tyNm, ts_NoneType_bool, ts_NoneType_int, ts_NoneType_str, ts_NoneType_tuple, ts_NoneType_list, ts_bool_bool, ts_bool_int, ts_bool_str, ts_bool_tuple, ts_bool_list, ts_int_bool, ts_int_int, ts_int_str, ts_int_tuple, ts_int_list, ts_str_bool, ts_str_int, ts_str_str, ts_str_tuple, ts_str_list, ts_tuple_bool, ts_tuple_int, ts_tuple_str, ts_tuple_tuple, ts_tuple_list, ts_list_bool, ts_list_int, ts_list_str, ts_list_tuple, ts_list_list, ins_row, isC_row, row_ne, Int.natCast_inj, Int.toNat_natCast, D.int.injEq, D.str.injEq, D.bl.injEq, D.tup.injEq, D.ref.injEq, D.scr.injEq]
  exact ⟨by decide, G1, G2, fun b hb => ⟨fun q => absurd (hb.mpr hp) (by rw [q]; decide), fun _ => ⟨_, .refl, h⟩⟩⟩

theorem ok_check_kin (T : Txt ⟨P, w, K, mg, base⟩) : Cal ⟨P, w, K, mg, base⟩ "check_kin" 3 ["one", "other"] sp_check_kin := cal_mk T.t_check_kin F_check_kin (r_check_kin T) pl_check_kin
def sp_check_both : DSp := fun ds M Q _ => match ds with
  | [r1, r2] => ∃ ws vs, r1 = rowD ws ∧ r2 = rowD vs ∧ GoodT ws ∧ GoodT vs ∧ ws.Perm vs ∧ Q .non M
  | _ => False

def d_check_both : DS :=
  (dSeq (dDrop (dCall 1 sp_check_row (dCons (dVar 0) dNil)))
    (dSeq (dDrop (dCall 1 sp_check_row (dCons (dVar 1) dNil)))
    (dDrop (dCall 2 sp_check_kin (dCons (dVar 0) (dCons (dVar 1) dNil))))))
theorem st_check_both (v0 v1 : D) : dstart N_check_both [v0, v1] = [some v0, some v1] := rfl
theorem r_check_both (T : Txt ⟨P, w, K, mg, base⟩) : DPSs ⟨P, w, K, mg, base⟩ (Sx.fn N_check_both (defScope s_check_both) 3) (defBody s_check_both) d_check_both :=
  (dpss_cons (dps_expr (dp_call (ok_check_row T) S_check_both (dpa_cons (dp_var S_check_both 0) dpa_nil)))
    (by exact (dpss_cons (dps_expr (dp_call (ok_check_row T) S_check_both (dpa_cons (dp_var S_check_both 1) dpa_nil)))
    (by exact (dpss_one (dps_expr (dp_call (ok_check_kin T) S_check_both (dpa_cons (dp_var S_check_both 0) (by exact (dpa_cons (dp_var S_check_both 1) dpa_nil))))))))))
theorem pl_check_both (ds : List D) (M : MH) (Q : DQ) (E : Er → MH → Prop) (hl : ds.length = 2) (h : sp_check_both ds M Q E) : d_check_both (ends Q) (fun er _ M => E er M) (dstart N_check_both ds) M := by
  unfold sp_check_both at h
  split at h
  case h_2 => exact h.elim
  rename_i r1 r2
  rw [st_check_both]
  obtain ⟨ws, vs, rfl, rfl, G1, G2, hp, h⟩ := h
  simp only [d_check_both, sp_check_row, sp_check_kin, dDk1, dicPO, eqOwnL, eqPairs, eqOne, dJoin, dMk, dstart, ends, dVar, dC, dOp, i2, ltO, leO, gtO, geO, subO, dTest, dAnd, dOr, dNot, asV, dAndV, dOrV, dNotV, dIf, dNil, dCons, dStar, dTup, dLst, dNew, seqD, lstD, datD, eqOp, neOp, addOp, mulOp, mulM, addM, divOp, modOp, powOp, isOp, isntOp, dNext, dSeq, dDrop, dRet, dRetN, dIfS, dBreak, dCont, dNever, dFrz, dgName, dgNil, dgCons, dgTup, dgSub, dAsg, dSet, dPar, dAugI, dSeqI, dRng1, dRng2, dEnum, dFor, dLast, dLink, dCh, dYes, dLc, dCall, dCall0, dFld, dMeth, dMeth0, dFrzO, frzO, dCB, ob1, ob2, oI, ii2, lenO, intO, sumO, intsO, blsO, strsO, reprO, absO, maxO, minO, dmO, tupO, lstO, lstMO, maxLO, minLO, anyO, allO, strIO, srtSO, srtO, srtIO, numsD_lst, numsD_tup, nats_inj, nats_len, stepD_inj, nc0, nc1, nc2, nc3, nc4, nc5, nc6, nc7, nc8, nc9, nc10, nc11, nc12, nc13, nc14, nc15, nc16, nc17, nc18, nc19, nc20, appendM, popM, extendM, insertM, indexM, indexTM, updateM, dBMT, dBMT.tupT, dinOp, dgetOp, dGet2, dsPut, dNewK, dDc, dPar3, dNeg, dkO_inj, dkO_ne, dkO_ne2, lenM_dk, keyD_int, keyD_str, dic_dk, dicA_dk, moTy_dk, moTy_lst, moTy_none, dIsi, inOp, ixOp, dSl, slOp, dRev, dBM, dBM0, refL, tyD, lenM_lst, dNoP, dPart, dCallN, dMake, dProp, eqOwn, neOwn, lenOwn, strOwn, dIsO, dMethN, dsFld, dRevT, dStrI, insD_obj, insD_ref, isC_obj, isC_ref, isC_non, isC_bl, isC_int, isC_str, isC_tup, isC_lst, ex_ins2, beq_self_eq_true, Bool.not_eq_eq_eq_not, decide_true, decide_false, okN_bl, okN_int, okN_non, exists_and_left, and_assoc, List.cons.injEq, dListRg1, dListRg2, pick, List.filterMap_cons, List.filterMap_nil, List.set_cons_zero, List.set_cons_succ, List.getElem?_cons_zero, List.getElem?_cons_succ, List.getElem?_nil, List.length_cons, List.length_nil, List.length_append, List.length_map, List.length_range, rangeD_length, enumD_length, List.cons_append, List.nil_append, forall_const, true_implies, false_implies, reduceCtorEq, Bool.not_true, Bool.not_false, and_true, true_and, decide_eq_true_eq, decide_eq_false_iff_not, MH.put_same, if_true, if_false, not_true_eq_false, not_false_eq_true, exists_eq_left, exists_eq_left', Option.some.injEq, MO.lst.injEq, MH.put_put, at_0, at_1, at_2, at_3, Int.ofNat_lt, Int.ofNat_le, ix_30, ix_31, ix_32, Nat.zero_add, Int.zero_add, Nat.reduceAdd, D.lst.injEq, lenOk, Nat.reduceLeDiff, rowD_inj, strs_inj, ints_inj, ex_ins, tyNm, ts_NoneType_bool, ts_NoneType_int, ts_NoneType_str, ts_NoneType_tuple, ts_NoneType_list, ts_bool_bool, ts_bool_int, ts_bool_str, ts_bool_tuple, ts_bool_list, ts_int_bool, ts_int_int, ts_int_str, ts_int_tuple, ts_int_list, ts_str_bool, ts_str_int, ts_str_str, ts_str_tuple, ts_str_list, ts_tuple_bool, ts_tuple_int, ts_tuple_str, ts_tuple_tuple, ts_tuple_list, ts_list_bool, ts_list_int, ts_list_str, ts_list_tuple, ts_list_list, ins_row, isC_row, row_ne, Int.natCast_inj, Int.toNat_natCast, D.int.injEq, D.str.injEq, D.bl.injEq, D.tup.injEq, D.ref.injEq, D.scr.injEq]
  exact ⟨G1, G2, hp, _, .refl, h⟩

theorem ok_check_both (T : Txt ⟨P, w, K, mg, base⟩) : Cal ⟨P, w, K, mg, base⟩ "check_both" 4 ["row", "goal"] sp_check_both := cal_mk T.t_check_both F_check_both (r_check_both T) pl_check_both
def sp_Row_things : DSp := fun ds M Q _ => match ds with
  | [r] => ∃ ws, r = rowD ws ∧ Q (.tup (ws.map .str)) M
  | _ => False

def d_Row_things : DS :=
  (dRet (dFld "Row" "line" (dVar 0)))
theorem st_Row_things (v0 : D) : dstart N_Row_things [v0] = [some v0] := rfl
theorem r_Row_things (T : Txt ⟨P, w, K, mg, base⟩) : DPSs ⟨P, w, K, mg, base⟩ (Sx.fn N_Row_things (defScope s_Row_things) 0) (defBody s_Row_things) d_Row_things :=
  (dpss_one (dps_ret (dp_fld T.h_Row.cl T.n_Row_line (dp_var S_Row_things 0))))
theorem pl_Row_things (ds : List D) (M : MH) (Q : DQ) (E : Er → MH → Prop) (hl : ds.length = 1) (h : sp_Row_things ds M Q E) : d_Row_things (ends Q) (fun er _ M => E er M) (dstart N_Row_things ds) M := by
  unfold sp_Row_things at h
  split at h
  case h_2 => exact h.elim
  rename_i r
  rw [st_Row_things]
  obtain ⟨ws, rfl, h⟩ := h
  simp only [d_Row_things, rowD, fldOf, dDk1, dicPO, eqOwnL, eqPairs, eqOne, dJoin, dMk, dstart, ends, dVar, dC, dOp, i2, ltO, leO, gtO, geO, subO, dTest, dAnd, dOr, dNot, asV, dAndV, dOrV, dNotV, dIf, dNil, dCons, dStar, dTup, dLst, dNew, seqD, lstD, datD, eqOp, neOp, addOp, mulOp, mulM, addM, divOp, modOp, powOp, isOp, isntOp, dNext, dSeq, dDrop, dRet, dRetN, dIfS, dBreak, dCont, dNever, dFrz, dgName, dgNil, dgCons, dgTup, dgSub, dAsg, dSet, dPar, dAugI, dSeqI, dRng1, dRng2, dEnum, dFor, dLast, dLink, dCh, dYes, dLc, dCall, dCall0, dFld, dMeth, dMeth0, dFrzO, frzO, dCB, ob1, ob2, oI, ii2, lenO, intO, sumO, intsO, blsO, strsO, reprO, absO, maxO, minO, dmO, tupO, lstO, lstMO, maxLO, minLO, anyO, allO, strIO, srtSO, srtO, srtIO, numsD_lst, numsD_tup, nats_inj, nats_len, stepD_inj, nc0, nc1, nc2, nc3, nc4, nc5, nc6, nc7, nc8, nc9, nc10, nc11, nc12, nc13, nc14, nc15, nc16, nc17, nc18, nc19, nc20, appendM, popM, extendM, insertM, indexM, indexTM, updateM, dBMT, dBMT.tupT, dinOp, dgetOp, dGet2, dsPut, dNewK, dDc, dPar3, dNeg, dkO_inj, dkO_ne, dkO_ne2, lenM_dk, keyD_int, keyD_str, dic_dk, dicA_dk, moTy_dk, moTy_lst, moTy_none, dIsi, inOp, ixOp, dSl, slOp, dRev, dBM, dBM0, refL, tyD, lenM_lst, dNoP, dPart, dCallN, dMake, dProp, eqOwn, neOwn, lenOwn, strOwn, dIsO, dMethN, dsFld, dRevT, dStrI, insD_obj, insD_ref, isC_obj, isC_ref, isC_non, isC_bl, isC_int, isC_str, isC_tup, isC_lst, ex_ins2, beq_self_eq_true, Bool.not_eq_eq_eq_not, decide_true, decide_false, okN_bl, okN_int, okN_non, exists_and_left, and_assoc, List.cons.injEq, dListRg1, dListRg2, pick, List.filterMap_cons, List.filterMap_nil, List.set_cons_zero, List.set_cons_succ, List.getElem?_cons_zero, List.getElem?_cons_succ, List.getElem?_nil, List.length_cons, List.length_nil, List.length_append, List.length_map, List.length_range, rangeD_length, enumD_length, List.cons_append, List.nil_append, forall_const, true_implies, false_implies, reduceCtorEq, Bool.not_true, Bool.not_false, and_true, true_and, decide_eq_true_eq, decide_eq_false_iff_not, MH.put_same, if_true, if_false, not_true_eq_false, not_false_eq_true, exists_eq_left, exists_eq_left', Option.some.injEq, MO.lst.injEq, MH.put_put, at_0, at_1, at_2, at_3, Int.ofNat_lt, Int.ofNat_le, ix_30, ix_31, ix_32, Nat.zero_add, Int.zero_add, Nat.reduceAdd, D.lst.injEq, lenOk, Nat.reduceLeDiff, rowD_inj, strs_inj, ints_inj, ex_ins, tyNm, ts_NoneType_bool, ts_NoneType_int, ts_NoneType_str, ts_NoneType_tuple, ts_NoneType_list, ts_bool_bool, ts_bool_int, ts_bool_str, ts_bool_tuple, ts_bool_list, ts_int_bool, ts_int_int, ts_int_str, ts_int_tuple, ts_int_list, ts_str_bool, ts_str_int, ts_str_str, ts_str_tuple, ts_str_list, ts_tuple_bool, ts_tuple_int, ts_tuple_str, ts_tuple_tuple, ts_tuple_list, ts_list_bool, ts_list_int, ts_list_str, ts_list_tuple, ts_list_list, ins_row, isC_row, row_ne, Int.natCast_inj, Int.toNat_natCast, D.int.injEq, D.str.injEq, D.bl.injEq, D.tup.injEq, D.ref.injEq, D.scr.injEq]
  exact ⟨M, .refl, h⟩

theorem ok_Row_things (T : Txt ⟨P, w, K, mg, base⟩) : CalP ⟨P, w, K, mg, base⟩ "Row" "things" 1 sp_Row_things := calP_mk T.t_Row_things F_Row_things (r_Row_things T) pl_Row_things
def sp_with_ends : DSp := fun ds M Q _ => match ds with
  | [d] => ∃ ns, numsD d ns ∧ ns.length ≤ 1000 ∧ Q (.lst (nats (W.padN ns))) M
  | _ => False

def d_with_ends : DS :=
  (dRet (dLst (dCons (dC (.int 0)) (dStar (dVar 0) (dCons (dOp addOp (dCB (ob1 lenO) (dCons (dVar 0) dNil)) (dC (.int 1))) dNil)))))
theorem st_with_ends (v0 : D) : dstart N_with_ends [v0] = [some v0] := rfl
theorem r_with_ends (T : Txt ⟨P, w, K, mg, base⟩) : DPSs ⟨P, w, K, mg, base⟩ (Sx.fn N_with_ends (defScope s_with_ends) 0) (defBody s_with_ends) d_with_ends :=
  (dpss_one (dps_ret (dp_lst (dpa_cons dp_int (by exact (dpa_star (dp_var S_with_ends 0) (dpa_cons (dp_bin (fun _ ft => opD_add ft) (dp_callB S_with_ends T.z_len (fun X ft => cb_len) boot_len (dpa_cons (dp_var S_with_ends 0) dpa_nil)) dp_int) dpa_nil)))))))
theorem pl_with_ends (ds : List D) (M : MH) (Q : DQ) (E : Er → MH → Prop) (hl : ds.length = 1) (h : sp_with_ends ds M Q E) : d_with_ends (ends Q) (fun er _ M => E er M) (dstart N_with_ends ds) M := by
  unfold sp_with_ends at h
  split at h
  case h_2 => exact h.elim
  rename_i d
  rw [st_with_ends]
  obtain ⟨ns, hd, hl, h⟩ := h
  have e : D.int 0 :: (nats ns ++ [D.int ((ns.length : Int) + 1)]) = nats (W.padN ns) := by simp [nats, W.padN]
  rcases hd with rfl | rfl
  all_goals
    simp only [d_with_ends, dDk1, dicPO, eqOwnL, eqPairs, eqOne, dJoin, dMk, dstart, ends, dVar, dC, dOp, i2, ltO, leO, gtO, geO, subO, dTest, dAnd, dOr, dNot, asV, dAndV, dOrV, dNotV, dIf, dNil, dCons, dStar, dTup, dLst, dNew, seqD, lstD, datD, eqOp, neOp, addOp, mulOp, mulM, addM, divOp, modOp, powOp, isOp, isntOp, dNext, dSeq, dDrop, dRet, dRetN, dIfS, dBreak, dCont, dNever, dFrz, dgName, dgNil, dgCons, dgTup, dgSub, dAsg, dSet, dPar, dAugI, dSeqI, dRng1, dRng2, dEnum, dFor, dLast, dLink, dCh, dYes, dLc, dCall, dCall0, dFld, dMeth, dMeth0, dFrzO, frzO, dCB, ob1, ob2, oI, ii2, lenO, intO, sumO, intsO, blsO, strsO, reprO, absO, maxO, minO, dmO, tupO, lstO, lstMO, maxLO, minLO, anyO, allO, strIO, srtSO, srtO, srtIO, numsD_lst, numsD_tup, nats_inj, nats_len, stepD_inj, nc0, nc1, nc2, nc3, nc4, nc5, nc6, nc7, nc8, nc9, nc10, nc11, nc12, nc13, nc14, nc15, nc16, nc17, nc18, nc19, nc20, appendM, popM, extendM, insertM, indexM, indexTM, updateM, dBMT, dBMT.tupT, dinOp, dgetOp, dGet2, dsPut, dNewK, dDc, dPar3, dNeg, dkO_inj, dkO_ne, dkO_ne2, lenM_dk, keyD_int, keyD_str, dic_dk, dicA_dk, moTy_dk, moTy_lst, moTy_none, dIsi, inOp, ixOp, dSl, slOp, dRev, dBM, dBM0, refL, tyD, lenM_lst, dNoP, dPart, dCallN, dMake, dProp, eqOwn, neOwn, lenOwn, strOwn, dIsO, dMethN, dsFld, dRevT, dStrI, insD_obj, insD_ref, isC_obj, isC_ref, isC_non, isC_bl, isC_int, isC_str, isC_tup, isC_lst, ex_ins2, beq_self_eq_true, Bool.not_eq_eq_eq_not, decide_true, decide_false, okN_bl, okN_int, okN_non, exists_and_left, and_assoc, List.cons.injEq, dListRg1, dListRg2, pick, List.filterMap_cons, List.filterMap_nil, List.set_cons_zero, List.set_cons_succ, List.getElem?_cons_zero, List.getElem?_cons_succ, List.getElem?_nil, List.length_cons, List.length_nil, List.length_append, List.length_map, List.length_range, rangeD_length, enumD_length, List.cons_append, List.nil_append, forall_const, true_implies, false_implies, reduceCtorEq, Bool.not_true, Bool.not_false, and_true, true_and, decide_eq_true_eq, decide_eq_false_iff_not, MH.put_same, if_true, if_false, not_true_eq_false, not_false_eq_true, exists_eq_left, exists_eq_left', Option.some.injEq, MO.lst.injEq, MH.put_put, at_0, at_1, at_2, at_3, Int.ofNat_lt, Int.ofNat_le, ix_30, ix_31, ix_32, Nat.zero_add, Int.zero_add, Nat.reduceAdd, D.lst.injEq, lenOk, Nat.reduceLeDiff, rowD_inj, strs_inj, ints_inj, ex_ins, tyNm, ts_NoneType_bool, ts_NoneType_int, ts_NoneType_str, ts_NoneType_tuple, ts_NoneType_list, ts_bool_bool, ts_bool_int, ts_bool_str, ts_bool_tuple, ts_bool_list, ts_int_bool, ts_int_int, ts_int_str, ts_int_tuple, ts_int_list, ts_str_bool, ts_str_int, ts_str_str, ts_str_tuple, ts_str_list, ts_tuple_bool, ts_tuple_int, ts_tuple_str, ts_tuple_tuple, ts_tuple_list, ts_list_bool, ts_list_int, ts_list_str, ts_list_tuple, ts_list_list, ins_row, isC_row, row_ne, Int.natCast_inj, Int.toNat_natCast, D.int.injEq, D.str.injEq, D.bl.injEq, D.tup.injEq, D.ref.injEq, D.scr.injEq]
    rw [e]
    exact ⟨by omega, _, .refl, h⟩

theorem ok_with_ends (T : Txt ⟨P, w, K, mg, base⟩) : Cal ⟨P, w, K, mg, base⟩ "with_ends" 1 ["numbers"] sp_with_ends := cal_mk T.t_with_ends F_with_ends (r_with_ends T) pl_with_ends
def sp_leads_of : DSp := fun ds M Q _ => match ds with
  | [d] => ∃ ns, numsD d ns ∧ ns.length ≤ 1000 ∧ W.IsP ns ∧ Q (.lst (nats ((List.range (ns.length + 1)).map (W.lead ns)))) M
  | _ => False

def d_leads_of_e2 : DE :=
  (dOp dgetOp (dVar 2) (dOp subO (dVar 4) (dC (.int 1))))
def d_leads_of : DS :=
  (dSeq (dSet 1 (dCall 1 sp_with_ends (dCons (dVar 0) dNil)))
    (dSeq (dSet 2 (dDc (dEnum (dCons (dVar 1) dNil)) (dgTup 2 (dgCons (dgName 3) (dgCons (dgName 4) dgNil))) dYes (dVar 4) (dVar 3) [3, 4]))
    (dRet (dLc (dSeqI (dSl (dVar 1) (dPart (dC (.int 1))) dNoP)) (dgName 4) dYes d_leads_of_e2 [4]))))
theorem st_leads_of (v0 : D) : dstart N_leads_of [v0] = [some v0, none, none, none, none] := rfl
theorem r_leads_of (T : Txt ⟨P, w, K, mg, base⟩) : DPSs ⟨P, w, K, mg, base⟩ (Sx.fn N_leads_of (defScope s_leads_of) 1) (defBody s_leads_of) d_leads_of :=
  (dpss_cons (dps_set L_leads_of 1 (dp_call (ok_with_ends T) S_leads_of (dpa_cons (dp_var S_leads_of 0) dpa_nil)))
    (by exact (dpss_cons (dps_setC L_leads_of 2 (dp_dc [("gap", 3), ("number", 4)] (by decide +kernel) (dpi_enum S_leads_of T.z_enumerate (dpa_cons (dp_var S_leads_of 1) dpa_nil)) (dpg_tup (n := 2) (dpgs_cons (dpg_name (stOk_of (ls := [3, 4]) (by decide +kernel)) 3) (dpgs_cons (dpg_name (stOk_of (ls := [3, 4]) (by decide +kernel)) 4) dpgs_nil))) dpts_nil (dp_var (scOk_of (vs := [3, 4]) (gs := []) (by decide +kernel)) 4) (dp_var (scOk_of (vs := [3, 4]) (gs := []) (by decide +kernel)) 3)) (fun env h => by cases env; cases h; rfl))
    (by exact (dpss_one (dps_ret (dp_lc [("number", 4)] (by decide +kernel) (dpi_seq (dp_slice (dp_var S_leads_of 1) (dpo_some dp_int) dpo_none)) (dpg_name (stOk_of (ls := [4]) (by decide +kernel)) 4) dpts_nil (dp_dget (dp_var (scOk_of (vs := [4, 2]) (gs := []) (by decide +kernel)) 2) (dp_bin (fun _ ft => opD_sub ft) (dp_var (scOk_of (vs := [4, 2]) (gs := []) (by decide +kernel)) 4) dp_int)))))))))
theorem pl_leads_of (ds : List D) (M : MH) (Q : DQ) (E : Er → MH → Prop) (hl : ds.length = 1) (h : sp_leads_of ds M Q E) : d_leads_of (ends Q) (fun er _ M => E er M) (dstart N_leads_of ds) M := by
  unfold sp_leads_of at h
  split at h
  case h_2 => exact h.elim
  rename_i d
  rw [st_leads_of]
  obtain ⟨ns, hd, hl, hP, h⟩ := h
  have hpl : (W.padN ns).length = ns.length + 2 := W.padN_len ns
  simp only [d_leads_of, sp_with_ends, dDk1, dicPO, eqOwnL, eqPairs, eqOne, dJoin, dMk, dstart, ends, dVar, dC, dOp, i2, ltO, leO, gtO, geO, subO, dTest, dAnd, dOr, dNot, asV, dAndV, dOrV, dNotV, dIf, dNil, dCons, dStar, dTup, dLst, dNew, seqD, lstD, datD, eqOp, neOp, addOp, mulOp, mulM, addM, divOp, modOp, powOp, isOp, isntOp, dNext, dSeq, dDrop, dRet, dRetN, dIfS, dBreak, dCont, dNever, dFrz, dgName, dgNil, dgCons, dgTup, dgSub, dAsg, dSet, dPar, dAugI, dSeqI, dRng1, dRng2, dEnum, dFor, dLast, dLink, dCh, dYes, dLc, dCall, dCall0, dFld, dMeth, dMeth0, dFrzO, frzO, dCB, ob1, ob2, oI, ii2, lenO, intO, sumO, intsO, blsO, strsO, reprO, absO, maxO, minO, dmO, tupO, lstO, lstMO, maxLO, minLO, anyO, allO, strIO, srtSO, srtO, srtIO, numsD_lst, numsD_tup, nats_inj, nats_len, stepD_inj, nc0, nc1, nc2, nc3, nc4, nc5, nc6, nc7, nc8, nc9, nc10, nc11, nc12, nc13, nc14, nc15, nc16, nc17, nc18, nc19, nc20, appendM, popM, extendM, insertM, indexM, indexTM, updateM, dBMT, dBMT.tupT, dinOp, dgetOp, dGet2, dsPut, dNewK, dDc, dPar3, dNeg, dkO_inj, dkO_ne, dkO_ne2, lenM_dk, keyD_int, keyD_str, dic_dk, dicA_dk, moTy_dk, moTy_lst, moTy_none, dIsi, inOp, ixOp, dSl, slOp, dRev, dBM, dBM0, refL, tyD, lenM_lst, dNoP, dPart, dCallN, dMake, dProp, eqOwn, neOwn, lenOwn, strOwn, dIsO, dMethN, dsFld, dRevT, dStrI, insD_obj, insD_ref, isC_obj, isC_ref, isC_non, isC_bl, isC_int, isC_str, isC_tup, isC_lst, ex_ins2, beq_self_eq_true, Bool.not_eq_eq_eq_not, decide_true, decide_false, okN_bl, okN_int, okN_non, exists_and_left, and_assoc, List.cons.injEq, dListRg1, dListRg2, pick, List.filterMap_cons, List.filterMap_nil, List.set_cons_zero, List.set_cons_succ, List.getElem?_cons_zero, List.getElem?_cons_succ, List.getElem?_nil, List.length_cons, List.length_nil, List.length_append, List.length_map, List.length_range, rangeD_length, enumD_length, List.cons_append, List.nil_append, forall_const, true_implies, false_implies, reduceCtorEq, Bool.not_true, Bool.not_false, and_true, true_and, decide_eq_true_eq, decide_eq_false_iff_not, MH.put_same, if_true, if_false, not_true_eq_false, not_false_eq_true, exists_eq_left, exists_eq_left', Option.some.injEq, MO.lst.injEq, MH.put_put, at_0, at_1, at_2, at_3, Int.ofNat_lt, Int.ofNat_le, ix_30, ix_31, ix_32, Nat.zero_add, Int.zero_add, Nat.reduceAdd, D.lst.injEq, lenOk, Nat.reduceLeDiff, rowD_inj, strs_inj, ints_inj, ex_ins, tyNm, ts_NoneType_bool, ts_NoneType_int, ts_NoneType_str, ts_NoneType_tuple, ts_NoneType_list, ts_bool_bool, ts_bool_int, ts_bool_str, ts_bool_tuple, ts_bool_list, ts_int_bool, ts_int_int, ts_int_str, ts_int_tuple, ts_int_list, ts_str_bool, ts_str_int, ts_str_str, ts_str_tuple, ts_str_list, ts_tuple_bool, ts_tuple_int, ts_tuple_str, ts_tuple_tuple, ts_tuple_list, ts_list_bool, ts_list_int, ts_list_str, ts_list_tuple, ts_list_list, ins_row, isC_row, row_ne, Int.natCast_inj, Int.toNat_natCast, D.int.injEq, D.str.injEq, D.bl.injEq, D.tup.injEq, D.ref.injEq, D.scr.injEq]
  refine ⟨ns, hd, hl, dc_idx (fun i => nat1 ((W.padN ns).getD i 0)) (fun i => .inl (((W.padN ns).getD i 0 : Nat) : Int)) (fun i => .int (i : Nat)) (by unfold lenOk; rw [enumD_length, nats_len]; omega) (fun _ _ => rfl) ?_ ?_⟩
  · intro p t i hi C hp hC
    have hi2 : i < (W.padN ns).length := by rw [enumD_length, nats_len] at hi; exact hi
    have ei : (enumD (nats (W.padN ns)))[i] = .wtp [.int (i : Nat), .int ((W.padN ns)[i] : Nat)] := by
      have := enumD_get (xs := nats (W.padN ns)) (i := i) (nats_get hi2)
      rw [List.getElem?_eq_getElem hi] at this
      exact Option.some.inj this
    have e2 : (W.padN ns).getD i 0 = (W.padN ns)[i] := by rw [List.getD_eq_getElem?_getD, List.getElem?_eq_getElem hi2]; rfl
    rw [ei]
    rw [e2] at hC
    simp only [wipeD, dDk1, dicPO, eqOwnL, eqPairs, eqOne, dJoin, dMk, dstart, ends, dVar, dC, dOp, i2, ltO, leO, gtO, geO, subO, dTest, dAnd, dOr, dNot, asV, dAndV, dOrV, dNotV, dIf, dNil, dCons, dStar, dTup, dLst, dNew, seqD, lstD, datD, eqOp, neOp, addOp, mulOp, mulM, addM, divOp, modOp, powOp, isOp, isntOp, dNext, dSeq, dDrop, dRet, dRetN, dIfS, dBreak, dCont, dNever, dFrz, dgName, dgNil, dgCons, dgTup, dgSub, dAsg, dSet, dPar, dAugI, dSeqI, dRng1, dRng2, dEnum, dFor, dLast, dLink, dCh, dYes, dLc, dCall, dCall0, dFld, dMeth, dMeth0, dFrzO, frzO, dCB, ob1, ob2, oI, ii2, lenO, intO, sumO, intsO, blsO, strsO, reprO, absO, maxO, minO, dmO, tupO, lstO, lstMO, maxLO, minLO, anyO, allO, strIO, srtSO, srtO, srtIO, numsD_lst, numsD_tup, nats_inj, nats_len, stepD_inj, nc0, nc1, nc2, nc3, nc4, nc5, nc6, nc7, nc8, nc9, nc10, nc11, nc12, nc13, nc14, nc15, nc16, nc17, nc18, nc19, nc20, appendM, popM, extendM, insertM, indexM, indexTM, updateM, dBMT, dBMT.tupT, dinOp, dgetOp, dGet2, dsPut, dNewK, dDc, dPar3, dNeg, dkO_inj, dkO_ne, dkO_ne2, lenM_dk, keyD_int, keyD_str, dic_dk, dicA_dk, moTy_dk, moTy_lst, moTy_none, dIsi, inOp, ixOp, dSl, slOp, dRev, dBM, dBM0, refL, tyD, lenM_lst, dNoP, dPart, dCallN, dMake, dProp, eqOwn, neOwn, lenOwn, strOwn, dIsO, dMethN, dsFld, dRevT, dStrI, insD_obj, insD_ref, isC_obj, isC_ref, isC_non, isC_bl, isC_int, isC_str, isC_tup, isC_lst, ex_ins2, beq_self_eq_true, Bool.not_eq_eq_eq_not, decide_true, decide_false, okN_bl, okN_int, okN_non, exists_and_left, and_assoc, List.cons.injEq, dListRg1, dListRg2, pick, List.filterMap_cons, List.filterMap_nil, List.set_cons_zero, List.set_cons_succ, List.getElem?_cons_zero, List.getElem?_cons_succ, List.getElem?_nil, List.length_cons, List.length_nil, List.length_append, List.length_map, List.length_range, rangeD_length, enumD_length, List.cons_append, List.nil_append, forall_const, true_implies, false_implies, reduceCtorEq, Bool.not_true, Bool.not_false, and_true, true_and, decide_eq_true_eq, decide_eq_false_iff_not, MH.put_same, if_true, if_false, not_true_eq_false, not_false_eq_true, exists_eq_left, exists_eq_left', Option.some.injEq, MO.lst.injEq, MH.put_put, at_0, at_1, at_2, at_3, Int.ofNat_lt, Int.ofNat_le, ix_30, ix_31, ix_32, Nat.zero_add, Int.zero_add, Nat.reduceAdd, D.lst.injEq, lenOk, Nat.reduceLeDiff, rowD_inj, strs_inj, ints_inj, ex_ins, tyNm, ts_NoneType_bool, ts_NoneType_int, ts_NoneType_str, ts_NoneType_tuple, ts_NoneType_list, ts_bool_bool, ts_bool_int, ts_bool_str, ts_bool_tuple, ts_bool_list, ts_int_bool, ts_int_int, ts_int_str, ts_int_tuple, ts_int_list, ts_str_bool, ts_str_int, ts_str_str, ts_str_tuple, ts_str_list, ts_tuple_bool, ts_tuple_int, ts_tuple_str, ts_tuple_tuple, ts_tuple_list, ts_list_bool, ts_list_int, ts_list_str, ts_list_tuple, ts_list_list, ins_row, isC_row, row_ne, Int.natCast_inj, Int.toNat_natCast, D.int.injEq, D.str.injEq, D.bl.injEq, D.tup.injEq, D.ref.injEq, D.scr.injEq]
    exact hC
  · intro p hp
    have ep : (List.range (enumD (nats (W.padN ns))).length).foldl (fun t i => dPut t (.inl (((W.padN ns).getD i 0 : Nat) : Int)) (.int (i : Nat))) ([] : TabK) = placeT (W.padN ns) := by
      rw [enumD_length, nats_len]; rfl
    rw [ep]
    have ec : cutD (nats (W.padN ns)) (some 1) none = nats ((W.padN ns).drop 1) := by
      have := cut_end (nats (W.padN ns)) 1 (by rw [nats_len, hpl]; omega)
      rw [show ((1 : Nat) : Int) = 1 from rfl] at this
      rw [this]; simp [nats]
    rw [ec]
    refine lc_idx (fun g => nat1 (W.lead ns g)) (by unfold lenOk; rw [nats_len, List.length_drop, hpl]; omega) ?_ ?_
    · intro p2 acc i hi C hp2 hC
      have hi2 : i < ns.length + 1 := by rw [nats_len, List.length_drop, hpl] at hi; omega
      have hn2 : p ≠ p2 := fun z => by subst z; rw [MH.put_same] at hp2; cases hp2
      have hlt : i + 1 < (W.padN ns).length := by rw [hpl]; omega
      have e1 : (nats ((W.padN ns).drop 1))[i] = .int ((W.padN ns).getD (i + 1) 0 : Nat) := by
        rw [nats_elem hi]
        congr 2
        rw [List.getElem_drop, List.getD_eq_getElem?_getD, List.getElem?_eq_getElem hlt]
        simp [Nat.add_comm]
      have hpos := W.pad_pos hP (i := i + 1) (by omega) (by omega)
      have hlt2 := (W.padN_get hP (i := i + 1) (by omega)).2
      have ek : (((W.padN ns).getD (i + 1) 0 : Nat) : Int) - 1 = (((W.padN ns).getD (i + 1) 0 - 1 : Nat) : Int) := by omega
      rw [e1]
      simp only [wipeD, d_leads_of_e2, dDk1, dicPO, eqOwnL, eqPairs, eqOne, dJoin, dMk, dstart, ends, dVar, dC, dOp, i2, ltO, leO, gtO, geO, subO, dTest, dAnd, dOr, dNot, asV, dAndV, dOrV, dNotV, dIf, dNil, dCons, dStar, dTup, dLst, dNew, seqD, lstD, datD, eqOp, neOp, addOp, mulOp, mulM, addM, divOp, modOp, powOp, isOp, isntOp, dNext, dSeq, dDrop, dRet, dRetN, dIfS, dBreak, dCont, dNever, dFrz, dgName, dgNil, dgCons, dgTup, dgSub, dAsg, dSet, dPar, dAugI, dSeqI, dRng1, dRng2, dEnum, dFor, dLast, dLink, dCh, dYes, dLc, dCall, dCall0, dFld, dMeth, dMeth0, dFrzO, frzO, dCB, ob1, ob2, oI, ii2, lenO, intO, sumO, intsO, blsO, strsO, reprO, absO, maxO, minO, dmO, tupO, lstO, lstMO, maxLO, minLO, anyO, allO, strIO, srtSO, srtO, srtIO, numsD_lst, numsD_tup, nats_inj, nats_len, stepD_inj, nc0, nc1, nc2, nc3, nc4, nc5, nc6, nc7, nc8, nc9, nc10, nc11, nc12, nc13, nc14, nc15, nc16, nc17, nc18, nc19, nc20, appendM, popM, extendM, insertM, indexM, indexTM, updateM, dBMT, dBMT.tupT, dinOp, dgetOp, dGet2, dsPut, dNewK, dDc, dPar3, dNeg, dkO_inj, dkO_ne, dkO_ne2, lenM_dk, keyD_int, keyD_str, dic_dk, dicA_dk, moTy_dk, moTy_lst, moTy_none, dIsi, inOp, ixOp, dSl, slOp, dRev, dBM, dBM0, refL, tyD, lenM_lst, dNoP, dPart, dCallN, dMake, dProp, eqOwn, neOwn, lenOwn, strOwn, dIsO, dMethN, dsFld, dRevT, dStrI, insD_obj, insD_ref, isC_obj, isC_ref, isC_non, isC_bl, isC_int, isC_str, isC_tup, isC_lst, ex_ins2, beq_self_eq_true, Bool.not_eq_eq_eq_not, decide_true, decide_false, okN_bl, okN_int, okN_non, exists_and_left, and_assoc, List.cons.injEq, dListRg1, dListRg2, pick, List.filterMap_cons, List.filterMap_nil, List.set_cons_zero, List.set_cons_succ, List.getElem?_cons_zero, List.getElem?_cons_succ, List.getElem?_nil, List.length_cons, List.length_nil, List.length_append, List.length_map, List.length_range, rangeD_length, enumD_length, List.cons_append, List.nil_append, forall_const, true_implies, false_implies, reduceCtorEq, Bool.not_true, Bool.not_false, and_true, true_and, decide_eq_true_eq, decide_eq_false_iff_not, MH.put_same, if_true, if_false, not_true_eq_false, not_false_eq_true, exists_eq_left, exists_eq_left', Option.some.injEq, MO.lst.injEq, MH.put_put, at_0, at_1, at_2, at_3, Int.ofNat_lt, Int.ofNat_le, ix_30, ix_31, ix_32, Nat.zero_add, Int.zero_add, Nat.reduceAdd, D.lst.injEq, lenOk, Nat.reduceLeDiff, rowD_inj, strs_inj, ints_inj, ex_ins, tyNm, ts_NoneType_bool, ts_NoneType_int, ts_NoneType_str, ts_NoneType_tuple, ts_NoneType_list, ts_bool_bool, ts_bool_int, ts_bool_str, ts_bool_tuple, ts_bool_list, ts_int_bool, ts_int_int, ts_int_str, ts_int_tuple, ts_int_list, ts_str_bool, ts_str_int, ts_str_str, ts_str_tuple, ts_str_list, ts_tuple_bool, ts_tuple_int, ts_tuple_str, ts_tuple_tuple, ts_tuple_list, ts_list_bool, ts_list_int, ts_list_str, ts_list_tuple, ts_list_list, ins_row, isC_row, row_ne, Int.natCast_inj, Int.toNat_natCast, D.int.injEq, D.str.injEq, D.bl.injEq, D.tup.injEq, D.ref.injEq, D.scr.injEq]
      rw [dic_k (t := placeT (W.padN ns)) (by rw [MH.put_ne hn2, MH.put_same]), ek]
      refine ⟨_, rfl, _, placeT_get (W.padN_nd hP) ((W.padN_mem hP).mpr (by omega)), hC⟩
    · refine ⟨_, .put .refl hp, ?_⟩
      have e : (List.range (nats ((W.padN ns).drop 1)).length).map (fun g => nat1 (W.lead ns g)) = nats ((List.range (ns.length + 1)).map (W.lead ns)) := by
        rw [nats_len, List.length_drop, hpl]; simp [nats]
      rw [e]; exact h

theorem ok_leads_of (T : Txt ⟨P, w, K, mg, base⟩) : Cal ⟨P, w, K, mg, base⟩ "leads_of" 2 ["numbers"] sp_leads_of := cal_mk T.t_leads_of F_leads_of (r_leads_of T) pl_leads_of
def sp_ring_from : DSp := fun ds M Q _ => match ds with
  | [.lst xs, .int g0] => ∃ (N : Nat) (f : Nat → Nat) (g : Nat), xs = nats ((List.range N).map f) ∧ g0 = g ∧ W.PermN N f ∧ g < N ∧ N ≤ 10000 ∧ Q (.lst (nats (W.ring N f g))) M
  | _ => False

def d_ring_from_b1 : DS :=
  (dSeq (dDrop (dBM "list" appendM (dVar 2) (dCons (dVar 3) dNil)))
    (dSet 3 (dOp ixOp (dVar 0) (dVar 3))))
def d_ring_from_r1 : DS :=
  (dRet (dFrz (dVar 2)))
def d_ring_from : DS :=
  (dSeq (dPar 2 3 (dCons (dNew (dCons (dVar 1) dNil)) (dCons (dOp ixOp (dVar 0) (dVar 1)) dNil)))
    (dSeq (dWhile (dTest (dOp neOp (dVar 3) (dVar 1))) d_ring_from_b1)
    d_ring_from_r1))
theorem st_ring_from (v0 v1 : D) : dstart N_ring_from [v0, v1] = [some v0, some v1, none, none] := rfl
theorem r_ring_from (T : Txt ⟨P, w, K, mg, base⟩) : DPSs ⟨P, w, K, mg, base⟩ (Sx.fn N_ring_from (defScope s_ring_from) 0) (defBody s_ring_from) d_ring_from :=
  (dpss_cons (dps_par L_ring_from 2 3 (dpa_cons (dp_new (dpa_cons (dp_var S_ring_from 1) dpa_nil)) (dpa_cons (dp_ix (dp_var S_ring_from 0) (dp_var S_ring_from 1)) dpa_nil)) (hw := fun env h => by cases env; cases h; rfl))
    (by exact (dpss_cons (dps_while (dpt_cmp (fun _ ft => opD_ne ft) (dp_var S_ring_from 3) (dp_var S_ring_from 1) (by with_unfolding_all rfl)) (dpss_cons (dps_expr (dp_bm pa_list sl_list_append ty_list_append (fun _ _ => mb_append) (dp_var S_ring_from 2) (dpa_cons (dp_var S_ring_from 3) dpa_nil)))
    (by exact (dpss_one (dps_set L_ring_from 3 (dp_ix (dp_var S_ring_from 0) (dp_var S_ring_from 3)))))))
    (by exact (dpss_one (dps_ret (dp_frz (dp_var S_ring_from 2))))))))
theorem pl_ring_from (ds : List D) (M : MH) (Q : DQ) (E : Er → MH → Prop) (hl : ds.length = 2) (h : sp_ring_from ds M Q E) : d_ring_from (ends Q) (fun er _ M => E er M) (dstart N_ring_from ds) M := by
  unfold sp_ring_from at h
  split at h
  case h_2 => exact h.elim
  rename_i xs g0
  rw [st_ring_from]
  obtain ⟨N, f, g, rfl, rfl, hf, hg, hN, h⟩ := h
  obtain ⟨p1, p2, p3⟩ := W.per_ok hf hg
  have at1 : ∀ k, atI (nats ((List.range N).map f)) ((W.itr f k g : Nat) : Int) = some (.int (W.itr f (k + 1) g : Nat)) := fun k => by
    have hk : W.itr f k g < ((List.range N).map f).length := by rw [List.length_map, List.length_range]; exact hf.itr_lt hg k
    rw [nats_at hk]; simp [W.itr]
  simp only [d_ring_from, dDk1, dicPO, eqOwnL, eqPairs, eqOne, dJoin, dMk, dstart, ends, dVar, dC, dOp, i2, ltO, leO, gtO, geO, subO, dTest, dAnd, dOr, dNot, asV, dAndV, dOrV, dNotV, dIf, dNil, dCons, dStar, dTup, dLst, dNew, seqD, lstD, datD, eqOp, neOp, addOp, mulOp, mulM, addM, divOp, modOp, powOp, isOp, isntOp, dNext, dSeq, dDrop, dRet, dRetN, dIfS, dBreak, dCont, dNever, dFrz, dgName, dgNil, dgCons, dgTup, dgSub, dAsg, dSet, dPar, dAugI, dSeqI, dRng1, dRng2, dEnum, dFor, dLast, dLink, dCh, dYes, dLc, dCall, dCall0, dFld, dMeth, dMeth0, dFrzO, frzO, dCB, ob1, ob2, oI, ii2, lenO, intO, sumO, intsO, blsO, strsO, reprO, absO, maxO, minO, dmO, tupO, lstO, lstMO, maxLO, minLO, anyO, allO, strIO, srtSO, srtO, srtIO, numsD_lst, numsD_tup, nats_inj, nats_len, stepD_inj, nc0, nc1, nc2, nc3, nc4, nc5, nc6, nc7, nc8, nc9, nc10, nc11, nc12, nc13, nc14, nc15, nc16, nc17, nc18, nc19, nc20, appendM, popM, extendM, insertM, indexM, indexTM, updateM, dBMT, dBMT.tupT, dinOp, dgetOp, dGet2, dsPut, dNewK, dDc, dPar3, dNeg, dkO_inj, dkO_ne, dkO_ne2, lenM_dk, keyD_int, keyD_str, dic_dk, dicA_dk, moTy_dk, moTy_lst, moTy_none, dIsi, inOp, ixOp, dSl, slOp, dRev, dBM, dBM0, refL, tyD, lenM_lst, dNoP, dPart, dCallN, dMake, dProp, eqOwn, neOwn, lenOwn, strOwn, dIsO, dMethN, dsFld, dRevT, dStrI, insD_obj, insD_ref, isC_obj, isC_ref, isC_non, isC_bl, isC_int, isC_str, isC_tup, isC_lst, ex_ins2, beq_self_eq_true, Bool.not_eq_eq_eq_not, decide_true, decide_false, okN_bl, okN_int, okN_non, exists_and_left, and_assoc, List.cons.injEq, dListRg1, dListRg2, pick, List.filterMap_cons, List.filterMap_nil, List.set_cons_zero, List.set_cons_succ, List.getElem?_cons_zero, List.getElem?_cons_succ, List.getElem?_nil, List.length_cons, List.length_nil, List.length_append, List.length_map, List.length_range, rangeD_length, enumD_length, List.cons_append, List.nil_append, forall_const, true_implies, false_implies, reduceCtorEq, Bool.not_true, Bool.not_false, and_true, true_and, decide_eq_true_eq, decide_eq_false_iff_not, MH.put_same, if_true, if_false, not_true_eq_false, not_false_eq_true, exists_eq_left, exists_eq_left', Option.some.injEq, MO.lst.injEq, MH.put_put, at_0, at_1, at_2, at_3, Int.ofNat_lt, Int.ofNat_le, ix_30, ix_31, ix_32, Nat.zero_add, Int.zero_add, Nat.reduceAdd, D.lst.injEq, lenOk, Nat.reduceLeDiff, rowD_inj, strs_inj, ints_inj, ex_ins, tyNm, ts_NoneType_bool, ts_NoneType_int, ts_NoneType_str, ts_NoneType_tuple, ts_NoneType_list, ts_bool_bool, ts_bool_int, ts_bool_str, ts_bool_tuple, ts_bool_list, ts_int_bool, ts_int_int, ts_int_str, ts_int_tuple, ts_int_list, ts_str_bool, ts_str_int, ts_str_str, ts_str_tuple, ts_str_list, ts_tuple_bool, ts_tuple_int, ts_tuple_str, ts_tuple_tuple, ts_tuple_list, ts_list_bool, ts_list_int, ts_list_str, ts_list_tuple, ts_list_list, ins_row, isC_row, row_ne, Int.natCast_inj, Int.toNat_natCast, D.int.injEq, D.str.injEq, D.bl.injEq, D.tup.injEq, D.ref.injEq, D.scr.injEq]
  intro p hp
  have e1 := at1 0
  simp only [W.itr] at e1
  simp only [e1, dDk1, dicPO, eqOwnL, eqPairs, eqOne, dJoin, dMk, dstart, ends, dVar, dC, dOp, i2, ltO, leO, gtO, geO, subO, dTest, dAnd, dOr, dNot, asV, dAndV, dOrV, dNotV, dIf, dNil, dCons, dStar, dTup, dLst, dNew, seqD, lstD, datD, eqOp, neOp, addOp, mulOp, mulM, addM, divOp, modOp, powOp, isOp, isntOp, dNext, dSeq, dDrop, dRet, dRetN, dIfS, dBreak, dCont, dNever, dFrz, dgName, dgNil, dgCons, dgTup, dgSub, dAsg, dSet, dPar, dAugI, dSeqI, dRng1, dRng2, dEnum, dFor, dLast, dLink, dCh, dYes, dLc, dCall, dCall0, dFld, dMeth, dMeth0, dFrzO, frzO, dCB, ob1, ob2, oI, ii2, lenO, intO, sumO, intsO, blsO, strsO, reprO, absO, maxO, minO, dmO, tupO, lstO, lstMO, maxLO, minLO, anyO, allO, strIO, srtSO, srtO, srtIO, numsD_lst, numsD_tup, nats_inj, nats_len, stepD_inj, nc0, nc1, nc2, nc3, nc4, nc5, nc6, nc7, nc8, nc9, nc10, nc11, nc12, nc13, nc14, nc15, nc16, nc17, nc18, nc19, nc20, appendM, popM, extendM, insertM, indexM, indexTM, updateM, dBMT, dBMT.tupT, dinOp, dgetOp, dGet2, dsPut, dNewK, dDc, dPar3, dNeg, dkO_inj, dkO_ne, dkO_ne2, lenM_dk, keyD_int, keyD_str, dic_dk, dicA_dk, moTy_dk, moTy_lst, moTy_none, dIsi, inOp, ixOp, dSl, slOp, dRev, dBM, dBM0, refL, tyD, lenM_lst, dNoP, dPart, dCallN, dMake, dProp, eqOwn, neOwn, lenOwn, strOwn, dIsO, dMethN, dsFld, dRevT, dStrI, insD_obj, insD_ref, isC_obj, isC_ref, isC_non, isC_bl, isC_int, isC_str, isC_tup, isC_lst, ex_ins2, beq_self_eq_true, Bool.not_eq_eq_eq_not, decide_true, decide_false, okN_bl, okN_int, okN_non, exists_and_left, and_assoc, List.cons.injEq, dListRg1, dListRg2, pick, List.filterMap_cons, List.filterMap_nil, List.set_cons_zero, List.set_cons_succ, List.getElem?_cons_zero, List.getElem?_cons_succ, List.getElem?_nil, List.length_cons, List.length_nil, List.length_append, List.length_map, List.length_range, rangeD_length, enumD_length, List.cons_append, List.nil_append, forall_const, true_implies, false_implies, reduceCtorEq, Bool.not_true, Bool.not_false, and_true, true_and, decide_eq_true_eq, decide_eq_false_iff_not, MH.put_same, if_true, if_false, not_true_eq_false, not_false_eq_true, exists_eq_left, exists_eq_left', Option.some.injEq, MO.lst.injEq, MH.put_put, at_0, at_1, at_2, at_3, Int.ofNat_lt, Int.ofNat_le, ix_30, ix_31, ix_32, Nat.zero_add, Int.zero_add, Nat.reduceAdd, D.lst.injEq, lenOk, Nat.reduceLeDiff, rowD_inj, strs_inj, ints_inj, ex_ins, tyNm, ts_NoneType_bool, ts_NoneType_int, ts_NoneType_str, ts_NoneType_tuple, ts_NoneType_list, ts_bool_bool, ts_bool_int, ts_bool_str, ts_bool_tuple, ts_bool_list, ts_int_bool, ts_int_int, ts_int_str, ts_int_tuple, ts_int_list, ts_str_bool, ts_str_int, ts_str_str, ts_str_tuple, ts_str_list, ts_tuple_bool, ts_tuple_int, ts_tuple_str, ts_tuple_tuple, ts_tuple_list, ts_list_bool, ts_list_int, ts_list_str, ts_list_tuple, ts_list_list, ins_row, isC_row, row_ne, Int.natCast_inj, Int.toNat_natCast, D.int.injEq, D.str.injEq, D.bl.injEq, D.tup.injEq, D.ref.injEq, D.scr.injEq]
  refine ⟨fun m σ M' => ∃ k, 0 < k ∧ k ≤ W.per N f g ∧ m = W.per N f g - k ∧ σ = [some (.lst (nats ((List.range N).map f))), some (.int g), some (.ref p), some (.int (W.itr f k g : Nat))] ∧ M' = M.put p (.lst (nats ((List.range k).map fun j => W.itr f j g))), ⟨_, 1, by omega, W.per_pos, rfl, rfl, rfl⟩, ?_⟩
  rintro m σ M' ⟨k, k0, k1, rfl, rfl, rfl⟩
  simp only [dDk1, dicPO, eqOwnL, eqPairs, eqOne, dJoin, dMk, dstart, ends, dVar, dC, dOp, i2, ltO, leO, gtO, geO, subO, dTest, dAnd, dOr, dNot, asV, dAndV, dOrV, dNotV, dIf, dNil, dCons, dStar, dTup, dLst, dNew, seqD, lstD, datD, eqOp, neOp, addOp, mulOp, mulM, addM, divOp, modOp, powOp, isOp, isntOp, dNext, dSeq, dDrop, dRet, dRetN, dIfS, dBreak, dCont, dNever, dFrz, dgName, dgNil, dgCons, dgTup, dgSub, dAsg, dSet, dPar, dAugI, dSeqI, dRng1, dRng2, dEnum, dFor, dLast, dLink, dCh, dYes, dLc, dCall, dCall0, dFld, dMeth, dMeth0, dFrzO, frzO, dCB, ob1, ob2, oI, ii2, lenO, intO, sumO, intsO, blsO, strsO, reprO, absO, maxO, minO, dmO, tupO, lstO, lstMO, maxLO, minLO, anyO, allO, strIO, srtSO, srtO, srtIO, numsD_lst, numsD_tup, nats_inj, nats_len, stepD_inj, nc0, nc1, nc2, nc3, nc4, nc5, nc6, nc7, nc8, nc9, nc10, nc11, nc12, nc13, nc14, nc15, nc16, nc17, nc18, nc19, nc20, appendM, popM, extendM, insertM, indexM, indexTM, updateM, dBMT, dBMT.tupT, dinOp, dgetOp, dGet2, dsPut, dNewK, dDc, dPar3, dNeg, dkO_inj, dkO_ne, dkO_ne2, lenM_dk, keyD_int, keyD_str, dic_dk, dicA_dk, moTy_dk, moTy_lst, moTy_none, dIsi, inOp, ixOp, dSl, slOp, dRev, dBM, dBM0, refL, tyD, lenM_lst, dNoP, dPart, dCallN, dMake, dProp, eqOwn, neOwn, lenOwn, strOwn, dIsO, dMethN, dsFld, dRevT, dStrI, insD_obj, insD_ref, isC_obj, isC_ref, isC_non, isC_bl, isC_int, isC_str, isC_tup, isC_lst, ex_ins2, beq_self_eq_true, Bool.not_eq_eq_eq_not, decide_true, decide_false, okN_bl, okN_int, okN_non, exists_and_left, and_assoc, List.cons.injEq, dListRg1, dListRg2, pick, List.filterMap_cons, List.filterMap_nil, List.set_cons_zero, List.set_cons_succ, List.getElem?_cons_zero, List.getElem?_cons_succ, List.getElem?_nil, List.length_cons, List.length_nil, List.length_append, List.length_map, List.length_range, rangeD_length, enumD_length, List.cons_append, List.nil_append, forall_const, true_implies, false_implies, reduceCtorEq, Bool.not_true, Bool.not_false, and_true, true_and, decide_eq_true_eq, decide_eq_false_iff_not, MH.put_same, if_true, if_false, not_true_eq_false, not_false_eq_true, exists_eq_left, exists_eq_left', Option.some.injEq, MO.lst.injEq, MH.put_put, at_0, at_1, at_2, at_3, Int.ofNat_lt, Int.ofNat_le, ix_30, ix_31, ix_32, Nat.zero_add, Int.zero_add, Nat.reduceAdd, D.lst.injEq, lenOk, Nat.reduceLeDiff, rowD_inj, strs_inj, ints_inj, ex_ins, tyNm, ts_NoneType_bool, ts_NoneType_int, ts_NoneType_str, ts_NoneType_tuple, ts_NoneType_list, ts_bool_bool, ts_bool_int, ts_bool_str, ts_bool_tuple, ts_bool_list, ts_int_bool, ts_int_int, ts_int_str, ts_int_tuple, ts_int_list, ts_str_bool, ts_str_int, ts_str_str, ts_str_tuple, ts_str_list, ts_tuple_bool, ts_tuple_int, ts_tuple_str, ts_tuple_tuple, ts_tuple_list, ts_list_bool, ts_list_int, ts_list_str, ts_list_tuple, ts_list_list, ins_row, isC_row, row_ne, Int.natCast_inj, Int.toNat_natCast, D.int.injEq, D.str.injEq, D.bl.injEq, D.tup.injEq, D.ref.injEq, D.scr.injEq]
  refine ⟨fun ne => ?_, fun e => ?_⟩
  · have klt : k < W.per N f g := by
      rcases Nat.lt_or_ge k (W.per N f g) with h | h
      · exact h
      · have : k = W.per N f g := by omega
        subst this
        rw [p1] at ne; simp at ne
    simp only [d_ring_from_b1, at1, dDk1, dicPO, eqOwnL, eqPairs, eqOne, dJoin, dMk, dstart, ends, dVar, dC, dOp, i2, ltO, leO, gtO, geO, subO, dTest, dAnd, dOr, dNot, asV, dAndV, dOrV, dNotV, dIf, dNil, dCons, dStar, dTup, dLst, dNew, seqD, lstD, datD, eqOp, neOp, addOp, mulOp, mulM, addM, divOp, modOp, powOp, isOp, isntOp, dNext, dSeq, dDrop, dRet, dRetN, dIfS, dBreak, dCont, dNever, dFrz, dgName, dgNil, dgCons, dgTup, dgSub, dAsg, dSet, dPar, dAugI, dSeqI, dRng1, dRng2, dEnum, dFor, dLast, dLink, dCh, dYes, dLc, dCall, dCall0, dFld, dMeth, dMeth0, dFrzO, frzO, dCB, ob1, ob2, oI, ii2, lenO, intO, sumO, intsO, blsO, strsO, reprO, absO, maxO, minO, dmO, tupO, lstO, lstMO, maxLO, minLO, anyO, allO, strIO, srtSO, srtO, srtIO, numsD_lst, numsD_tup, nats_inj, nats_len, stepD_inj, nc0, nc1, nc2, nc3, nc4, nc5, nc6, nc7, nc8, nc9, nc10, nc11, nc12, nc13, nc14, nc15, nc16, nc17, nc18, nc19, nc20, appendM, popM, extendM, insertM, indexM, indexTM, updateM, dBMT, dBMT.tupT, dinOp, dgetOp, dGet2, dsPut, dNewK, dDc, dPar3, dNeg, dkO_inj, dkO_ne, dkO_ne2, lenM_dk, keyD_int, keyD_str, dic_dk, dicA_dk, moTy_dk, moTy_lst, moTy_none, dIsi, inOp, ixOp, dSl, slOp, dRev, dBM, dBM0, refL, tyD, lenM_lst, dNoP, dPart, dCallN, dMake, dProp, eqOwn, neOwn, lenOwn, strOwn, dIsO, dMethN, dsFld, dRevT, dStrI, insD_obj, insD_ref, isC_obj, isC_ref, isC_non, isC_bl, isC_int, isC_str, isC_tup, isC_lst, ex_ins2, beq_self_eq_true, Bool.not_eq_eq_eq_not, decide_true, decide_false, okN_bl, okN_int, okN_non, exists_and_left, and_assoc, List.cons.injEq, dListRg1, dListRg2, pick, List.filterMap_cons, List.filterMap_nil, List.set_cons_zero, List.set_cons_succ, List.getElem?_cons_zero, List.getElem?_cons_succ, List.getElem?_nil, List.length_cons, List.length_nil, List.length_append, List.length_map, List.length_range, rangeD_length, enumD_length, List.cons_append, List.nil_append, forall_const, true_implies, false_implies, reduceCtorEq, Bool.not_true, Bool.not_false, and_true, true_and, decide_eq_true_eq, decide_eq_false_iff_not, MH.put_same, if_true, if_false, not_true_eq_false, not_false_eq_true, exists_eq_left, exists_eq_left', Option.some.injEq, MO.lst.injEq, MH.put_put, at_0, at_1, at_2, at_3, Int.ofNat_lt, Int.ofNat_le, ix_30, ix_31, ix_32, Nat.zero_add, Int.zero_add, Nat.reduceAdd, D.lst.injEq, lenOk, Nat.reduceLeDiff, rowD_inj, strs_inj, ints_inj, ex_ins, tyNm, ts_NoneType_bool, ts_NoneType_int, ts_NoneType_str, ts_NoneType_tuple, ts_NoneType_list, ts_bool_bool, ts_bool_int, ts_bool_str, ts_bool_tuple, ts_bool_list, ts_int_bool, ts_int_int, ts_int_str, ts_int_tuple, ts_int_list, ts_str_bool, ts_str_int, ts_str_str, ts_str_tuple, ts_str_list, ts_tuple_bool, ts_tuple_int, ts_tuple_str, ts_tuple_tuple, ts_tuple_list, ts_list_bool, ts_list_int, ts_list_str, ts_list_tuple, ts_list_list, ins_row, isC_row, row_ne, Int.natCast_inj, Int.toNat_natCast, D.int.injEq, D.str.injEq, D.bl.injEq, D.tup.injEq, D.ref.injEq, D.scr.injEq]
    refine ⟨by omega, W.per N f g - (k + 1), by omega, k + 1, by omega, by omega, rfl, rfl, ?_⟩
    rw [List.range_succ]; simp [nats]
  · have ek : k = W.per N f g := by
      rcases Nat.lt_or_ge k (W.per N f g) with h | h
      · have e' : W.itr f k g = g := by simpa using e
        exact absurd e' (p3 k k0 h)
      · omega
    subst ek
    simp only [d_ring_from_r1, dDk1, dicPO, eqOwnL, eqPairs, eqOne, dJoin, dMk, dstart, ends, dVar, dC, dOp, i2, ltO, leO, gtO, geO, subO, dTest, dAnd, dOr, dNot, asV, dAndV, dOrV, dNotV, dIf, dNil, dCons, dStar, dTup, dLst, dNew, seqD, lstD, datD, eqOp, neOp, addOp, mulOp, mulM, addM, divOp, modOp, powOp, isOp, isntOp, dNext, dSeq, dDrop, dRet, dRetN, dIfS, dBreak, dCont, dNever, dFrz, dgName, dgNil, dgCons, dgTup, dgSub, dAsg, dSet, dPar, dAugI, dSeqI, dRng1, dRng2, dEnum, dFor, dLast, dLink, dCh, dYes, dLc, dCall, dCall0, dFld, dMeth, dMeth0, dFrzO, frzO, dCB, ob1, ob2, oI, ii2, lenO, intO, sumO, intsO, blsO, strsO, reprO, absO, maxO, minO, dmO, tupO, lstO, lstMO, maxLO, minLO, anyO, allO, strIO, srtSO, srtO, srtIO, numsD_lst, numsD_tup, nats_inj, nats_len, stepD_inj, nc0, nc1, nc2, nc3, nc4, nc5, nc6, nc7, nc8, nc9, nc10, nc11, nc12, nc13, nc14, nc15, nc16, nc17, nc18, nc19, nc20, appendM, popM, extendM, insertM, indexM, indexTM, updateM, dBMT, dBMT.tupT, dinOp, dgetOp, dGet2, dsPut, dNewK, dDc, dPar3, dNeg, dkO_inj, dkO_ne, dkO_ne2, lenM_dk, keyD_int, keyD_str, dic_dk, dicA_dk, moTy_dk, moTy_lst, moTy_none, dIsi, inOp, ixOp, dSl, slOp, dRev, dBM, dBM0, refL, tyD, lenM_lst, dNoP, dPart, dCallN, dMake, dProp, eqOwn, neOwn, lenOwn, strOwn, dIsO, dMethN, dsFld, dRevT, dStrI, insD_obj, insD_ref, isC_obj, isC_ref, isC_non, isC_bl, isC_int, isC_str, isC_tup, isC_lst, ex_ins2, beq_self_eq_true, Bool.not_eq_eq_eq_not, decide_true, decide_false, okN_bl, okN_int, okN_non, exists_and_left, and_assoc, List.cons.injEq, dListRg1, dListRg2, pick, List.filterMap_cons, List.filterMap_nil, List.set_cons_zero, List.set_cons_succ, List.getElem?_cons_zero, List.getElem?_cons_succ, List.getElem?_nil, List.length_cons, List.length_nil, List.length_append, List.length_map, List.length_range, rangeD_length, enumD_length, List.cons_append, List.nil_append, forall_const, true_implies, false_implies, reduceCtorEq, Bool.not_true, Bool.not_false, and_true, true_and, decide_eq_true_eq, decide_eq_false_iff_not, MH.put_same, if_true, if_false, not_true_eq_false, not_false_eq_true, exists_eq_left, exists_eq_left', Option.some.injEq, MO.lst.injEq, MH.put_put, at_0, at_1, at_2, at_3, Int.ofNat_lt, Int.ofNat_le, ix_30, ix_31, ix_32, Nat.zero_add, Int.zero_add, Nat.reduceAdd, D.lst.injEq, lenOk, Nat.reduceLeDiff, rowD_inj, strs_inj, ints_inj, ex_ins, tyNm, ts_NoneType_bool, ts_NoneType_int, ts_NoneType_str, ts_NoneType_tuple, ts_NoneType_list, ts_bool_bool, ts_bool_int, ts_bool_str, ts_bool_tuple, ts_bool_list, ts_int_bool, ts_int_int, ts_int_str, ts_int_tuple, ts_int_list, ts_str_bool, ts_str_int, ts_str_str, ts_str_tuple, ts_str_list, ts_tuple_bool, ts_tuple_int, ts_tuple_str, ts_tuple_tuple, ts_tuple_list, ts_list_bool, ts_list_int, ts_list_str, ts_list_tuple, ts_list_list, ins_row, isC_row, row_ne, Int.natCast_inj, Int.toNat_natCast, D.int.injEq, D.str.injEq, D.bl.injEq, D.tup.injEq, D.ref.injEq, D.scr.injEq]
    rw [MH.del_put hp]
    exact ⟨_, .refl, h⟩

theorem ok_ring_from (T : Txt ⟨P, w, K, mg, base⟩) : Cal ⟨P, w, K, mg, base⟩ "ring_from" 1 ["leads", "gap"] sp_ring_from := cal_mk T.t_ring_from F_ring_from (r_ring_from T) pl_ring_from
def sp_rings_by : DSp := fun ds M Q _ => match ds with
  | [d] => ∃ ns, numsD d ns ∧ ns.length ≤ 60 ∧ W.IsP ns ∧ Q (.lst ((ringsOf ns).map ringD)) M
  | _ => False

def d_rings_by_b1 : DS :=
  (dIfS (dTest (dOp (dinOp true) (dVar 4) (dVar 3))) (dSeq (dSet 5 (dCall 2 sp_ring_from (dCons (dVar 1) (dCons (dVar 4) dNil))))
    (dSeq (dDrop (dBM "list" appendM (dVar 2) (dCons (dVar 5) dNil)))
    (dDrop (dBM "dict" updateM (dVar 3) (dCons (dDc (dSeqI (dVar 5)) (dgName 6) dYes (dVar 6) (dC (.bl true)) [6]) dNil))))) dNext)
def d_rings_by_r1 : DS :=
  (dRet (dFrz (dVar 2)))
def d_rings_by : DS :=
  (dSeq (dPar3 1 2 3 (dCons (dCall 1 sp_leads_of (dCons (dVar 0) dNil)) (dCons (dNew dNil) (dCons dNewK dNil))))
    (dSeq (dFor (dRng1 (dCons (dCB (ob1 lenO) (dCons (dVar 1) dNil)) dNil)) (dgName 4) d_rings_by_b1)
    d_rings_by_r1))
theorem st_rings_by (v0 : D) : dstart N_rings_by [v0] = [some v0, none, none, none, none, none, none] := rfl
theorem r_rings_by (T : Txt ⟨P, w, K, mg, base⟩) : DPSs ⟨P, w, K, mg, base⟩ (Sx.fn N_rings_by (defScope s_rings_by) 2) (defBody s_rings_by) d_rings_by :=
  (dpss_cons (dps_par3 L_rings_by 1 2 3 (dpa_cons (dp_call (ok_leads_of T) S_rings_by (dpa_cons (dp_var S_rings_by 0) dpa_nil)) (dpa_cons (dp_new dpa_nil) (dpa_cons dp_newK dpa_nil))) (hw := fun env h => by cases env; cases h; rfl))
    (by exact (dpss_cons (dps_for (dpi_range1 S_rings_by T.z_range (dpa_cons (dp_callB S_rings_by T.z_len (fun X ft => cb_len) boot_len (dpa_cons (dp_var S_rings_by 1) dpa_nil)) dpa_nil)) (dpg_name L_rings_by 4) (dpss_one (dps_if (dpt_cmp (fun _ ft => opD_dnotIn ft) (dp_var S_rings_by 4) (dp_var S_rings_by 3) (by with_unfolding_all rfl)) (dpss_cons (dps_set L_rings_by 5 (dp_call (ok_ring_from T) S_rings_by (dpa_cons (dp_var S_rings_by 1) (by exact (dpa_cons (dp_var S_rings_by 4) dpa_nil)))))
    (by exact (dpss_cons (dps_expr (dp_bm pa_list sl_list_append ty_list_append (fun _ _ => mb_append) (dp_var S_rings_by 2) (dpa_cons (dp_var S_rings_by 5) dpa_nil)))
    (by exact (dpss_one (dps_expr (dp_bm pa_dict sl_dict_update ty_dict_update (fun _ _ => mb_update) (dp_var S_rings_by 3) (dpa_cons (dp_dc [("each", 6)] (by decide +kernel) (dpi_seq (dp_var S_rings_by 5)) (dpg_name (stOk_of (ls := [6]) (by decide +kernel)) 6) dpts_nil (dp_var (scOk_of (vs := [6]) (gs := []) (by decide +kernel)) 6) dp_bl) dpa_nil)))))))) dpss_nil)))
    (by exact (dpss_one (dps_ret (dp_frz (dp_var S_rings_by 2))))))))
theorem pl_rings_by (ds : List D) (M : MH) (Q : DQ) (E : Er → MH → Prop) (hl : ds.length = 1) (h : sp_rings_by ds M Q E) : d_rings_by (ends Q) (fun er _ M => E er M) (dstart N_rings_by ds) M := by
  unfold sp_rings_by at h
  split at h
  case h_2 => exact h.elim
  rename_i d
  rw [st_rings_by]
  obtain ⟨ns, hd, hl, hP, h⟩ := h
  have hf := W.permN_lead hP
  simp only [d_rings_by, sp_leads_of, dDk1, dicPO, eqOwnL, eqPairs, eqOne, dJoin, dMk, dstart, ends, dVar, dC, dOp, i2, ltO, leO, gtO, geO, subO, dTest, dAnd, dOr, dNot, asV, dAndV, dOrV, dNotV, dIf, dNil, dCons, dStar, dTup, dLst, dNew, seqD, lstD, datD, eqOp, neOp, addOp, mulOp, mulM, addM, divOp, modOp, powOp, isOp, isntOp, dNext, dSeq, dDrop, dRet, dRetN, dIfS, dBreak, dCont, dNever, dFrz, dgName, dgNil, dgCons, dgTup, dgSub, dAsg, dSet, dPar, dAugI, dSeqI, dRng1, dRng2, dEnum, dFor, dLast, dLink, dCh, dYes, dLc, dCall, dCall0, dFld, dMeth, dMeth0, dFrzO, frzO, dCB, ob1, ob2, oI, ii2, lenO, intO, sumO, intsO, blsO, strsO, reprO, absO, maxO, minO, dmO, tupO, lstO, lstMO, maxLO, minLO, anyO, allO, strIO, srtSO, srtO, srtIO, numsD_lst, numsD_tup, nats_inj, nats_len, stepD_inj, nc0, nc1, nc2, nc3, nc4, nc5, nc6, nc7, nc8, nc9, nc10, nc11, nc12, nc13, nc14, nc15, nc16, nc17, nc18, nc19, nc20, appendM, popM, extendM, insertM, indexM, indexTM, updateM, dBMT, dBMT.tupT, dinOp, dgetOp, dGet2, dsPut, dNewK, dDc, dPar3, dNeg, dkO_inj, dkO_ne, dkO_ne2, lenM_dk, keyD_int, keyD_str, dic_dk, dicA_dk, moTy_dk, moTy_lst, moTy_none, dIsi, inOp, ixOp, dSl, slOp, dRev, dBM, dBM0, refL, tyD, lenM_lst, dNoP, dPart, dCallN, dMake, dProp, eqOwn, neOwn, lenOwn, strOwn, dIsO, dMethN, dsFld, dRevT, dStrI, insD_obj, insD_ref, isC_obj, isC_ref, isC_non, isC_bl, isC_int, isC_str, isC_tup, isC_lst, ex_ins2, beq_self_eq_true, Bool.not_eq_eq_eq_not, decide_true, decide_false, okN_bl, okN_int, okN_non, exists_and_left, and_assoc, List.cons.injEq, dListRg1, dListRg2, pick, List.filterMap_cons, List.filterMap_nil, List.set_cons_zero, List.set_cons_succ, List.getElem?_cons_zero, List.getElem?_cons_succ, List.getElem?_nil, List.length_cons, List.length_nil, List.length_append, List.length_map, List.length_range, rangeD_length, enumD_length, List.cons_append, List.nil_append, forall_const, true_implies, false_implies, reduceCtorEq, Bool.not_true, Bool.not_false, and_true, true_and, decide_eq_true_eq, decide_eq_false_iff_not, MH.put_same, if_true, if_false, not_true_eq_false, not_false_eq_true, exists_eq_left, exists_eq_left', Option.some.injEq, MO.lst.injEq, MH.put_put, at_0, at_1, at_2, at_3, Int.ofNat_lt, Int.ofNat_le, ix_30, ix_31, ix_32, Nat.zero_add, Int.zero_add, Nat.reduceAdd, D.lst.injEq, lenOk, Nat.reduceLeDiff, rowD_inj, strs_inj, ints_inj, ex_ins, tyNm, ts_NoneType_bool, ts_NoneType_int, ts_NoneType_str, ts_NoneType_tuple, ts_NoneType_list, ts_bool_bool, ts_bool_int, ts_bool_str, ts_bool_tuple, ts_bool_list, ts_int_bool, ts_int_int, ts_int_str, ts_int_tuple, ts_int_list, ts_str_bool, ts_str_int, ts_str_str, ts_str_tuple, ts_str_list, ts_tuple_bool, ts_tuple_int, ts_tuple_str, ts_tuple_tuple, ts_tuple_list, ts_list_bool, ts_list_int, ts_list_str, ts_list_tuple, ts_list_list, ins_row, isC_row, row_ne, Int.natCast_inj, Int.toNat_natCast, D.int.injEq, D.str.injEq, D.bl.injEq, D.tup.injEq, D.ref.injEq, D.scr.injEq]
  refine ⟨ns, hd, by omega, hP, fun l hl0 t ht0 => ?_⟩
  obtain ⟨htl, ht1⟩ := MH.none_put.mp ht0
  repeat (refine And.intro (by first | omega | (with_reducible assumption) | decide | exact okN_tupS (by assumption)) ?_)
  refine for_range (fun k σ M' => ∃ o4 o5 o6 T, σ = [some d, some (.lst (nats ((List.range (ns.length + 1)).map (W.lead ns)))), some (.ref l), some (.ref t), o4, o5, o6] ∧ M' l = some (.lst ((W.ringsL (ns.length + 1) (W.lead ns) k).map ringD)) ∧ M' t = some (dkO T) ∧ MH.Le M M' ∧ T.length ≤ 61 * k ∧ ∀ x, keyIn T x = decide (∃ g, g < k ∧ x ∈ W.ring (ns.length + 1) (W.lead ns) g))
    ⟨_, _, _, [], rfl, by rw [MH.put_ne htl.symm, MH.put_same]; rfl, MH.put_same, .put (.put .refl hl0) ht1, by simp, fun x => by simp [keyIn, dGet]⟩ ?_ ?_
  · rintro σ M' ⟨o4, o5, o6, T, rfl, hL, hT, le, hTl, hk⟩
    simp only [d_rings_by_r1, hL, dDk1, dicPO, eqOwnL, eqPairs, eqOne, dJoin, dMk, dstart, ends, dVar, dC, dOp, i2, ltO, leO, gtO, geO, subO, dTest, dAnd, dOr, dNot, asV, dAndV, dOrV, dNotV, dIf, dNil, dCons, dStar, dTup, dLst, dNew, seqD, lstD, datD, eqOp, neOp, addOp, mulOp, mulM, addM, divOp, modOp, powOp, isOp, isntOp, dNext, dSeq, dDrop, dRet, dRetN, dIfS, dBreak, dCont, dNever, dFrz, dgName, dgNil, dgCons, dgTup, dgSub, dAsg, dSet, dPar, dAugI, dSeqI, dRng1, dRng2, dEnum, dFor, dLast, dLink, dCh, dYes, dLc, dCall, dCall0, dFld, dMeth, dMeth0, dFrzO, frzO, dCB, ob1, ob2, oI, ii2, lenO, intO, sumO, intsO, blsO, strsO, reprO, absO, maxO, minO, dmO, tupO, lstO, lstMO, maxLO, minLO, anyO, allO, strIO, srtSO, srtO, srtIO, numsD_lst, numsD_tup, nats_inj, nats_len, stepD_inj, nc0, nc1, nc2, nc3, nc4, nc5, nc6, nc7, nc8, nc9, nc10, nc11, nc12, nc13, nc14, nc15, nc16, nc17, nc18, nc19, nc20, appendM, popM, extendM, insertM, indexM, indexTM, updateM, dBMT, dBMT.tupT, dinOp, dgetOp, dGet2, dsPut, dNewK, dDc, dPar3, dNeg, dkO_inj, dkO_ne, dkO_ne2, lenM_dk, keyD_int, keyD_str, dic_dk, dicA_dk, moTy_dk, moTy_lst, moTy_none, dIsi, inOp, ixOp, dSl, slOp, dRev, dBM, dBM0, refL, tyD, lenM_lst, dNoP, dPart, dCallN, dMake, dProp, eqOwn, neOwn, lenOwn, strOwn, dIsO, dMethN, dsFld, dRevT, dStrI, insD_obj, insD_ref, isC_obj, isC_ref, isC_non, isC_bl, isC_int, isC_str, isC_tup, isC_lst, ex_ins2, beq_self_eq_true, Bool.not_eq_eq_eq_not, decide_true, decide_false, okN_bl, okN_int, okN_non, exists_and_left, and_assoc, List.cons.injEq, dListRg1, dListRg2, pick, List.filterMap_cons, List.filterMap_nil, List.set_cons_zero, List.set_cons_succ, List.getElem?_cons_zero, List.getElem?_cons_succ, List.getElem?_nil, List.length_cons, List.length_nil, List.length_append, List.length_map, List.length_range, rangeD_length, enumD_length, List.cons_append, List.nil_append, forall_const, true_implies, false_implies, reduceCtorEq, Bool.not_true, Bool.not_false, and_true, true_and, decide_eq_true_eq, decide_eq_false_iff_not, MH.put_same, if_true, if_false, not_true_eq_false, not_false_eq_true, exists_eq_left, exists_eq_left', Option.some.injEq, MO.lst.injEq, MH.put_put, at_0, at_1, at_2, at_3, Int.ofNat_lt, Int.ofNat_le, ix_30, ix_31, ix_32, Nat.zero_add, Int.zero_add, Nat.reduceAdd, D.lst.injEq, lenOk, Nat.reduceLeDiff, rowD_inj, strs_inj, ints_inj, ex_ins, tyNm, ts_NoneType_bool, ts_NoneType_int, ts_NoneType_str, ts_NoneType_tuple, ts_NoneType_list, ts_bool_bool, ts_bool_int, ts_bool_str, ts_bool_tuple, ts_bool_list, ts_int_bool, ts_int_int, ts_int_str, ts_int_tuple, ts_int_list, ts_str_bool, ts_str_int, ts_str_str, ts_str_tuple, ts_str_list, ts_tuple_bool, ts_tuple_int, ts_tuple_str, ts_tuple_tuple, ts_tuple_list, ts_list_bool, ts_list_int, ts_list_str, ts_list_tuple, ts_list_list, ins_row, isC_row, row_ne, Int.natCast_inj, Int.toNat_natCast, D.int.injEq, D.str.injEq, D.bl.injEq, D.tup.injEq, D.ref.injEq, D.scr.injEq]
    exact ⟨M, .del le hl0, h⟩
  · rintro k σ M' hk2 ⟨o4, o5, o6, T, rfl, hL, hT, le, hTl, hk⟩
    have hlen : (W.ringsL (ns.length + 1) (W.lead ns) k).length ≤ k := by
      unfold W.ringsL
      rw [List.length_map]
      have := List.length_filter_le (W.first (ns.length + 1) (W.lead ns)) (List.range k)
      rwa [List.length_range] at this
    have hr : (W.ring (ns.length + 1) (W.lead ns) k).length ≤ ns.length + 1 := by
      unfold W.ring
      rw [List.length_map, List.length_range]
      exact (W.per_ok hf hk2).2.1
    have kk : (dGet T (.inl ((k : Nat) : Int))).isSome = keyIn T k := rfl
    have fin : ∀ x, (∃ g, g < k + 1 ∧ x ∈ W.ring (ns.length + 1) (W.lead ns) g) ↔ (∃ g, g < k ∧ x ∈ W.ring (ns.length + 1) (W.lead ns) g) ∨ x ∈ W.ring (ns.length + 1) (W.lead ns) k := fun x => by
      constructor
      · rintro ⟨g, hg, hx⟩
        by_cases e : g = k
        · subst e; exact .inr hx
        · exact .inl ⟨g, by omega, hx⟩
      · rintro (⟨g, hg, hx⟩ | hx)
        · exact ⟨g, by omega, hx⟩
        · exact ⟨k, by omega, hx⟩
    simp only [d_rings_by_b1, sp_ring_from, hL, dDk1, dicPO, eqOwnL, eqPairs, eqOne, dJoin, dMk, dstart, ends, dVar, dC, dOp, i2, ltO, leO, gtO, geO, subO, dTest, dAnd, dOr, dNot, asV, dAndV, dOrV, dNotV, dIf, dNil, dCons, dStar, dTup, dLst, dNew, seqD, lstD, datD, eqOp, neOp, addOp, mulOp, mulM, addM, divOp, modOp, powOp, isOp, isntOp, dNext, dSeq, dDrop, dRet, dRetN, dIfS, dBreak, dCont, dNever, dFrz, dgName, dgNil, dgCons, dgTup, dgSub, dAsg, dSet, dPar, dAugI, dSeqI, dRng1, dRng2, dEnum, dFor, dLast, dLink, dCh, dYes, dLc, dCall, dCall0, dFld, dMeth, dMeth0, dFrzO, frzO, dCB, ob1, ob2, oI, ii2, lenO, intO, sumO, intsO, blsO, strsO, reprO, absO, maxO, minO, dmO, tupO, lstO, lstMO, maxLO, minLO, anyO, allO, strIO, srtSO, srtO, srtIO, numsD_lst, numsD_tup, nats_inj, nats_len, stepD_inj, nc0, nc1, nc2, nc3, nc4, nc5, nc6, nc7, nc8, nc9, nc10, nc11, nc12, nc13, nc14, nc15, nc16, nc17, nc18, nc19, nc20, appendM, popM, extendM, insertM, indexM, indexTM, updateM, dBMT, dBMT.tupT, dinOp, dgetOp, dGet2, dsPut, dNewK, dDc, dPar3, dNeg, dkO_inj, dkO_ne, dkO_ne2, lenM_dk, keyD_int, keyD_str, dic_dk, dicA_dk, moTy_dk, moTy_lst, moTy_none, dIsi, inOp, ixOp, dSl, slOp, dRev, dBM, dBM0, refL, tyD, lenM_lst, dNoP, dPart, dCallN, dMake, dProp, eqOwn, neOwn, lenOwn, strOwn, dIsO, dMethN, dsFld, dRevT, dStrI, insD_obj, insD_ref, isC_obj, isC_ref, isC_non, isC_bl, isC_int, isC_str, isC_tup, isC_lst, ex_ins2, beq_self_eq_true, Bool.not_eq_eq_eq_not, decide_true, decide_false, okN_bl, okN_int, okN_non, exists_and_left, and_assoc, List.cons.injEq, dListRg1, dListRg2, pick, List.filterMap_cons, List.filterMap_nil, List.set_cons_zero, List.set_cons_succ, List.getElem?_cons_zero, List.getElem?_cons_succ, List.getElem?_nil, List.length_cons, List.length_nil, List.length_append, List.length_map, List.length_range, rangeD_length, enumD_length, List.cons_append, List.nil_append, forall_const, true_implies, false_implies, reduceCtorEq, Bool.not_true, Bool.not_false, and_true, true_and, decide_eq_true_eq, decide_eq_false_iff_not, MH.put_same, if_true, if_false, not_true_eq_false, not_false_eq_true, exists_eq_left, exists_eq_left', Option.some.injEq, MO.lst.injEq, MH.put_put, at_0, at_1, at_2, at_3, Int.ofNat_lt, Int.ofNat_le, ix_30, ix_31, ix_32, Nat.zero_add, Int.zero_add, Nat.reduceAdd, D.lst.injEq, lenOk, Nat.reduceLeDiff, rowD_inj, strs_inj, ints_inj, ex_ins, tyNm, ts_NoneType_bool, ts_NoneType_int, ts_NoneType_str, ts_NoneType_tuple, ts_NoneType_list, ts_bool_bool, ts_bool_int, ts_bool_str, ts_bool_tuple, ts_bool_list, ts_int_bool, ts_int_int, ts_int_str, ts_int_tuple, ts_int_list, ts_str_bool, ts_str_int, ts_str_str, ts_str_tuple, ts_str_list, ts_tuple_bool, ts_tuple_int, ts_tuple_str, ts_tuple_tuple, ts_tuple_list, ts_list_bool, ts_list_int, ts_list_str, ts_list_tuple, ts_list_list, ins_row, isC_row, row_ne, Int.natCast_inj, Int.toNat_natCast, D.int.injEq, D.str.injEq, D.bl.injEq, D.tup.injEq, D.ref.injEq, D.scr.injEq]
    rw [dic_k hT]
    refine ⟨_, rfl, ?_, ?_⟩
    · intro hno
      rw [kk, hk] at hno
      have isF : W.first (ns.length + 1) (W.lead ns) k = true := by
        unfold W.first
        rw [decide_eq_true_eq]
        intro g hg hm
        exact (of_decide_eq_false hno) ⟨g, hg, hm⟩
      refine ⟨ns.length + 1, W.lead ns, rfl, hf, hk2, by omega, by omega, by rw [MH.put_ne htl, hT]; rfl, ?_⟩
      refine dc_idx (fun i => nat1 ((W.ring (ns.length + 1) (W.lead ns) k).getD i 0)) (fun i => .inl (((W.ring (ns.length + 1) (W.lead ns) k).getD i 0 : Nat) : Int)) (fun _ => .bl true) (by unfold lenOk; rw [nats_len]; omega) (fun _ _ => rfl) ?_ ?_
      · intro p2 t2 i hi C hp2 hC
        have hi2 : i < (W.ring (ns.length + 1) (W.lead ns) k).length := by rwa [nats_len] at hi
        have e2 : (W.ring (ns.length + 1) (W.lead ns) k).getD i 0 = (W.ring (ns.length + 1) (W.lead ns) k)[i] := by rw [List.getD_eq_getElem?_getD, List.getElem?_eq_getElem hi2]; rfl
        rw [e2] at hC
        rw [nats_elem hi]
        simp only [wipeD, dDk1, dicPO, eqOwnL, eqPairs, eqOne, dJoin, dMk, dstart, ends, dVar, dC, dOp, i2, ltO, leO, gtO, geO, subO, dTest, dAnd, dOr, dNot, asV, dAndV, dOrV, dNotV, dIf, dNil, dCons, dStar, dTup, dLst, dNew, seqD, lstD, datD, eqOp, neOp, addOp, mulOp, mulM, addM, divOp, modOp, powOp, isOp, isntOp, dNext, dSeq, dDrop, dRet, dRetN, dIfS, dBreak, dCont, dNever, dFrz, dgName, dgNil, dgCons, dgTup, dgSub, dAsg, dSet, dPar, dAugI, dSeqI, dRng1, dRng2, dEnum, dFor, dLast, dLink, dCh, dYes, dLc, dCall, dCall0, dFld, dMeth, dMeth0, dFrzO, frzO, dCB, ob1, ob2, oI, ii2, lenO, intO, sumO, intsO, blsO, strsO, reprO, absO, maxO, minO, dmO, tupO, lstO, lstMO, maxLO, minLO, anyO, allO, strIO, srtSO, srtO, srtIO, numsD_lst, numsD_tup, nats_inj, nats_len, stepD_inj, nc0, nc1, nc2, nc3, nc4, nc5, nc6, nc7, nc8, nc9, nc10, nc11, nc12, nc13, nc14, nc15, nc16, nc17, nc18, nc19, nc20, appendM, popM, extendM, insertM, indexM, indexTM, updateM, dBMT, dBMT.tupT, dinOp, dgetOp, dGet2, dsPut, dNewK, dDc, dPar3, dNeg, dkO_inj, dkO_ne, dkO_ne2, lenM_dk, keyD_int, keyD_str, dic_dk, dicA_dk, moTy_dk, moTy_lst, moTy_none, dIsi, inOp, ixOp, dSl, slOp, dRev, dBM, dBM0, refL, tyD, lenM_lst, dNoP, dPart, dCallN, dMake, dProp, eqOwn, neOwn, lenOwn, strOwn, dIsO, dMethN, dsFld, dRevT, dStrI, insD_obj, insD_ref, isC_obj, isC_ref, isC_non, isC_bl, isC_int, isC_str, isC_tup, isC_lst, ex_ins2, beq_self_eq_true, Bool.not_eq_eq_eq_not, decide_true, decide_false, okN_bl, okN_int, okN_non, exists_and_left, and_assoc, List.cons.injEq, dListRg1, dListRg2, pick, List.filterMap_cons, List.filterMap_nil, List.set_cons_zero, List.set_cons_succ, List.getElem?_cons_zero, List.getElem?_cons_succ, List.getElem?_nil, List.length_cons, List.length_nil, List.length_append, List.length_map, List.length_range, rangeD_length, enumD_length, List.cons_append, List.nil_append, forall_const, true_implies, false_implies, reduceCtorEq, Bool.not_true, Bool.not_false, and_true, true_and, decide_eq_true_eq, decide_eq_false_iff_not, MH.put_same, if_true, if_false, not_true_eq_false, not_false_eq_true, exists_eq_left, exists_eq_left', Option.some.injEq, MO.lst.injEq, MH.put_put, at_0, at_1, at_2, at_3, Int.ofNat_lt, Int.ofNat_le, ix_30, ix_31, ix_32, Nat.zero_add, Int.zero_add, Nat.reduceAdd, D.lst.injEq, lenOk, Nat.reduceLeDiff, rowD_inj, strs_inj, ints_inj, ex_ins, tyNm, ts_NoneType_bool, ts_NoneType_int, ts_NoneType_str, ts_NoneType_tuple, ts_NoneType_list, ts_bool_bool, ts_bool_int, ts_bool_str, ts_bool_tuple, ts_bool_list, ts_int_bool, ts_int_int, ts_int_str, ts_int_tuple, ts_int_list, ts_str_bool, ts_str_int, ts_str_str, ts_str_tuple, ts_str_list, ts_tuple_bool, ts_tuple_int, ts_tuple_str, ts_tuple_tuple, ts_tuple_list, ts_list_bool, ts_list_int, ts_list_str, ts_list_tuple, ts_list_list, ins_row, isC_row, row_ne, Int.natCast_inj, Int.toNat_natCast, D.int.injEq, D.str.injEq, D.bl.injEq, D.tup.injEq, D.ref.injEq, D.scr.injEq]
        exact hC
      · intro p2 hp2
        obtain ⟨hpl, hp3⟩ := MH.none_put.mp hp2
        have htp : t ≠ p2 := fun z => by rw [← z, hT] at hp3; cases hp3
        have htl2 : t ≠ l := htl
        simp only [nats_len, MH.put_ne htp, MH.put_ne htl, hT, dDk1, dicPO, eqOwnL, eqPairs, eqOne, dJoin, dMk, dstart, ends, dVar, dC, dOp, i2, ltO, leO, gtO, geO, subO, dTest, dAnd, dOr, dNot, asV, dAndV, dOrV, dNotV, dIf, dNil, dCons, dStar, dTup, dLst, dNew, seqD, lstD, datD, eqOp, neOp, addOp, mulOp, mulM, addM, divOp, modOp, powOp, isOp, isntOp, dNext, dSeq, dDrop, dRet, dRetN, dIfS, dBreak, dCont, dNever, dFrz, dgName, dgNil, dgCons, dgTup, dgSub, dAsg, dSet, dPar, dAugI, dSeqI, dRng1, dRng2, dEnum, dFor, dLast, dLink, dCh, dYes, dLc, dCall, dCall0, dFld, dMeth, dMeth0, dFrzO, frzO, dCB, ob1, ob2, oI, ii2, lenO, intO, sumO, intsO, blsO, strsO, reprO, absO, maxO, minO, dmO, tupO, lstO, lstMO, maxLO, minLO, anyO, allO, strIO, srtSO, srtO, srtIO, numsD_lst, numsD_tup, nats_inj, nats_len, stepD_inj, nc0, nc1, nc2, nc3, nc4, nc5, nc6, nc7, nc8, nc9, nc10, nc11, nc12, nc13, nc14, nc15, nc16, nc17, nc18, nc19, nc20, appendM, popM, extendM, insertM, indexM, indexTM, updateM, dBMT, dBMT.tupT, dinOp, dgetOp, dGet2, dsPut, dNewK, dDc, dPar3, dNeg, dkO_inj, dkO_ne, dkO_ne2, lenM_dk, keyD_int, keyD_str, dic_dk, dicA_dk, moTy_dk, moTy_lst, moTy_none, dIsi, inOp, ixOp, dSl, slOp, dRev, dBM, dBM0, refL, tyD, lenM_lst, dNoP, dPart, dCallN, dMake, dProp, eqOwn, neOwn, lenOwn, strOwn, dIsO, dMethN, dsFld, dRevT, dStrI, insD_obj, insD_ref, isC_obj, isC_ref, isC_non, isC_bl, isC_int, isC_str, isC_tup, isC_lst, ex_ins2, beq_self_eq_true, Bool.not_eq_eq_eq_not, decide_true, decide_false, okN_bl, okN_int, okN_non, exists_and_left, and_assoc, List.cons.injEq, dListRg1, dListRg2, pick, List.filterMap_cons, List.filterMap_nil, List.set_cons_zero, List.set_cons_succ, List.getElem?_cons_zero, List.getElem?_cons_succ, List.getElem?_nil, List.length_cons, List.length_nil, List.length_append, List.length_map, List.length_range, rangeD_length, enumD_length, List.cons_append, List.nil_append, forall_const, true_implies, false_implies, reduceCtorEq, Bool.not_true, Bool.not_false, and_true, true_and, decide_eq_true_eq, decide_eq_false_iff_not, MH.put_same, if_true, if_false, not_true_eq_false, not_false_eq_true, exists_eq_left, exists_eq_left', Option.some.injEq, MO.lst.injEq, MH.put_put, at_0, at_1, at_2, at_3, Int.ofNat_lt, Int.ofNat_le, ix_30, ix_31, ix_32, Nat.zero_add, Int.zero_add, Nat.reduceAdd, D.lst.injEq, lenOk, Nat.reduceLeDiff, rowD_inj, strs_inj, ints_inj, ex_ins, tyNm, ts_NoneType_bool, ts_NoneType_int, ts_NoneType_str, ts_NoneType_tuple, ts_NoneType_list, ts_bool_bool, ts_bool_int, ts_bool_str, ts_bool_tuple, ts_bool_list, ts_int_bool, ts_int_int, ts_int_str, ts_int_tuple, ts_int_list, ts_str_bool, ts_str_int, ts_str_str, ts_str_tuple, ts_str_list, ts_tuple_bool, ts_tuple_int, ts_tuple_str, ts_tuple_tuple, ts_tuple_list, ts_list_bool, ts_list_int, ts_list_str, ts_list_tuple, ts_list_list, ins_row, isC_row, row_ne, Int.natCast_inj, Int.toNat_natCast, D.int.injEq, D.str.injEq, D.bl.injEq, D.tup.injEq, D.ref.injEq, D.scr.injEq]
        have fl := fold_len (key := fun i => Sum.inl (((W.ring (ns.length + 1) (W.lead ns) k).getD i 0 : Nat) : Int)) (val := fun _ => .bl true) (W.ring (ns.length + 1) (W.lead ns) k).length
        have ml := mergeD_len ((List.range (W.ring (ns.length + 1) (W.lead ns) k).length).foldl (fun t i => dPut t (Sum.inl (((W.ring (ns.length + 1) (W.lead ns) k).getD i 0 : Nat) : Int)) (.bl true)) ([] : TabK)) T
        have rs := W.ringsL_succ (N := ns.length + 1) (f := W.lead ns) k
        rw [isF] at rs
        simp only [if_true] at rs
        refine ⟨htp, Nat.le_trans (Nat.add_le_add_left fl _) (by omega), ?_, ?_, Nat.le_trans ml (Nat.le_trans (Nat.add_le_add_left fl _) (by omega)), fun x => ?_⟩
        · rw [MH.put_ne htl.symm, MH.put_ne hpl.symm, MH.put_same, rs, List.map_append]; rfl
        · intro a u ha
          have h1 : a ≠ l := fun z => by rw [z, hl0] at ha; cases ha
          have h2 : a ≠ t := fun z => by rw [z, ht1] at ha; cases ha
          have h3 : a ≠ p2 := fun z => by rw [← z, le _ _ ha] at hp3; cases hp3
          rw [MH.put_ne h2, MH.put_ne h3, MH.put_ne h1]
          exact le _ _ ha
        · rw [keyIn_merge, hk, Bool.eq_iff_iff]
          simp only [Bool.or_eq_true, decide_eq_true_eq]
          exact (fin x).symm
    · intro hyes
      rw [kk, hk] at hyes
      have rs := W.ringsL_succ (N := ns.length + 1) (f := W.lead ns) k
      have inr : ∃ g, g < k ∧ k ∈ W.ring (ns.length + 1) (W.lead ns) g := of_decide_eq_true hyes
      have nF : W.first (ns.length + 1) (W.lead ns) k = false := by
        unfold W.first
        rw [decide_eq_false_iff_not]
        intro q
        obtain ⟨g, hg, hm⟩ := inr
        exact q g hg hm
      rw [nF] at rs
      simp only [Bool.false_eq_true, if_false, List.append_nil] at rs
      refine ⟨by rw [rs], T, hT, le, by omega, fun x => ?_⟩
      rw [hk, Bool.eq_iff_iff]
      simp only [decide_eq_true_eq]
      rw [fin x]
      constructor
      · exact .inl
      · rintro (q | hx)
        · exact q
        · obtain ⟨g, hg, hm⟩ := inr
          exact ⟨g, hg, (W.mem_ring hf (by omega)).mpr (((W.mem_ring hf (by omega)).mp hm).trans ((W.mem_ring hf hk2).mp hx))⟩

theorem ok_rings_by (T : Txt ⟨P, w, K, mg, base⟩) : Cal ⟨P, w, K, mg, base⟩ "rings_by" 3 ["numbers"] sp_rings_by := cal_mk T.t_rings_by F_rings_by (r_rings_by T) pl_rings_by
def sp_distance_by : DSp := fun ds M Q _ => match ds with
  | [d] => ∃ ns, numsD d ns ∧ ns.length ≤ 60 ∧ W.IsP ns ∧ Q (.int (W.far ns : Nat)) M
  | _ => False

def d_distance_by : DS :=
  (dRet (dOp divOp (dOp subO (dOp addOp (dCB (ob1 lenO) (dCons (dVar 0) dNil)) (dC (.int 1))) (dCB (ob1 lenO) (dCons (dCall 1 sp_rings_by (dCons (dVar 0) dNil)) dNil))) (dC (.int 2))))
theorem st_distance_by (v0 : D) : dstart N_distance_by [v0] = [some v0] := rfl
theorem r_distance_by (T : Txt ⟨P, w, K, mg, base⟩) : DPSs ⟨P, w, K, mg, base⟩ (Sx.fn N_distance_by (defScope s_distance_by) 3) (defBody s_distance_by) d_distance_by :=
  (dpss_one (dps_ret (dp_bin (fun _ ft => opD_div ft) (dp_bin (fun _ ft => opD_sub ft) (dp_bin (fun _ ft => opD_add ft) (dp_callB S_distance_by T.z_len (fun X ft => cb_len) boot_len (dpa_cons (dp_var S_distance_by 0) dpa_nil)) dp_int) (dp_callB S_distance_by T.z_len (fun X ft => cb_len) boot_len (dpa_cons (dp_call (ok_rings_by T) S_distance_by (dpa_cons (dp_var S_distance_by 0) dpa_nil)) dpa_nil))) dp_int)))
theorem pl_distance_by (ds : List D) (M : MH) (Q : DQ) (E : Er → MH → Prop) (hl : ds.length = 1) (h : sp_distance_by ds M Q E) : d_distance_by (ends Q) (fun er _ M => E er M) (dstart N_distance_by ds) M := by
  unfold sp_distance_by at h
  split at h
  case h_2 => exact h.elim
  rename_i d
  rw [st_distance_by]
  obtain ⟨ns, hd, hn, hP, h⟩ := h
  have hr := ringsOf_len hP
  have hle := W.nrings_le hP
  have e : ((ns.length : Int) + 1 - ((ringsOf ns).length : Nat)) / 2 = (W.far ns : Nat) := by
    rw [hr]; unfold W.far; omega
  rcases hd with rfl | rfl
  all_goals
    simp only [d_distance_by, sp_rings_by, dDk1, dicPO, eqOwnL, eqPairs, eqOne, dJoin, dMk, dstart, ends, dVar, dC, dOp, i2, ltO, leO, gtO, geO, subO, dTest, dAnd, dOr, dNot, asV, dAndV, dOrV, dNotV, dIf, dNil, dCons, dStar, dTup, dLst, dNew, seqD, lstD, datD, eqOp, neOp, addOp, mulOp, mulM, addM, divOp, modOp, powOp, isOp, isntOp, dNext, dSeq, dDrop, dRet, dRetN, dIfS, dBreak, dCont, dNever, dFrz, dgName, dgNil, dgCons, dgTup, dgSub, dAsg, dSet, dPar, dAugI, dSeqI, dRng1, dRng2, dEnum, dFor, dLast, dLink, dCh, dYes, dLc, dCall, dCall0, dFld, dMeth, dMeth0, dFrzO, frzO, dCB, ob1, ob2, oI, ii2, lenO, intO, sumO, intsO, blsO, strsO, reprO, absO, maxO, minO, dmO, tupO, lstO, lstMO, maxLO, minLO, anyO, allO, strIO, srtSO, srtO, srtIO, numsD_lst, numsD_tup, nats_inj, nats_len, stepD_inj, nc0, nc1, nc2, nc3, nc4, nc5, nc6, nc7, nc8, nc9, nc10, nc11, nc12, nc13, nc14, nc15, nc16, nc17, nc18, nc19, nc20, appendM, popM, extendM, insertM, indexM, indexTM, updateM, dBMT, dBMT.tupT, dinOp, dgetOp, dGet2, dsPut, dNewK, dDc, dPar3, dNeg, dkO_inj, dkO_ne, dkO_ne2, lenM_dk, keyD_int, keyD_str, dic_dk, dicA_dk, moTy_dk, moTy_lst, moTy_none, dIsi, inOp, ixOp, dSl, slOp, dRev, dBM, dBM0, refL, tyD, lenM_lst, dNoP, dPart, dCallN, dMake, dProp, eqOwn, neOwn, lenOwn, strOwn, dIsO, dMethN, dsFld, dRevT, dStrI, insD_obj, insD_ref, isC_obj, isC_ref, isC_non, isC_bl, isC_int, isC_str, isC_tup, isC_lst, ex_ins2, beq_self_eq_true, Bool.not_eq_eq_eq_not, decide_true, decide_false, okN_bl, okN_int, okN_non, exists_and_left, and_assoc, List.cons.injEq, dListRg1, dListRg2, pick, List.filterMap_cons, List.filterMap_nil, List.set_cons_zero, List.set_cons_succ, List.getElem?_cons_zero, List.getElem?_cons_succ, List.getElem?_nil, List.length_cons, List.length_nil, List.length_append, List.length_map, List.length_range, rangeD_length, enumD_length, List.cons_append, List.nil_append, forall_const, true_implies, false_implies, reduceCtorEq, Bool.not_true, Bool.not_false, and_true, true_and, decide_eq_true_eq, decide_eq_false_iff_not, MH.put_same, if_true, if_false, not_true_eq_false, not_false_eq_true, exists_eq_left, exists_eq_left', Option.some.injEq, MO.lst.injEq, MH.put_put, at_0, at_1, at_2, at_3, Int.ofNat_lt, Int.ofNat_le, ix_30, ix_31, ix_32, Nat.zero_add, Int.zero_add, Nat.reduceAdd, D.lst.injEq, lenOk, Nat.reduceLeDiff, rowD_inj, strs_inj, ints_inj, ex_ins, tyNm, ts_NoneType_bool, ts_NoneType_int, ts_NoneType_str, ts_NoneType_tuple, ts_NoneType_list, ts_bool_bool, ts_bool_int, ts_bool_str, ts_bool_tuple, ts_bool_list, ts_int_bool, ts_int_int, ts_int_str, ts_int_tuple, ts_int_list, ts_str_bool, ts_str_int, ts_str_str, ts_str_tuple, ts_str_list, ts_tuple_bool, ts_tuple_int, ts_tuple_str, ts_tuple_tuple, ts_tuple_list, ts_list_bool, ts_list_int, ts_list_str, ts_list_tuple, ts_list_list, ins_row, isC_row, row_ne, Int.natCast_inj, Int.toNat_natCast, D.int.injEq, D.str.injEq, D.bl.injEq, D.tup.injEq, D.ref.injEq, D.scr.injEq]
    rw [e]
    exact ⟨hn, hP, by decide, by decide, _, .refl, h⟩

theorem ok_distance_by (T : Txt ⟨P, w, K, mg, base⟩) : Cal ⟨P, w, K, mg, base⟩ "distance_by" 4 ["numbers"] sp_distance_by := cal_mk T.t_distance_by F_distance_by (r_distance_by T) pl_distance_by
def sp_numbers_of : DSp := fun ds M Q _ => match ds with
  | [.tup xs, .tup ys] => ∃ ws vs : List Str, xs = ws.map .str ∧ ys = vs.map .str ∧ (∀ w ∈ ws, w ∈ vs) ∧ ws.length ≤ 1000 ∧ Q (.lst (nats (numsOf ws vs))) M
  | _ => False

def d_numbers_of_e1 : DE :=
  (dOp addOp (dBMT indexTM (dVar 1) (dCons (dVar 2) dNil)) (dC (.int 1)))
def d_numbers_of : DS :=
  (dRet (dLc (dSeqI (dVar 0)) (dgName 2) dYes d_numbers_of_e1 [2]))
theorem st_numbers_of (v0 v1 : D) : dstart N_numbers_of [v0, v1] = [some v0, some v1, none] := rfl
theorem r_numbers_of (T : Txt ⟨P, w, K, mg, base⟩) : DPSs ⟨P, w, K, mg, base⟩ (Sx.fn N_numbers_of (defScope s_numbers_of) 0) (defBody s_numbers_of) d_numbers_of :=
  (dpss_one (dps_ret (dp_lc [("thing", 2)] (by decide +kernel) (dpi_seq (dp_var S_numbers_of 0)) (dpg_name (stOk_of (ls := [2]) (by decide +kernel)) 2) dpts_nil (dp_bin (fun _ ft => opD_add ft) (dp_bmT sl_tuple_index ty_tuple_index (fun _ _ => mb_indexT) (dp_var (scOk_of (vs := [2, 1]) (gs := []) (by decide +kernel)) 1) (dpa_cons (dp_var (scOk_of (vs := [2, 1]) (gs := []) (by decide +kernel)) 2) dpa_nil)) dp_int))))
theorem pl_numbers_of (ds : List D) (M : MH) (Q : DQ) (E : Er → MH → Prop) (hl : ds.length = 2) (h : sp_numbers_of ds M Q E) : d_numbers_of (ends Q) (fun er _ M => E er M) (dstart N_numbers_of ds) M := by
  unfold sp_numbers_of at h
  split at h
  case h_2 => exact h.elim
  rename_i xs ys
  rw [st_numbers_of]
  obtain ⟨ws, vs, rfl, rfl, hm, hl, h⟩ := h
  simp only [d_numbers_of, dDk1, dicPO, eqOwnL, eqPairs, eqOne, dJoin, dMk, dstart, ends, dVar, dC, dOp, i2, ltO, leO, gtO, geO, subO, dTest, dAnd, dOr, dNot, asV, dAndV, dOrV, dNotV, dIf, dNil, dCons, dStar, dTup, dLst, dNew, seqD, lstD, datD, eqOp, neOp, addOp, mulOp, mulM, addM, divOp, modOp, powOp, isOp, isntOp, dNext, dSeq, dDrop, dRet, dRetN, dIfS, dBreak, dCont, dNever, dFrz, dgName, dgNil, dgCons, dgTup, dgSub, dAsg, dSet, dPar, dAugI, dSeqI, dRng1, dRng2, dEnum, dFor, dLast, dLink, dCh, dYes, dLc, dCall, dCall0, dFld, dMeth, dMeth0, dFrzO, frzO, dCB, ob1, ob2, oI, ii2, lenO, intO, sumO, intsO, blsO, strsO, reprO, absO, maxO, minO, dmO, tupO, lstO, lstMO, maxLO, minLO, anyO, allO, strIO, srtSO, srtO, srtIO, numsD_lst, numsD_tup, nats_inj, nats_len, stepD_inj, nc0, nc1, nc2, nc3, nc4, nc5, nc6, nc7, nc8, nc9, nc10, nc11, nc12, nc13, nc14, nc15, nc16, nc17, nc18, nc19, nc20, appendM, popM, extendM, insertM, indexM, indexTM, updateM, dBMT, dBMT.tupT, dinOp, dgetOp, dGet2, dsPut, dNewK, dDc, dPar3, dNeg, dkO_inj, dkO_ne, dkO_ne2, lenM_dk, keyD_int, keyD_str, dic_dk, dicA_dk, moTy_dk, moTy_lst, moTy_none, dIsi, inOp, ixOp, dSl, slOp, dRev, dBM, dBM0, refL, tyD, lenM_lst, dNoP, dPart, dCallN, dMake, dProp, eqOwn, neOwn, lenOwn, strOwn, dIsO, dMethN, dsFld, dRevT, dStrI, insD_obj, insD_ref, isC_obj, isC_ref, isC_non, isC_bl, isC_int, isC_str, isC_tup, isC_lst, ex_ins2, beq_self_eq_true, Bool.not_eq_eq_eq_not, decide_true, decide_false, okN_bl, okN_int, okN_non, exists_and_left, and_assoc, List.cons.injEq, dListRg1, dListRg2, pick, List.filterMap_cons, List.filterMap_nil, List.set_cons_zero, List.set_cons_succ, List.getElem?_cons_zero, List.getElem?_cons_succ, List.getElem?_nil, List.length_cons, List.length_nil, List.length_append, List.length_map, List.length_range, rangeD_length, enumD_length, List.cons_append, List.nil_append, forall_const, true_implies, false_implies, reduceCtorEq, Bool.not_true, Bool.not_false, and_true, true_and, decide_eq_true_eq, decide_eq_false_iff_not, MH.put_same, if_true, if_false, not_true_eq_false, not_false_eq_true, exists_eq_left, exists_eq_left', Option.some.injEq, MO.lst.injEq, MH.put_put, at_0, at_1, at_2, at_3, Int.ofNat_lt, Int.ofNat_le, ix_30, ix_31, ix_32, Nat.zero_add, Int.zero_add, Nat.reduceAdd, D.lst.injEq, lenOk, Nat.reduceLeDiff, rowD_inj, strs_inj, ints_inj, ex_ins, tyNm, ts_NoneType_bool, ts_NoneType_int, ts_NoneType_str, ts_NoneType_tuple, ts_NoneType_list, ts_bool_bool, ts_bool_int, ts_bool_str, ts_bool_tuple, ts_bool_list, ts_int_bool, ts_int_int, ts_int_str, ts_int_tuple, ts_int_list, ts_str_bool, ts_str_int, ts_str_str, ts_str_tuple, ts_str_list, ts_tuple_bool, ts_tuple_int, ts_tuple_str, ts_tuple_tuple, ts_tuple_list, ts_list_bool, ts_list_int, ts_list_str, ts_list_tuple, ts_list_list, ins_row, isC_row, row_ne, Int.natCast_inj, Int.toNat_natCast, D.int.injEq, D.str.injEq, D.bl.injEq, D.tup.injEq, D.ref.injEq, D.scr.injEq]
  refine lc_idx (fun i => nat1 (vs.idxOf (ws.getD i "") + 1)) (by unfold lenOk; rw [List.length_map]; omega) ?_ ?_
  · intro p acc i hi C hp hC
    rw [List.length_map] at hi
    have e : ws.getD i "" = ws[i] := by rw [List.getD_eq_getElem?_getD, List.getElem?_eq_getElem hi]; rfl
    rw [e] at hC
    simp only [List.getElem_map, wipeD, d_numbers_of_e1, dDk1, dicPO, eqOwnL, eqPairs, eqOne, dJoin, dMk, dstart, ends, dVar, dC, dOp, i2, ltO, leO, gtO, geO, subO, dTest, dAnd, dOr, dNot, asV, dAndV, dOrV, dNotV, dIf, dNil, dCons, dStar, dTup, dLst, dNew, seqD, lstD, datD, eqOp, neOp, addOp, mulOp, mulM, addM, divOp, modOp, powOp, isOp, isntOp, dNext, dSeq, dDrop, dRet, dRetN, dIfS, dBreak, dCont, dNever, dFrz, dgName, dgNil, dgCons, dgTup, dgSub, dAsg, dSet, dPar, dAugI, dSeqI, dRng1, dRng2, dEnum, dFor, dLast, dLink, dCh, dYes, dLc, dCall, dCall0, dFld, dMeth, dMeth0, dFrzO, frzO, dCB, ob1, ob2, oI, ii2, lenO, intO, sumO, intsO, blsO, strsO, reprO, absO, maxO, minO, dmO, tupO, lstO, lstMO, maxLO, minLO, anyO, allO, strIO, srtSO, srtO, srtIO, numsD_lst, numsD_tup, nats_inj, nats_len, stepD_inj, nc0, nc1, nc2, nc3, nc4, nc5, nc6, nc7, nc8, nc9, nc10, nc11, nc12, nc13, nc14, nc15, nc16, nc17, nc18, nc19, nc20, appendM, popM, extendM, insertM, indexM, indexTM, updateM, dBMT, dBMT.tupT, dinOp, dgetOp, dGet2, dsPut, dNewK, dDc, dPar3, dNeg, dkO_inj, dkO_ne, dkO_ne2, lenM_dk, keyD_int, keyD_str, dic_dk, dicA_dk, moTy_dk, moTy_lst, moTy_none, dIsi, inOp, ixOp, dSl, slOp, dRev, dBM, dBM0, refL, tyD, lenM_lst, dNoP, dPart, dCallN, dMake, dProp, eqOwn, neOwn, lenOwn, strOwn, dIsO, dMethN, dsFld, dRevT, dStrI, insD_obj, insD_ref, isC_obj, isC_ref, isC_non, isC_bl, isC_int, isC_str, isC_tup, isC_lst, ex_ins2, beq_self_eq_true, Bool.not_eq_eq_eq_not, decide_true, decide_false, okN_bl, okN_int, okN_non, exists_and_left, and_assoc, List.cons.injEq, dListRg1, dListRg2, pick, List.filterMap_cons, List.filterMap_nil, List.set_cons_zero, List.set_cons_succ, List.getElem?_cons_zero, List.getElem?_cons_succ, List.getElem?_nil, List.length_cons, List.length_nil, List.length_append, List.length_map, List.length_range, rangeD_length, enumD_length, List.cons_append, List.nil_append, forall_const, true_implies, false_implies, reduceCtorEq, Bool.not_true, Bool.not_false, and_true, true_and, decide_eq_true_eq, decide_eq_false_iff_not, MH.put_same, if_true, if_false, not_true_eq_false, not_false_eq_true, exists_eq_left, exists_eq_left', Option.some.injEq, MO.lst.injEq, MH.put_put, at_0, at_1, at_2, at_3, Int.ofNat_lt, Int.ofNat_le, ix_30, ix_31, ix_32, Nat.zero_add, Int.zero_add, Nat.reduceAdd, D.lst.injEq, lenOk, Nat.reduceLeDiff, rowD_inj, strs_inj, ints_inj, ex_ins, tyNm, ts_NoneType_bool, ts_NoneType_int, ts_NoneType_str, ts_NoneType_tuple, ts_NoneType_list, ts_bool_bool, ts_bool_int, ts_bool_str, ts_bool_tuple, ts_bool_list, ts_int_bool, ts_int_int, ts_int_str, ts_int_tuple, ts_int_list, ts_str_bool, ts_str_int, ts_str_str, ts_str_tuple, ts_str_list, ts_tuple_bool, ts_tuple_int, ts_tuple_str, ts_tuple_tuple, ts_tuple_list, ts_list_bool, ts_list_int, ts_list_str, ts_list_tuple, ts_list_list, ins_row, isC_row, row_ne, Int.natCast_inj, Int.toNat_natCast, D.int.injEq, D.str.injEq, D.bl.injEq, D.tup.injEq, D.ref.injEq, D.scr.injEq]
    exact ⟨hm _ (List.getElem_mem hi), hC⟩
  · refine ⟨M, .refl, ?_⟩
    have e : (List.range (ws.map D.str).length).map (fun i => nat1 (vs.idxOf (ws.getD i "") + 1)) = nats (numsOf ws vs) := by
      apply List.ext_getElem
      · simp [nats, numsOf]
      · intro i h1 h2
        have hi : i < ws.length := by simpa using h1
        simp [nats, numsOf, nat1, List.getElem?_eq_getElem hi]
    rw [e]; exact h

theorem ok_numbers_of (T : Txt ⟨P, w, K, mg, base⟩) : Cal ⟨P, w, K, mg, base⟩ "numbers_of" 1 ["things", "target"] sp_numbers_of := cal_mk T.t_numbers_of F_numbers_of (r_numbers_of T) pl_numbers_of
def sp_turned_to : DSp := fun ds M Q _ => match ds with
  | [.tup xs, .str w] => ∃ ws : List Str, xs = ws.map .str ∧ w ∈ ws ∧ ws.length ≤ 60 ∧ Q (.tup ((rotW ws w).map .str)) M
  | _ => False

def d_turned_to : DS :=
  (dSeq (dSet 2 (dBMT indexTM (dVar 0) (dCons (dVar 1) dNil)))
    (dRet (dOp addOp (dSl (dVar 0) (dPart (dVar 2)) dNoP) (dSl (dVar 0) dNoP (dPart (dVar 2))))))
theorem st_turned_to (v0 v1 : D) : dstart N_turned_to [v0, v1] = [some v0, some v1, none] := rfl
theorem r_turned_to (T : Txt ⟨P, w, K, mg, base⟩) : DPSs ⟨P, w, K, mg, base⟩ (Sx.fn N_turned_to (defScope s_turned_to) 0) (defBody s_turned_to) d_turned_to :=
  (dpss_cons (dps_set L_turned_to 2 (dp_bmT sl_tuple_index ty_tuple_index (fun _ _ => mb_indexT) (dp_var S_turned_to 0) (dpa_cons (dp_var S_turned_to 1) dpa_nil)))
    (by exact (dpss_one (dps_ret (dp_bin (fun _ ft => opD_add ft) (dp_slice (dp_var S_turned_to 0) (dpo_some (dp_var S_turned_to 2)) dpo_none) (dp_slice (dp_var S_turned_to 0) dpo_none (dpo_some (dp_var S_turned_to 2))))))))
theorem pl_turned_to (ds : List D) (M : MH) (Q : DQ) (E : Er → MH → Prop) (hl : ds.length = 2) (h : sp_turned_to ds M Q E) : d_turned_to (ends Q) (fun er _ M => E er M) (dstart N_turned_to ds) M := by
  unfold sp_turned_to at h
  split at h
  case h_2 => exact h.elim
  rename_i xs w
  rw [st_turned_to]
  obtain ⟨ws, rfl, hw, hl, h⟩ := h
  have hi := List.idxOf_lt_length_of_mem hw
  have rc := rot_cut (ws := ws) (k := ws.idxOf w) (by omega)
  have l1 : (cutD (ws.map D.str) (some ((ws.idxOf w : Nat) : Int)) none).length + (cutD (ws.map D.str) none (some ((ws.idxOf w : Nat) : Int))).length = ws.length := by
    rw [← List.length_append, rc, List.length_map, rotL_len]
  simp only [d_turned_to, rc, dDk1, dicPO, eqOwnL, eqPairs, eqOne, dJoin, dMk, dstart, ends, dVar, dC, dOp, i2, ltO, leO, gtO, geO, subO, dTest, dAnd, dOr, dNot, asV, dAndV, dOrV, dNotV, dIf, dNil, dCons, dStar, dTup, dLst, dNew, seqD, lstD, datD, eqOp, neOp, addOp, mulOp, mulM, addM, divOp, modOp, powOp, isOp, isntOp, dNext, dSeq, dDrop, dRet, dRetN, dIfS, dBreak, dCont, dNever, dFrz, dgName, dgNil, dgCons, dgTup, dgSub, dAsg, dSet, dPar, dAugI, dSeqI, dRng1, dRng2, dEnum, dFor, dLast, dLink, dCh, dYes, dLc, dCall, dCall0, dFld, dMeth, dMeth0, dFrzO, frzO, dCB, ob1, ob2, oI, ii2, lenO, intO, sumO, intsO, blsO, strsO, reprO, absO, maxO, minO, dmO, tupO, lstO, lstMO, maxLO, minLO, anyO, allO, strIO, srtSO, srtO, srtIO, numsD_lst, numsD_tup, nats_inj, nats_len, stepD_inj, nc0, nc1, nc2, nc3, nc4, nc5, nc6, nc7, nc8, nc9, nc10, nc11, nc12, nc13, nc14, nc15, nc16, nc17, nc18, nc19, nc20, appendM, popM, extendM, insertM, indexM, indexTM, updateM, dBMT, dBMT.tupT, dinOp, dgetOp, dGet2, dsPut, dNewK, dDc, dPar3, dNeg, dkO_inj, dkO_ne, dkO_ne2, lenM_dk, keyD_int, keyD_str, dic_dk, dicA_dk, moTy_dk, moTy_lst, moTy_none, dIsi, inOp, ixOp, dSl, slOp, dRev, dBM, dBM0, refL, tyD, lenM_lst, dNoP, dPart, dCallN, dMake, dProp, eqOwn, neOwn, lenOwn, strOwn, dIsO, dMethN, dsFld, dRevT, dStrI, insD_obj, insD_ref, isC_obj, isC_ref, isC_non, isC_bl, isC_int, isC_str, isC_tup, isC_lst, ex_ins2, beq_self_eq_true, Bool.not_eq_eq_eq_not, decide_true, decide_false, okN_bl, okN_int, okN_non, exists_and_left, and_assoc, List.cons.injEq, dListRg1, dListRg2, pick, List.filterMap_cons, List.filterMap_nil, List.set_cons_zero, List.set_cons_succ, List.getElem?_cons_zero, List.getElem?_cons_succ, List.getElem?_nil, List.length_cons, List.length_nil, List.length_append, List.length_map, List.length_range, rangeD_length, enumD_length, List.cons_append, List.nil_append, forall_const, true_implies, false_implies, reduceCtorEq, Bool.not_true, Bool.not_false, and_true, true_and, decide_eq_true_eq, decide_eq_false_iff_not, MH.put_same, if_true, if_false, not_true_eq_false, not_false_eq_true, exists_eq_left, exists_eq_left', Option.some.injEq, MO.lst.injEq, MH.put_put, at_0, at_1, at_2, at_3, Int.ofNat_lt, Int.ofNat_le, ix_30, ix_31, ix_32, Nat.zero_add, Int.zero_add, Nat.reduceAdd, D.lst.injEq, lenOk, Nat.reduceLeDiff, rowD_inj, strs_inj, ints_inj, ex_ins, tyNm, ts_NoneType_bool, ts_NoneType_int, ts_NoneType_str, ts_NoneType_tuple, ts_NoneType_list, ts_bool_bool, ts_bool_int, ts_bool_str, ts_bool_tuple, ts_bool_list, ts_int_bool, ts_int_int, ts_int_str, ts_int_tuple, ts_int_list, ts_str_bool, ts_str_int, ts_str_str, ts_str_tuple, ts_str_list, ts_tuple_bool, ts_tuple_int, ts_tuple_str, ts_tuple_tuple, ts_tuple_list, ts_list_bool, ts_list_int, ts_list_str, ts_list_tuple, ts_list_list, ins_row, isC_row, row_ne, Int.natCast_inj, Int.toNat_natCast, D.int.injEq, D.str.injEq, D.bl.injEq, D.tup.injEq, D.ref.injEq, D.scr.injEq]
  exact ⟨hw, by omega, _, .refl, h⟩

theorem ok_turned_to (T : Txt ⟨P, w, K, mg, base⟩) : Cal ⟨P, w, K, mg, base⟩ "turned_to" 1 ["things", "head"] sp_turned_to := cal_mk T.t_turned_to F_turned_to (r_turned_to T) pl_turned_to
def sp_round_distance : DSp := fun ds M Q _ => match ds with
  | [r1, r2] => ∃ ws vs, r1 = rowD ws ∧ r2 = rowD vs ∧ GoodT ws ∧ GoodT vs ∧ ws.Perm vs ∧ Q (.int (dist (rotW ws (vs.getD 0 "")) vs : Nat)) M
  | _ => False

def d_round_distance : DS :=
  (dSeq (dDrop (dCall 2 sp_check_both (dCons (dVar 0) (dCons (dVar 1) dNil))))
    (dSeq (dSet 2 (dOp ixOp (dProp "Row" sp_Row_things (dVar 1)) (dC (.int 0))))
    (dRet (dCall 1 sp_distance_by (dCons (dCall 2 sp_numbers_of (dCons (dCall 2 sp_turned_to (dCons (dProp "Row" sp_Row_things (dVar 0)) (dCons (dVar 2) dNil))) (dCons (dProp "Row" sp_Row_things (dVar 1)) dNil))) dNil)))))
theorem st_round_distance (v0 v1 : D) : dstart N_round_distance [v0, v1] = [some v0, some v1, none] := rfl
theorem r_round_distance (T : Txt ⟨P, w, K, mg, base⟩) : DPSs ⟨P, w, K, mg, base⟩ (Sx.fn N_round_distance (defScope s_round_distance) 4) (defBody s_round_distance) d_round_distance :=
  (dpss_cons (dps_expr (dp_call (ok_check_both T) S_round_distance (dpa_cons (dp_var S_round_distance 0) (by exact (dpa_cons (dp_var S_round_distance 1) dpa_nil)))))
    (by exact (dpss_cons (dps_set L_round_distance 2 (dp_ix (dp_prop (ok_Row_things T) T.h_Row.cl (dp_var S_round_distance 1)) dp_int))
    (by exact (dpss_one (dps_ret (dp_call (ok_distance_by T) S_round_distance (dpa_cons (dp_call (ok_numbers_of T) S_round_distance (dpa_cons (dp_call (ok_turned_to T) S_round_distance (dpa_cons (dp_prop (ok_Row_things T) T.h_Row.cl (dp_var S_round_distance 0)) (by exact (dpa_cons (dp_var S_round_distance 2) dpa_nil)))) (by exact (dpa_cons (dp_prop (ok_Row_things T) T.h_Row.cl (dp_var S_round_distance 1)) dpa_nil)))) dpa_nil))))))))
theorem pl_round_distance (ds : List D) (M : MH) (Q : DQ) (E : Er → MH → Prop) (hl : ds.length = 2) (h : sp_round_distance ds M Q E) : d_round_distance (ends Q) (fun er _ M => E er M) (dstart N_round_distance ds) M := by
  unfold sp_round_distance at h
  split at h
  case h_2 => exact h.elim
  rename_i r1 r2
  rw [st_round_distance]
  obtain ⟨ws, vs, rfl, rfl, G1, G2, hp, h⟩ := h
  have few := G1.few
  have hd := at_head G2.some
  have hm := head_mem G2.some hp
  have pr : (rotW ws (vs.getD 0 "")).Perm vs := (rotL_perm _ _).trans hp
  have Gr : GoodT (rotW ws (vs.getD 0 "")) := G1.rot _
  have lr : (rotW ws (vs.getD 0 "")).length = ws.length := rotL_len _ _
  have ln := numsOf_len (ws := rotW ws (vs.getD 0 "")) (vs := vs)
  simp only [d_round_distance, sp_check_both, sp_Row_things, sp_turned_to, sp_numbers_of, sp_distance_by, hd, dDk1, dicPO, eqOwnL, eqPairs, eqOne, dJoin, dMk, dstart, ends, dVar, dC, dOp, i2, ltO, leO, gtO, geO, subO, dTest, dAnd, dOr, dNot, asV, dAndV, dOrV, dNotV, dIf, dNil, dCons, dStar, dTup, dLst, dNew, seqD, lstD, datD, eqOp, neOp, addOp, mulOp, mulM, addM, divOp, modOp, powOp, isOp, isntOp, dNext, dSeq, dDrop, dRet, dRetN, dIfS, dBreak, dCont, dNever, dFrz, dgName, dgNil, dgCons, dgTup, dgSub, dAsg, dSet, dPar, dAugI, dSeqI, dRng1, dRng2, dEnum, dFor, dLast, dLink, dCh, dYes, dLc, dCall, dCall0, dFld, dMeth, dMeth0, dFrzO, frzO, dCB, ob1, ob2, oI, ii2, lenO, intO, sumO, intsO, blsO, strsO, reprO, absO, maxO, minO, dmO, tupO, lstO, lstMO, maxLO, minLO, anyO, allO, strIO, srtSO, srtO, srtIO, numsD_lst, numsD_tup, nats_inj, nats_len, stepD_inj, nc0, nc1, nc2, nc3, nc4, nc5, nc6, nc7, nc8, nc9, nc10, nc11, nc12, nc13, nc14, nc15, nc16, nc17, nc18, nc19, nc20, appendM, popM, extendM, insertM, indexM, indexTM, updateM, dBMT, dBMT.tupT, dinOp, dgetOp, dGet2, dsPut, dNewK, dDc, dPar3, dNeg, dkO_inj, dkO_ne, dkO_ne2, lenM_dk, keyD_int, keyD_str, dic_dk, dicA_dk, moTy_dk, moTy_lst, moTy_none, dIsi, inOp, ixOp, dSl, slOp, dRev, dBM, dBM0, refL, tyD, lenM_lst, dNoP, dPart, dCallN, dMake, dProp, eqOwn, neOwn, lenOwn, strOwn, dIsO, dMethN, dsFld, dRevT, dStrI, insD_obj, insD_ref, isC_obj, isC_ref, isC_non, isC_bl, isC_int, isC_str, isC_tup, isC_lst, ex_ins2, beq_self_eq_true, Bool.not_eq_eq_eq_not, decide_true, decide_false, okN_bl, okN_int, okN_non, exists_and_left, and_assoc, List.cons.injEq, dListRg1, dListRg2, pick, List.filterMap_cons, List.filterMap_nil, List.set_cons_zero, List.set_cons_succ, List.getElem?_cons_zero, List.getElem?_cons_succ, List.getElem?_nil, List.length_cons, List.length_nil, List.length_append, List.length_map, List.length_range, rangeD_length, enumD_length, List.cons_append, List.nil_append, forall_const, true_implies, false_implies, reduceCtorEq, Bool.not_true, Bool.not_false, and_true, true_and, decide_eq_true_eq, decide_eq_false_iff_not, MH.put_same, if_true, if_false, not_true_eq_false, not_false_eq_true, exists_eq_left, exists_eq_left', Option.some.injEq, MO.lst.injEq, MH.put_put, at_0, at_1, at_2, at_3, Int.ofNat_lt, Int.ofNat_le, ix_30, ix_31, ix_32, Nat.zero_add, Int.zero_add, Nat.reduceAdd, D.lst.injEq, lenOk, Nat.reduceLeDiff, rowD_inj, strs_inj, ints_inj, ex_ins, tyNm, ts_NoneType_bool, ts_NoneType_int, ts_NoneType_str, ts_NoneType_tuple, ts_NoneType_list, ts_bool_bool, ts_bool_int, ts_bool_str, ts_bool_tuple, ts_bool_list, ts_int_bool, ts_int_int, ts_int_str, ts_int_tuple, ts_int_list, ts_str_bool, ts_str_int, ts_str_str, ts_str_tuple, ts_str_list, ts_tuple_bool, ts_tuple_int, ts_tuple_str, ts_tuple_tuple, ts_tuple_list, ts_list_bool, ts_list_int, ts_list_str, ts_list_tuple, ts_list_list, ins_row, isC_row, row_ne, Int.natCast_inj, Int.toNat_natCast, D.int.injEq, D.str.injEq, D.bl.injEq, D.tup.injEq, D.ref.injEq, D.scr.injEq]
  refine ⟨G1, G2, hp, hm, by omega, fun w hw => pr.mem_iff.mp hw, by omega, by omega, numsOf_isP Gr G2 pr, _, .refl, h⟩

theorem ok_round_distance (T : Txt ⟨P, w, K, mg, base⟩) : Cal ⟨P, w, K, mg, base⟩ "round_distance" 5 ["row", "goal"] sp_round_distance := cal_mk T.t_round_distance F_round_distance (r_round_distance T) pl_round_distance
theorem kw0_round_distance_goal_row (T : Txt ⟨P, w, K, mg, base⟩) : CalN ⟨P, w, K, mg, base⟩ "round_distance" 5 ["row", "goal"] 0 ["goal", "row"] [1, 0] sp_round_distance :=
  calN_mk T.t_round_distance (fun _ _ F => okd_mk F F_round_distance (r_round_distance T) pl_round_distance) fun _ _ _ _ _ _ us ws h1 h2 => match us, ws, h1, h2 with | [], [_, _], _, _ => rfl
def sp_numbers_for : DSp := fun ds M Q _ => match ds with
  | [r1, r2] => ∃ ws vs, r1 = rowD ws ∧ r2 = rowD vs ∧ GoodT ws ∧ GoodT vs ∧ ws.Perm vs ∧ Q (.lst (nats (numsOf ws vs))) M
  | _ => False

def d_numbers_for : DS :=
  (dSeq (dDrop (dCall 2 sp_check_both (dCons (dVar 0) (dCons (dVar 1) dNil))))
    (dRet (dCall 2 sp_numbers_of (dCons (dProp "Row" sp_Row_things (dVar 0)) (dCons (dProp "Row" sp_Row_things (dVar 1)) dNil)))))
theorem st_numbers_for (v0 v1 : D) : dstart N_numbers_for [v0, v1] = [some v0, some v1] := rfl
theorem r_numbers_for (T : Txt ⟨P, w, K, mg, base⟩) : DPSs ⟨P, w, K, mg, base⟩ (Sx.fn N_numbers_for (defScope s_numbers_for) 4) (defBody s_numbers_for) d_numbers_for :=
  (dpss_cons (dps_expr (dp_call (ok_check_both T) S_numbers_for (dpa_cons (dp_var S_numbers_for 0) (by exact (dpa_cons (dp_var S_numbers_for 1) dpa_nil)))))
    (by exact (dpss_one (dps_ret (dp_call (ok_numbers_of T) S_numbers_for (dpa_cons (dp_prop (ok_Row_things T) T.h_Row.cl (dp_var S_numbers_for 0)) (by exact (dpa_cons (dp_prop (ok_Row_things T) T.h_Row.cl (dp_var S_numbers_for 1)) dpa_nil))))))))
theorem pl_numbers_for (ds : List D) (M : MH) (Q : DQ) (E : Er → MH → Prop) (hl : ds.length = 2) (h : sp_numbers_for ds M Q E) : d_numbers_for (ends Q) (fun er _ M => E er M) (dstart N_numbers_for ds) M := by
  unfold sp_numbers_for at h
  split at h
  case h_2 => exact h.elim
  rename_i r1 r2
  rw [st_numbers_for]
  obtain ⟨ws, vs, rfl, rfl, G1, G2, hp, h⟩ := h
  have few := G1.few
  simp only [d_numbers_for, sp_check_both, sp_Row_things, sp_numbers_of, dDk1, dicPO, eqOwnL, eqPairs, eqOne, dJoin, dMk, dstart, ends, dVar, dC, dOp, i2, ltO, leO, gtO, geO, subO, dTest, dAnd, dOr, dNot, asV, dAndV, dOrV, dNotV, dIf, dNil, dCons, dStar, dTup, dLst, dNew, seqD, lstD, datD, eqOp, neOp, addOp, mulOp, mulM, addM, divOp, modOp, powOp, isOp, isntOp, dNext, dSeq, dDrop, dRet, dRetN, dIfS, dBreak, dCont, dNever, dFrz, dgName, dgNil, dgCons, dgTup, dgSub, dAsg, dSet, dPar, dAugI, dSeqI, dRng1, dRng2, dEnum, dFor, dLast, dLink, dCh, dYes, dLc, dCall, dCall0, dFld, dMeth, dMeth0, dFrzO, frzO, dCB, ob1, ob2, oI, ii2, lenO, intO, sumO, intsO, blsO, strsO, reprO, absO, maxO, minO, dmO, tupO, lstO, lstMO, maxLO, minLO, anyO, allO, strIO, srtSO, srtO, srtIO, numsD_lst, numsD_tup, nats_inj, nats_len, stepD_inj, nc0, nc1, nc2, nc3, nc4, nc5, nc6, nc7, nc8, nc9, nc10, nc11, nc12, nc13, nc14, nc15, nc16, nc17, nc18, nc19, nc20, appendM, popM, extendM, insertM, indexM, indexTM, updateM, dBMT, dBMT.tupT, dinOp, dgetOp, dGet2, dsPut, dNewK, dDc, dPar3, dNeg, dkO_inj, dkO_ne, dkO_ne2, lenM_dk, keyD_int, keyD_str, dic_dk, dicA_dk, moTy_dk, moTy_lst, moTy_none, dIsi, inOp, ixOp, dSl, slOp, dRev, dBM, dBM0, refL, tyD, lenM_lst, dNoP, dPart, dCallN, dMake, dProp, eqOwn, neOwn, lenOwn, strOwn, dIsO, dMethN, dsFld, dRevT, dStrI, insD_obj, insD_ref, isC_obj, isC_ref, isC_non, isC_bl, isC_int, isC_str, isC_tup, isC_lst, ex_ins2, beq_self_eq_true, Bool.not_eq_eq_eq_not, decide_true, decide_false, okN_bl, okN_int, okN_non, exists_and_left, and_assoc, List.cons.injEq, dListRg1, dListRg2, pick, List.filterMap_cons, List.filterMap_nil, List.set_cons_zero, List.set_cons_succ, List.getElem?_cons_zero, List.getElem?_cons_succ, List.getElem?_nil, List.length_cons, List.length_nil, List.length_append, List.length_map, List.length_range, rangeD_length, enumD_length, List.cons_append, List.nil_append, forall_const, true_implies, false_implies, reduceCtorEq, Bool.not_true, Bool.not_false, and_true, true_and, decide_eq_true_eq, decide_eq_false_iff_not, MH.put_same, if_true, if_false, not_true_eq_false, not_false_eq_true, exists_eq_left, exists_eq_left', Option.some.injEq, MO.lst.injEq, MH.put_put, at_0, at_1, at_2, at_3, Int.ofNat_lt, Int.ofNat_le, ix_30, ix_31, ix_32, Nat.zero_add, Int.zero_add, Nat.reduceAdd, D.lst.injEq, lenOk, Nat.reduceLeDiff, rowD_inj, strs_inj, ints_inj, ex_ins, tyNm, ts_NoneType_bool, ts_NoneType_int, ts_NoneType_str, ts_NoneType_tuple, ts_NoneType_list, ts_bool_bool, ts_bool_int, ts_bool_str, ts_bool_tuple, ts_bool_list, ts_int_bool, ts_int_int, ts_int_str, ts_int_tuple, ts_int_list, ts_str_bool, ts_str_int, ts_str_str, ts_str_tuple, ts_str_list, ts_tuple_bool, ts_tuple_int, ts_tuple_str, ts_tuple_tuple, ts_tuple_list, ts_list_bool, ts_list_int, ts_list_str, ts_list_tuple, ts_list_list, ins_row, isC_row, row_ne, Int.natCast_inj, Int.toNat_natCast, D.int.injEq, D.str.injEq, D.bl.injEq, D.tup.injEq, D.ref.injEq, D.scr.injEq]
  exact ⟨G1, G2, hp, fun w hw => hp.mem_iff.mp hw, by omega, _, .refl, h⟩

theorem ok_numbers_for (T : Txt ⟨P, w, K, mg, base⟩) : Cal ⟨P, w, K, mg, base⟩ "numbers_for" 5 ["row", "goal"] sp_numbers_for := cal_mk T.t_numbers_for F_numbers_for (r_numbers_for T) pl_numbers_for
def sp_distance : DSp := fun ds M Q _ => match ds with
  | [r1, r2] => ∃ ws vs, r1 = rowD ws ∧ r2 = rowD vs ∧ GoodT ws ∧ GoodT vs ∧ ws.Perm vs ∧ Q (.int (dist ws vs : Nat)) M
  | _ => False

def d_distance : DS :=
  (dRet (dCall 1 sp_distance_by (dCons (dCall 2 sp_numbers_for (dCons (dVar 0) (dCons (dVar 1) dNil))) dNil)))
theorem st_distance (v0 v1 : D) : dstart N_distance [v0, v1] = [some v0, some v1] := rfl
theorem r_distance (T : Txt ⟨P, w, K, mg, base⟩) : DPSs ⟨P, w, K, mg, base⟩ (Sx.fn N_distance (defScope s_distance) 5) (defBody s_distance) d_distance :=
  (dpss_one (dps_ret (dp_call (ok_distance_by T) S_distance (dpa_cons (dp_call (ok_numbers_for T) S_distance (dpa_cons (dp_var S_distance 0) (by exact (dpa_cons (dp_var S_distance 1) dpa_nil)))) dpa_nil))))
theorem pl_distance (ds : List D) (M : MH) (Q : DQ) (E : Er → MH → Prop) (hl : ds.length = 2) (h : sp_distance ds M Q E) : d_distance (ends Q) (fun er _ M => E er M) (dstart N_distance ds) M := by
  unfold sp_distance at h
  split at h
  case h_2 => exact h.elim
  rename_i r1 r2
  rw [st_distance]
  obtain ⟨ws, vs, rfl, rfl, G1, G2, hp, h⟩ := h
  have few := G1.few
  have hl : (numsOf ws vs).length = ws.length := by simp [numsOf]
  simp only [d_distance, sp_numbers_for, sp_distance_by, dDk1, dicPO, eqOwnL, eqPairs, eqOne, dJoin, dMk, dstart, ends, dVar, dC, dOp, i2, ltO, leO, gtO, geO, subO, dTest, dAnd, dOr, dNot, asV, dAndV, dOrV, dNotV, dIf, dNil, dCons, dStar, dTup, dLst, dNew, seqD, lstD, datD, eqOp, neOp, addOp, mulOp, mulM, addM, divOp, modOp, powOp, isOp, isntOp, dNext, dSeq, dDrop, dRet, dRetN, dIfS, dBreak, dCont, dNever, dFrz, dgName, dgNil, dgCons, dgTup, dgSub, dAsg, dSet, dPar, dAugI, dSeqI, dRng1, dRng2, dEnum, dFor, dLast, dLink, dCh, dYes, dLc, dCall, dCall0, dFld, dMeth, dMeth0, dFrzO, frzO, dCB, ob1, ob2, oI, ii2, lenO, intO, sumO, intsO, blsO, strsO, reprO, absO, maxO, minO, dmO, tupO, lstO, lstMO, maxLO, minLO, anyO, allO, strIO, srtSO, srtO, srtIO, numsD_lst, numsD_tup, nats_inj, nats_len, stepD_inj, nc0, nc1, nc2, nc3, nc4, nc5, nc6, nc7, nc8, nc9, nc10, nc11, nc12, nc13, nc14, nc15, nc16, nc17, nc18, nc19, nc20, appendM, popM, extendM, insertM, indexM, indexTM, updateM, dBMT, dBMT.tupT, dinOp, dgetOp, dGet2, dsPut, dNewK, dDc, dPar3, dNeg, dkO_inj, dkO_ne, dkO_ne2, lenM_dk, keyD_int, keyD_str, dic_dk, dicA_dk, moTy_dk, moTy_lst, moTy_none, dIsi, inOp, ixOp, dSl, slOp, dRev, dBM, dBM0, refL, tyD, lenM_lst, dNoP, dPart, dCallN, dMake, dProp, eqOwn, neOwn, lenOwn, strOwn, dIsO, dMethN, dsFld, dRevT, dStrI, insD_obj, insD_ref, isC_obj, isC_ref, isC_non, isC_bl, isC_int, isC_str, isC_tup, isC_lst, ex_ins2, beq_self_eq_true, Bool.not_eq_eq_eq_not, decide_true, decide_false, okN_bl, okN_int, okN_non, exists_and_left, and_assoc, List.cons.injEq, dListRg1, dListRg2, pick, List.filterMap_cons, List.filterMap_nil, List.set_cons_zero, List.set_cons_succ, List.getElem?_cons_zero, List.getElem?_cons_succ, List.getElem?_nil, List.length_cons, List.length_nil, List.length_append, List.length_map, List.length_range, rangeD_length, enumD_length, List.cons_append, List.nil_append, forall_const, true_implies, false_implies, reduceCtorEq, Bool.not_true, Bool.not_false, and_true, true_and, decide_eq_true_eq, decide_eq_false_iff_not, MH.put_same, if_true, if_false, not_true_eq_false, not_false_eq_true, exists_eq_left, exists_eq_left', Option.some.injEq, MO.lst.injEq, MH.put_put, at_0, at_1, at_2, at_3, Int.ofNat_lt, Int.ofNat_le, ix_30, ix_31, ix_32, Nat.zero_add, Int.zero_add, Nat.reduceAdd, D.lst.injEq, lenOk, Nat.reduceLeDiff, rowD_inj, strs_inj, ints_inj, ex_ins, tyNm, ts_NoneType_bool, ts_NoneType_int, ts_NoneType_str, ts_NoneType_tuple, ts_NoneType_list, ts_bool_bool, ts_bool_int, ts_bool_str, ts_bool_tuple, ts_bool_list, ts_int_bool, ts_int_int, ts_int_str, ts_int_tuple, ts_int_list, ts_str_bool, ts_str_int, ts_str_str, ts_str_tuple, ts_str_list, ts_tuple_bool, ts_tuple_int, ts_tuple_str, ts_tuple_tuple, ts_tuple_list, ts_list_bool, ts_list_int, ts_list_str, ts_list_tuple, ts_list_list, ins_row, isC_row, row_ne, Int.natCast_inj, Int.toNat_natCast, D.int.injEq, D.str.injEq, D.bl.injEq, D.tup.injEq, D.ref.injEq, D.scr.injEq]
  exact ⟨G1, G2, hp, by omega, numsOf_isP G1 G2 hp, _, .refl, h⟩

theorem ok_distance (T : Txt ⟨P, w, K, mg, base⟩) : Cal ⟨P, w, K, mg, base⟩ "distance" 6 ["row", "goal"] sp_distance := cal_mk T.t_distance F_distance (r_distance T) pl_distance
def sp_same_round : DSp := fun ds M Q _ => match ds with
  | [r1, r2] => ∃ ws vs, r1 = rowD ws ∧ r2 = rowD vs ∧ GoodT ws ∧ GoodT vs ∧ ws.Perm vs ∧ Q (.bl (isRot ws vs)) M
  | _ => False

def d_same_round : DS :=
  (dSeq (dDrop (dCall 2 sp_check_both (dCons (dVar 0) (dCons (dVar 1) dNil))))
    (dRet (dOp eqOp (dCall 2 sp_turned_to (dCons (dProp "Row" sp_Row_things (dVar 0)) (dCons (dOp ixOp (dProp "Row" sp_Row_things (dVar 1)) (dC (.int 0))) dNil))) (dProp "Row" sp_Row_things (dVar 1)))))
theorem st_same_round (v0 v1 : D) : dstart N_same_round [v0, v1] = [some v0, some v1] := rfl
theorem r_same_round (T : Txt ⟨P, w, K, mg, base⟩) : DPSs ⟨P, w, K, mg, base⟩ (Sx.fn N_same_round (defScope s_same_round) 4) (defBody s_same_round) d_same_round :=
  (dpss_cons (dps_expr (dp_call (ok_check_both T) S_same_round (dpa_cons (dp_var S_same_round 0) (by exact (dpa_cons (dp_var S_same_round 1) dpa_nil)))))
    (by exact (dpss_one (dps_ret (dp_cmp (fun _ ft => opD_eq ft) (dp_call (ok_turned_to T) S_same_round (dpa_cons (dp_prop (ok_Row_things T) T.h_Row.cl (dp_var S_same_round 0)) (by exact (dpa_cons (dp_ix (dp_prop (ok_Row_things T) T.h_Row.cl (dp_var S_same_round 1)) dp_int) dpa_nil)))) (dp_prop (ok_Row_things T) T.h_Row.cl (dp_var S_same_round 1)) (by with_unfolding_all rfl))))))
theorem pl_same_round (ds : List D) (M : MH) (Q : DQ) (E : Er → MH → Prop) (hl : ds.length = 2) (h : sp_same_round ds M Q E) : d_same_round (ends Q) (fun er _ M => E er M) (dstart N_same_round ds) M := by
  unfold sp_same_round at h
  split at h
  case h_2 => exact h.elim
  rename_i r1 r2
  rw [st_same_round]
  obtain ⟨ws, vs, rfl, rfl, G1, G2, hp, h⟩ := h
  have few := G1.few
  have hd := at_head G2.some
  have hm := head_mem G2.some hp
  have ok1 := okN_tupS (G1.perm (rotL_perm ws (ws.idxOf (vs.getD 0 ""))))
  have ok2 := okN_tupS G2
  simp only [d_same_round, sp_check_both, sp_Row_things, sp_turned_to, hd, dDk1, dicPO, eqOwnL, eqPairs, eqOne, dJoin, dMk, dstart, ends, dVar, dC, dOp, i2, ltO, leO, gtO, geO, subO, dTest, dAnd, dOr, dNot, asV, dAndV, dOrV, dNotV, dIf, dNil, dCons, dStar, dTup, dLst, dNew, seqD, lstD, datD, eqOp, neOp, addOp, mulOp, mulM, addM, divOp, modOp, powOp, isOp, isntOp, dNext, dSeq, dDrop, dRet, dRetN, dIfS, dBreak, dCont, dNever, dFrz, dgName, dgNil, dgCons, dgTup, dgSub, dAsg, dSet, dPar, dAugI, dSeqI, dRng1, dRng2, dEnum, dFor, dLast, dLink, dCh, dYes, dLc, dCall, dCall0, dFld, dMeth, dMeth0, dFrzO, frzO, dCB, ob1, ob2, oI, ii2, lenO, intO, sumO, intsO, blsO, strsO, reprO, absO, maxO, minO, dmO, tupO, lstO, lstMO, maxLO, minLO, anyO, allO, strIO, srtSO, srtO, srtIO, numsD_lst, numsD_tup, nats_inj, nats_len, stepD_inj, nc0, nc1, nc2, nc3, nc4, nc5, nc6, nc7, nc8, nc9, nc10, nc11, nc12, nc13, nc14, nc15, nc16, nc17, nc18, nc19, nc20, appendM, popM, extendM, insertM, indexM, indexTM, updateM, dBMT, dBMT.tupT, dinOp, dgetOp, dGet2, dsPut, dNewK, dDc, dPar3, dNeg, dkO_inj, dkO_ne, dkO_ne2, lenM_dk, keyD_int, keyD_str, dic_dk, dicA_dk, moTy_dk, moTy_lst, moTy_none, dIsi, inOp, ixOp, dSl, slOp, dRev, dBM, dBM0, refL, tyD, lenM_lst, dNoP, dPart, dCallN, dMake, dProp, eqOwn, neOwn, lenOwn, strOwn, dIsO, dMethN, dsFld, dRevT, dStrI, insD_obj, insD_ref, isC_obj, isC_ref, isC_non, isC_bl, isC_int, isC_str, isC_tup, isC_lst, ex_ins2, beq_self_eq_true, Bool.not_eq_eq_eq_not, decide_true, decide_false, okN_bl, okN_int, okN_non, exists_and_left, and_assoc, List.cons.injEq, dListRg1, dListRg2, pick, List.filterMap_cons, List.filterMap_nil, List.set_cons_zero, List.set_cons_succ, List.getElem?_cons_zero, List.getElem?_cons_succ, List.getElem?_nil, List.length_cons, List.length_nil, List.length_append, List.length_map, List.length_range, rangeD_length, enumD_length, List.cons_append, List.nil_append, forall_const, true_implies, false_implies, reduceCtorEq, Bool.not_true, Bool.not_false, and_true, true_and, decide_eq_true_eq, decide_eq_false_iff_not, MH.put_same, if_true, if_false, not_true_eq_false, not_false_eq_true, exists_eq_left, exists_eq_left', Option.some.injEq, MO.lst.injEq, MH.put_put, at_0, at_1, at_2, at_3, Int.ofNat_lt, Int.ofNat_le, ix_30, ix_31, ix_32, Nat.zero_add, Int.zero_add, Nat.reduceAdd, D.lst.injEq, lenOk, Nat.reduceLeDiff, rowD_inj, strs_inj, ints_inj, ex_ins, tyNm, ts_NoneType_bool, ts_NoneType_int, ts_NoneType_str, ts_NoneType_tuple, ts_NoneType_list, ts_bool_bool, ts_bool_int, ts_bool_str, ts_bool_tuple, ts_bool_list, ts_int_bool, ts_int_int, ts_int_str, ts_int_tuple, ts_int_list, ts_str_bool, ts_str_int, ts_str_str, ts_str_tuple, ts_str_list, ts_tuple_bool, ts_tuple_int, ts_tuple_str, ts_tuple_tuple, ts_tuple_list, ts_list_bool, ts_list_int, ts_list_str, ts_list_tuple, ts_list_list, ins_row, isC_row, row_ne, Int.natCast_inj, Int.toNat_natCast, D.int.injEq, D.str.injEq, D.bl.injEq, D.tup.injEq, D.ref.injEq, D.scr.injEq]
  refine ⟨G1, G2, hp, hm, by omega, ok1, ok2, _, .refl, ?_⟩
  rw [eqD, eqDL_strs]
  exact h

theorem ok_same_round (T : Txt ⟨P, w, K, mg, base⟩) : Cal ⟨P, w, K, mg, base⟩ "same_round" 5 ["one", "other"] sp_same_round := cal_mk T.t_same_round F_same_round (r_same_round T) pl_same_round
theorem rotW_head {vs : List Str} (G : GoodT vs) : rotW vs (vs.getD 0 "") = vs := by
  unfold rotW
  rw [idG G.nd G.some]
  simp [rotL]
theorem round_val {ws vs : List Str} (G1 : GoodT ws) (G2 : GoodT vs) (hp : ws.Perm vs) : dist (rotW ws (vs.getD 0 "")) vs = rdist ws vs := by
  have := rdist_at G1 G2 hp (a := vs.getD 0 "") (hp.mem_iff.mpr (gM G2.some))
  rwa [rotW_head G2] at this
theorem rdist_comm {ws vs : List Str} (G1 : GoodT ws) (G2 : GoodT vs) (hp : ws.Perm vs) : rdist vs ws = rdist ws vs := by
  have m := hp.mem_iff.mpr (gM (ws := vs) (i := 0) G2.some)
  rw [← rdist_at G1 G2 hp m, ← rdist_at G2 G1 hp.symm (hp.mem_iff.mp m)]
  exact dist_comm (G2.rot _) (G1.rot _) ((rotL_perm _ _).trans (hp.symm.trans (rotL_perm _ _).symm))
theorem rdist_zero {ws vs : List Str} (G1 : GoodT ws) (G2 : GoodT vs) (hp : ws.Perm vs) : isRot ws vs = decide (rdist ws vs = 0) := by
  have := dist_zero (G1.rot (ws.idxOf (vs.getD 0 ""))) G2 ((rotL_perm _ _).trans hp)
  rw [← round_val G1 G2 hp]
  unfold isRot
  rw [Bool.eq_iff_iff, decide_eq_true_eq, decide_eq_true_eq]
  exact this.symm
theorem rdist_dist {ws vs : List Str} (G1 : GoodT ws) (G2 : GoodT vs) (hp : ws.Perm vs) : rdist ws vs ≤ dist ws vs := rdist_le G1 G2 hp
theorem rdist_rots {ws vs : List Str} (G1 : GoodT ws) (G2 : GoodT vs) (hp : ws.Perm vs) {a b : Str} (ha : a ∈ ws) (hb : b ∈ vs) : rdist (rotW ws a) (rotW vs b) = rdist ws vs := by
  have i1 := (gI ha).1
  have i2 := (gI hb).1
  have := hp.length_eq
  exact rdist_rot G1 G2 hp (by omega) (by omega)
/-- the distances of all that are the same rounds -/
def allR (ws vs : List Str) (n : Nat) : List Int := ((ws.take n).map fun a => vs.map fun b => ((dist (rotW ws a) (rotW vs b) : Nat) : Int)).flatten
theorem allR_succ {ws vs : List Str} {k : Nat} (hk : k < ws.length) : allR ws vs (k + 1) = allR ws vs k ++ vs.map fun b => ((dist (rotW ws ws[k]) (rotW vs b) : Nat) : Int) := by
  unfold allR
  rw [List.take_succ_eq_append_getElem hk, List.map_append, List.flatten_append]
  simp
theorem allR_len {ws vs : List Str} : ∀ k, k ≤ ws.length → (allR ws vs k).length = k * vs.length
  | 0, _ => by simp [allR]
  | k + 1, h => by
    rw [allR_succ (by omega), List.length_append, allR_len k (by omega), List.length_map, Nat.succ_mul]
theorem allR_mem {ws vs : List Str} {n : Nat} {y : Int} : y ∈ allR ws vs n ↔ ∃ a ∈ ws.take n, ∃ b ∈ vs, ((dist (rotW ws a) (rotW vs b) : Nat) : Int) = y := by
  unfold allR
  simp only [List.mem_flatten, List.mem_map]
  constructor
  · rintro ⟨l, ⟨a, ha, rfl⟩, hy⟩
    obtain ⟨b, hb, e⟩ := List.mem_map.mp hy
    exact ⟨a, ha, b, hb, e⟩
  · rintro ⟨a, ha, b, hb, e⟩
    exact ⟨_, ⟨a, ha, rfl⟩, List.mem_map.mpr ⟨b, hb, e⟩⟩
theorem allR_min {ws vs : List Str} (G1 : GoodT ws) (G2 : GoodT vs) (hp : ws.Perm vs) : ((rdist ws vs : Nat) : Int) ∈ allR ws vs ws.length ∧ ∀ y, y ∈ allR ws vs ws.length → ((rdist ws vs : Nat) : Int) ≤ y := by
  constructor
  · have m := gM (ws := ws) (i := 0) G1.some
    refine allR_mem.mpr ⟨_, by rw [List.take_length]; exact m, _, hp.mem_iff.mp m, ?_⟩
    rw [rdist_at G1 G2 hp m]
  · intro y hy
    obtain ⟨a, ha, b, hb, rfl⟩ := allR_mem.mp hy
    rw [List.take_length] at ha
    have := rdist_low G1 G2 hp ha hb
    omega
def sp_law_right : DSp := fun ds M Q _ => match ds with
  | [.ref p] => (∃ o, M p = some o ∧ BagOk o) ∧ ∀ o, BagOk o → Q (.bl true) (M.put p o)
  | _ => False

def d_law_right_e1 : DE :=
  (dCall 2 sp_law_far (dCons (dCall 2 sp_law_from (dCons (dVar 2) (dCons (dVar 5) dNil))) (dCons (dCall 2 sp_law_from (dCons (dVar 3) (dCons (dVar 11) dNil))) dNil)))
def d_law_right_b2 : DS :=
  (dSet 4 (dOp addOp (dVar 4) (dLc (dSeqI (dVar 3)) (dgName 11) dYes d_law_right_e1 [11])))
def d_law_right_i3 : DS :=
  (dSeq (dSet 8 (dLst (dCons (dMk sp_Row_new (dCons (dCall 2 sp_law_from (dCons (dVar 2) (dCons (dCall 2 sp_law_of (dCons (dVar 0) (dCons (dVar 2) dNil))) dNil))) dNil)) (dCons (dMk sp_Row_new (dCons (dCall 2 sp_law_from (dCons (dVar 3) (dCons (dCall 2 sp_law_of (dCons (dVar 0) (dCons (dVar 2) dNil))) dNil))) dNil)) dNil))))
    (dIfS (dOr (dTest (dOp neOp (dCall 2 sp_round_distance (dCons (dOp ixOp (dVar 8) (dC (.int 0))) (dCons (dOp ixOp (dVar 8) (dC (.int 1))) dNil))) (dVar 6))) (dTest (dOp neOp (dCall 2 sp_same_round (dCons (dVar 9) (dCons (dVar 10) dNil))) (dOp eqOp (dVar 6) (dC (.int 0)))))) (dRet (dC (.bl false))) dNext))
def d_law_right_i2 : DS :=
  (dSeq (dSet 5 (dCall 2 sp_law_of (dCons (dVar 0) (dCons (dVar 2) dNil))))
    (dSeq (dIfS (dOr (dTest (dOp neOp (dCall 2 sp_law_far (dCons (dCall 2 sp_law_from (dCons (dVar 2) (dCons (dVar 5) dNil))) (dCons (dCall 2 sp_law_from (dCons (dVar 3) (dCons (dVar 5) dNil))) dNil))) (dVar 6))) (dTest (dOp gtO (dVar 6) (dCall 2 sp_distance (dCons (dVar 9) (dCons (dVar 10) dNil)))))) (dRet (dC (.bl false))) dNext)
    d_law_right_i3))
def d_law_right_r2 : DS :=
  (dSeq (dSet 6 (dCB (ob1 minLO) (dCons (dVar 4) dNil)))
    (dSeq (dSet 7 (dLst (dCons (dCall 2 sp_round_distance (dCons (dVar 9) (dCons (dVar 10) dNil))) (dCons (dCallN [1, 0] 0 2 2 sp_round_distance dNil (dCons (dVar 10) (dCons (dVar 9) dNil))) dNil))))
    (dSeq (dSet 7 (dOp addOp (dVar 7) (dLst (dCons (dCall 2 sp_round_distance (dCons (dVar 10) (dCons (dVar 9) dNil))) dNil))))
    (dSeq (dIfS (dTest (dOp neOp (dVar 7) (dOp mulOp (dLst (dCons (dVar 6) dNil)) (dC (.int 3))))) (dRet (dC (.bl false))) dNext)
    d_law_right_i2))))
def d_law_right_i1 : DS :=
  (dSeq (dPar 9 10 (dCons (dMk sp_Row_new (dCons (dVar 2) dNil)) (dCons (dMk sp_Row_new (dCons (dVar 3) dNil)) dNil)))
    (dSeq (dSet 4 (dLst dNil))
    (dSeq (dFor (dSeqI (dVar 2)) (dgName 5) d_law_right_b2)
    d_law_right_r2)))
def d_law_right_b1 : DS :=
  (dSeq (dSet 2 (dCall 2 sp_law_mixed (dCons (dVar 0) (dCons (dCall 2 sp_law_line (dCons (dVar 0) (dCons (dCall 2 sp_law_of (dCons (dVar 0) (dCons (dLst (dCons (dC (.int 1)) (dCons (dC (.int 2)) (dCons (dC (.int 3)) (dCons (dC (.int 4)) (dCons (dC (.int 5)) (dCons (dC (.int 7)) (dCons (dC (.int 9)) dNil)))))))) dNil))) dNil))) dNil))))
    (dSeq (dSet 3 (dCall 2 sp_law_mixed (dCons (dVar 0) (dCons (dVar 2) dNil))))
    (dSeq (dIfS (dTest (dOp eqOp (dCall 2 sp_law_take (dCons (dVar 0) (dCons (dC (.int 4)) dNil))) (dC (.int 0)))) (dSet 3 (dCall 2 sp_law_from (dCons (dVar 2) (dCons (dCall 2 sp_law_of (dCons (dVar 0) (dCons (dVar 2) dNil))) dNil)))) dNext)
    d_law_right_i1)))
def d_law_right_r1 : DS :=
  (dRet (dC (.bl true)))
def d_law_right : DS :=
  (dSeq (dFor (dRng1 (dCons (dC (.int 5)) dNil)) (dgName 1) d_law_right_b1)
    d_law_right_r1)
theorem st_law_right (v0 : D) : dstart N_law_right [v0] = [some v0, none, none, none, none, none, none, none, none, none, none, none] := rfl
theorem r_law_right (T : Txt ⟨P, w, K, mg, base⟩) : DPSs ⟨P, w, K, mg, base⟩ (Sx.fn N_law_right (defScope s_law_right) 6) (defBody s_law_right) d_law_right :=
  (dpss_cons (dps_for (dpi_range1 S_law_right T.z_range (dpa_cons dp_int dpa_nil)) (dpg_name L_law_right 1) (dpss_cons (dps_set L_law_right 2 (dp_call (ok_law_mixed T) S_law_right (dpa_cons (dp_var S_law_right 0) (by exact (dpa_cons (dp_call (ok_law_line T) S_law_right (dpa_cons (dp_var S_law_right 0) (by exact (dpa_cons (dp_call (ok_law_of T) S_law_right (dpa_cons (dp_var S_law_right 0) (by exact (dpa_cons (dp_lst (dpa_cons dp_int (by exact (dpa_cons dp_int (by exact (dpa_cons dp_int (by exact (dpa_cons dp_int (by exact (dpa_cons dp_int (by exact (dpa_cons dp_int (by exact (dpa_cons dp_int dpa_nil)))))))))))))) dpa_nil)))) dpa_nil)))) dpa_nil)))))
    (by exact (dpss_cons (dps_set L_law_right 3 (dp_call (ok_law_mixed T) S_law_right (dpa_cons (dp_var S_law_right 0) (by exact (dpa_cons (dp_var S_law_right 2) dpa_nil)))))
    (by exact (dpss_cons (dps_if (dpt_cmp (fun _ ft => opD_eq ft) (dp_call (ok_law_take T) S_law_right (dpa_cons (dp_var S_law_right 0) (by exact (dpa_cons dp_int dpa_nil)))) dp_int (by with_unfolding_all rfl)) (dpss_one (dps_set L_law_right 3 (dp_call (ok_law_from T) S_law_right (dpa_cons (dp_var S_law_right 2) (by exact (dpa_cons (dp_call (ok_law_of T) S_law_right (dpa_cons (dp_var S_law_right 0) (by exact (dpa_cons (dp_var S_law_right 2) dpa_nil)))) dpa_nil)))))) dpss_nil)
    (by exact (dpss_cons (dps_par L_law_right 9 10 (dpa_cons (dp_mkO (ok_Row_init T) pl_Row_new S_law_right (dpa_cons (dp_var S_law_right 2) dpa_nil)) (dpa_cons (dp_mkO (ok_Row_init T) pl_Row_new S_law_right (dpa_cons (dp_var S_law_right 3) dpa_nil)) dpa_nil)) (hw := fun env h => by cases env; cases h; rfl))
    (by exact (dpss_cons (dps_set L_law_right 4 (dp_lst dpa_nil))
    (by exact (dpss_cons (dps_for (dpi_seq (dp_var S_law_right 2)) (dpg_name L_law_right 5) (dpss_one (dps_set L_law_right 4 (dp_bin (fun _ ft => opD_add ft) (dp_var S_law_right 4) (dp_lc [("_law_mate_head", 11)] (by decide +kernel) (dpi_seq (dp_var S_law_right 3)) (dpg_name (stOk_of (ls := [11]) (by decide +kernel)) 11) dpts_nil (dp_call (ok_law_far T) (scOk_of (vs := [11, 2, 5, 3]) (gs := ["_law_far", "_law_from"]) (by decide +kernel)) (dpa_cons (dp_call (ok_law_from T) (scOk_of (vs := [11, 2, 5, 3]) (gs := ["_law_far", "_law_from"]) (by decide +kernel)) (dpa_cons (dp_var (scOk_of (vs := [11, 2, 5, 3]) (gs := ["_law_far", "_law_from"]) (by decide +kernel)) 2) (by exact (dpa_cons (dp_var (scOk_of (vs := [11, 2, 5, 3]) (gs := ["_law_far", "_law_from"]) (by decide +kernel)) 5) dpa_nil)))) (by exact (dpa_cons (dp_call (ok_law_from T) (scOk_of (vs := [11, 2, 5, 3]) (gs := ["_law_far", "_law_from"]) (by decide +kernel)) (dpa_cons (dp_var (scOk_of (vs := [11, 2, 5, 3]) (gs := ["_law_far", "_law_from"]) (by decide +kernel)) 3) (by exact (dpa_cons (dp_var (scOk_of (vs := [11, 2, 5, 3]) (gs := ["_law_far", "_law_from"]) (by decide +kernel)) 11) dpa_nil)))) dpa_nil)))))))))
    (by exact (dpss_cons (dps_set L_law_right 6 (dp_callB S_law_right T.z_min (fun X ft => (cb_minL ft rfl)) boot_min (dpa_cons (dp_var S_law_right 4) dpa_nil)))
    (by exact (dpss_cons (dps_set L_law_right 7 (dp_lst (dpa_cons (dp_call (ok_round_distance T) S_law_right (dpa_cons (dp_var S_law_right 9) (by exact (dpa_cons (dp_var S_law_right 10) dpa_nil)))) (by exact (dpa_cons (dp_callN0 (kw0_round_distance_goal_row T) S_law_right (dpk_cons (dp_var S_law_right 10) (dpk_cons (dp_var S_law_right 9) dpk_nil))) dpa_nil)))))
    (by exact (dpss_cons (dps_set L_law_right 7 (dp_bin (fun _ ft => opD_add ft) (dp_var S_law_right 7) (dp_lst (dpa_cons (dp_call (ok_round_distance T) S_law_right (dpa_cons (dp_var S_law_right 10) (by exact (dpa_cons (dp_var S_law_right 9) dpa_nil)))) dpa_nil))))
    (by exact (dpss_cons (dps_if (dpt_cmp (fun _ ft => opD_ne ft) (dp_var S_law_right 7) (dp_bin (fun _ ft => opD_mul ft) (dp_lst (dpa_cons (dp_var S_law_right 6) dpa_nil)) dp_int) (by with_unfolding_all rfl)) (dpss_one (dps_ret dp_bl)) dpss_nil)
    (by exact (dpss_cons (dps_set L_law_right 5 (dp_call (ok_law_of T) S_law_right (dpa_cons (dp_var S_law_right 0) (by exact (dpa_cons (dp_var S_law_right 2) dpa_nil)))))
    (by exact (dpss_cons (dps_if (DPW.pt (dpw_or (dpt_cmp (fun _ ft => opD_ne ft) (dp_call (ok_law_far T) S_law_right (dpa_cons (dp_call (ok_law_from T) S_law_right (dpa_cons (dp_var S_law_right 2) (by exact (dpa_cons (dp_var S_law_right 5) dpa_nil)))) (by exact (dpa_cons (dp_call (ok_law_from T) S_law_right (dpa_cons (dp_var S_law_right 3) (by exact (dpa_cons (dp_var S_law_right 5) dpa_nil)))) dpa_nil)))) (dp_var S_law_right 6) (by with_unfolding_all rfl)) (dpw_or1 (dpt_cmp (fun _ ft => opD_gt ft) (dp_var S_law_right 6) (dp_call (ok_distance T) S_law_right (dpa_cons (dp_var S_law_right 9) (by exact (dpa_cons (dp_var S_law_right 10) dpa_nil)))) (by with_unfolding_all rfl))))) (dpss_one (dps_ret dp_bl)) dpss_nil)
    (by exact (dpss_cons (dps_set L_law_right 8 (dp_lst (dpa_cons (dp_mkO (ok_Row_init T) pl_Row_new S_law_right (dpa_cons (dp_call (ok_law_from T) S_law_right (dpa_cons (dp_var S_law_right 2) (by exact (dpa_cons (dp_call (ok_law_of T) S_law_right (dpa_cons (dp_var S_law_right 0) (by exact (dpa_cons (dp_var S_law_right 2) dpa_nil)))) dpa_nil)))) dpa_nil)) (by exact (dpa_cons (dp_mkO (ok_Row_init T) pl_Row_new S_law_right (dpa_cons (dp_call (ok_law_from T) S_law_right (dpa_cons (dp_var S_law_right 3) (by exact (dpa_cons (dp_call (ok_law_of T) S_law_right (dpa_cons (dp_var S_law_right 0) (by exact (dpa_cons (dp_var S_law_right 2) dpa_nil)))) dpa_nil)))) dpa_nil)) dpa_nil)))))
    (by exact (dpss_one (dps_if (DPW.pt (dpw_or (dpt_cmp (fun _ ft => opD_ne ft) (dp_call (ok_round_distance T) S_law_right (dpa_cons (dp_ix (dp_var S_law_right 8) dp_int) (by exact (dpa_cons (dp_ix (dp_var S_law_right 8) dp_int) dpa_nil)))) (dp_var S_law_right 6) (by with_unfolding_all rfl)) (dpw_or1 (dpt_cmp (fun _ ft => opD_ne ft) (dp_call (ok_same_round T) S_law_right (dpa_cons (dp_var S_law_right 9) (by exact (dpa_cons (dp_var S_law_right 10) dpa_nil)))) (dp_cmp (fun _ ft => opD_eq ft) (dp_var S_law_right 6) dp_int (by with_unfolding_all rfl)) (by with_unfolding_all rfl))))) (dpss_one (dps_ret dp_bl)) dpss_nil)))))))))))))))))))))))))))))
    (by exact (dpss_one (dps_ret dp_bl))))
theorem pl_law_right (ds : List D) (M : MH) (Q : DQ) (E : Er → MH → Prop) (hl : ds.length = 1) (h : sp_law_right ds M Q E) : d_law_right (ends Q) (fun er _ M => E er M) (dstart N_law_right ds) M := by
  unfold sp_law_right at h
  split at h
  case h_2 => exact h.elim
  rename_i b
  rw [st_law_right]
  obtain ⟨⟨o0, hb, ho0⟩, h⟩ := h
  have fin : ∀ (ts aim : List Str) (o : MO) (Dn : DEnds) (s1 s4 s5 s6 s7 s8 s9 s10 s11 : Option D), GoodT ts → GoodT aim → aim.Perm ts → BagOk o → (∀ s1 s2 s3 s4 s5 s6 s7 s8 s9 s10 s11 o, BagOk o → Dn.nx [some (.ref b), s1, s2, s3, s4, s5, s6, s7, s8, s9, s10, s11] (M.put b o)) →
      d_law_right_i1 Dn (fun er _ M => E er M) [some (.ref b), s1, some (.tup (ts.map .str)), some (.tup (aim.map .str)), s4, s5, s6, s7, s8, s9, s10, s11] (M.put b o) := by
    intro ts aim o Dn s1 s4 s5 s6 s7 s8 s9 s10 s11 Gt Ga pa ho hn
    have few := Gt.few
    have la := pa.length_eq
    simp only [d_law_right_i1, sp_Row_new, dDk1, dicPO, eqOwnL, eqPairs, eqOne, dJoin, dMk, dstart, ends, dVar, dC, dOp, i2, ltO, leO, gtO, geO, subO, dTest, dAnd, dOr, dNot, asV, dAndV, dOrV, dNotV, dIf, dNil, dCons, dStar, dTup, dLst, dNew, seqD, lstD, datD, eqOp, neOp, addOp, mulOp, mulM, addM, divOp, modOp, powOp, isOp, isntOp, dNext, dSeq, dDrop, dRet, dRetN, dIfS, dBreak, dCont, dNever, dFrz, dgName, dgNil, dgCons, dgTup, dgSub, dAsg, dSet, dPar, dAugI, dSeqI, dRng1, dRng2, dEnum, dFor, dLast, dLink, dCh, dYes, dLc, dCall, dCall0, dFld, dMeth, dMeth0, dFrzO, frzO, dCB, ob1, ob2, oI, ii2, lenO, intO, sumO, intsO, blsO, strsO, reprO, absO, maxO, minO, dmO, tupO, lstO, lstMO, maxLO, minLO, anyO, allO, strIO, srtSO, srtO, srtIO, numsD_lst, numsD_tup, nats_inj, nats_len, stepD_inj, nc0, nc1, nc2, nc3, nc4, nc5, nc6, nc7, nc8, nc9, nc10, nc11, nc12, nc13, nc14, nc15, nc16, nc17, nc18, nc19, nc20, appendM, popM, extendM, insertM, indexM, indexTM, updateM, dBMT, dBMT.tupT, dinOp, dgetOp, dGet2, dsPut, dNewK, dDc, dPar3, dNeg, dkO_inj, dkO_ne, dkO_ne2, lenM_dk, keyD_int, keyD_str, dic_dk, dicA_dk, moTy_dk, moTy_lst, moTy_none, dIsi, inOp, ixOp, dSl, slOp, dRev, dBM, dBM0, refL, tyD, lenM_lst, dNoP, dPart, dCallN, dMake, dProp, eqOwn, neOwn, lenOwn, strOwn, dIsO, dMethN, dsFld, dRevT, dStrI, insD_obj, insD_ref, isC_obj, isC_ref, isC_non, isC_bl, isC_int, isC_str, isC_tup, isC_lst, ex_ins2, beq_self_eq_true, Bool.not_eq_eq_eq_not, decide_true, decide_false, okN_bl, okN_int, okN_non, exists_and_left, and_assoc, List.cons.injEq, dListRg1, dListRg2, pick, List.filterMap_cons, List.filterMap_nil, List.set_cons_zero, List.set_cons_succ, List.getElem?_cons_zero, List.getElem?_cons_succ, List.getElem?_nil, List.length_cons, List.length_nil, List.length_append, List.length_map, List.length_range, rangeD_length, enumD_length, List.cons_append, List.nil_append, forall_const, true_implies, false_implies, reduceCtorEq, Bool.not_true, Bool.not_false, and_true, true_and, decide_eq_true_eq, decide_eq_false_iff_not, MH.put_same, if_true, if_false, not_true_eq_false, not_false_eq_true, exists_eq_left, exists_eq_left', Option.some.injEq, MO.lst.injEq, MH.put_put, at_0, at_1, at_2, at_3, Int.ofNat_lt, Int.ofNat_le, ix_30, ix_31, ix_32, Nat.zero_add, Int.zero_add, Nat.reduceAdd, D.lst.injEq, lenOk, Nat.reduceLeDiff, rowD_inj, strs_inj, ints_inj, ex_ins, tyNm, ts_NoneType_bool, ts_NoneType_int, ts_NoneType_str, ts_NoneType_tuple, ts_NoneType_list, ts_bool_bool, ts_bool_int, ts_bool_str, ts_bool_tuple, ts_bool_list, ts_int_bool, ts_int_int, ts_int_str, ts_int_tuple, ts_int_list, ts_str_bool, ts_str_int, ts_str_str, ts_str_tuple, ts_str_list, ts_tuple_bool, ts_tuple_int, ts_tuple_str, ts_tuple_tuple, ts_tuple_list, ts_list_bool, ts_list_int, ts_list_str, ts_list_tuple, ts_list_list, ins_row, isC_row, row_ne, Int.natCast_inj, Int.toNat_natCast, D.int.injEq, D.str.injEq, D.bl.injEq, D.tup.injEq, D.ref.injEq, D.scr.injEq]
    refine ⟨Gt, Ga, ?_⟩
    refine for_list (fun k σ M' => ∃ s5 s6 s7 s8 s11, σ = [some (.ref b), s1, some (.tup (ts.map .str)), some (.tup (aim.map .str)), some (.lst ((allR ts aim k).map .int)), s5, s6, s7, s8, some (rowD ts), some (rowD aim), s11] ∧ M' = M.put b o) ⟨_, _, _, _, _, rfl, rfl⟩ ?_ ?_
    · rintro σ M' ⟨s5, s6, s7, s8, s11, rfl, rfl⟩
      obtain ⟨mn1, mn2⟩ := allR_min Gt Ga pa.symm
      have v1 := round_val Gt Ga pa.symm
      have v2 := (round_val Ga Gt pa).trans (rdist_comm Gt Ga pa.symm)
      have r3 : ∀ m : Int, (List.replicate (Int.toNat 3) [D.int m]).flatten = [D.int m, .int m, .int m] := fun m => rfl
      have ok3 : ∀ m : Int, okN 50 (.lst [.int m, .int m, .int m]) := fun m => by simp [okN]
      simp only [d_law_right_r2, sp_round_distance, r3, v1, v2, dDk1, dicPO, eqOwnL, eqPairs, eqOne, dJoin, dMk, dstart, ends, dVar, dC, dOp, i2, ltO, leO, gtO, geO, subO, dTest, dAnd, dOr, dNot, asV, dAndV, dOrV, dNotV, dIf, dNil, dCons, dStar, dTup, dLst, dNew, seqD, lstD, datD, eqOp, neOp, addOp, mulOp, mulM, addM, divOp, modOp, powOp, isOp, isntOp, dNext, dSeq, dDrop, dRet, dRetN, dIfS, dBreak, dCont, dNever, dFrz, dgName, dgNil, dgCons, dgTup, dgSub, dAsg, dSet, dPar, dAugI, dSeqI, dRng1, dRng2, dEnum, dFor, dLast, dLink, dCh, dYes, dLc, dCall, dCall0, dFld, dMeth, dMeth0, dFrzO, frzO, dCB, ob1, ob2, oI, ii2, lenO, intO, sumO, intsO, blsO, strsO, reprO, absO, maxO, minO, dmO, tupO, lstO, lstMO, maxLO, minLO, anyO, allO, strIO, srtSO, srtO, srtIO, numsD_lst, numsD_tup, nats_inj, nats_len, stepD_inj, nc0, nc1, nc2, nc3, nc4, nc5, nc6, nc7, nc8, nc9, nc10, nc11, nc12, nc13, nc14, nc15, nc16, nc17, nc18, nc19, nc20, appendM, popM, extendM, insertM, indexM, indexTM, updateM, dBMT, dBMT.tupT, dinOp, dgetOp, dGet2, dsPut, dNewK, dDc, dPar3, dNeg, dkO_inj, dkO_ne, dkO_ne2, lenM_dk, keyD_int, keyD_str, dic_dk, dicA_dk, moTy_dk, moTy_lst, moTy_none, dIsi, inOp, ixOp, dSl, slOp, dRev, dBM, dBM0, refL, tyD, lenM_lst, dNoP, dPart, dCallN, dMake, dProp, eqOwn, neOwn, lenOwn, strOwn, dIsO, dMethN, dsFld, dRevT, dStrI, insD_obj, insD_ref, isC_obj, isC_ref, isC_non, isC_bl, isC_int, isC_str, isC_tup, isC_lst, ex_ins2, beq_self_eq_true, Bool.not_eq_eq_eq_not, decide_true, decide_false, okN_bl, okN_int, okN_non, exists_and_left, and_assoc, List.cons.injEq, dListRg1, dListRg2, pick, List.filterMap_cons, List.filterMap_nil, List.set_cons_zero, List.set_cons_succ, List.getElem?_cons_zero, List.getElem?_cons_succ, List.getElem?_nil, List.length_cons, List.length_nil, List.length_append, List.length_map, List.length_range, rangeD_length, enumD_length, List.cons_append, List.nil_append, forall_const, true_implies, false_implies, reduceCtorEq, Bool.not_true, Bool.not_false, and_true, true_and, decide_eq_true_eq, decide_eq_false_iff_not, MH.put_same, if_true, if_false, not_true_eq_false, not_false_eq_true, exists_eq_left, exists_eq_left', Option.some.injEq, MO.lst.injEq, MH.put_put, at_0, at_1, at_2, at_3, Int.ofNat_lt, Int.ofNat_le, ix_30, ix_31, ix_32, Nat.zero_add, Int.zero_add, Nat.reduceAdd, D.lst.injEq, lenOk, Nat.reduceLeDiff, rowD_inj, strs_inj, ints_inj, ex_ins, tyNm, ts_NoneType_bool, ts_NoneType_int, ts_NoneType_str, ts_NoneType_tuple, ts_NoneType_list, ts_bool_bool, ts_bool_int, ts_bool_str, ts_bool_tuple, ts_bool_list, ts_int_bool, ts_int_int, ts_int_str, ts_int_tuple, ts_int_list, ts_str_bool, ts_str_int, ts_str_str, ts_str_tuple, ts_str_list, ts_tuple_bool, ts_tuple_int, ts_tuple_str, ts_tuple_tuple, ts_tuple_list, ts_list_bool, ts_list_int, ts_list_str, ts_list_tuple, ts_list_list, ins_row, isC_row, row_ne, Int.natCast_inj, Int.toNat_natCast, D.int.injEq, D.str.injEq, D.bl.injEq, D.tup.injEq, D.ref.injEq, D.scr.injEq]
      refine ⟨List.length_pos_of_mem mn1, fun m m1 m2 => ?_⟩
      have em : m = ((rdist ts aim : Nat) : Int) := by
        have h1 := m2 _ mn1
        have h2 := mn2 _ m1
        omega
      subst em
      have ee := eqD_refl 50 (ok3 ((rdist ts aim : Nat) : Int))
      simp only [ee, dDk1, dicPO, eqOwnL, eqPairs, eqOne, dJoin, dMk, dstart, ends, dVar, dC, dOp, i2, ltO, leO, gtO, geO, subO, dTest, dAnd, dOr, dNot, asV, dAndV, dOrV, dNotV, dIf, dNil, dCons, dStar, dTup, dLst, dNew, seqD, lstD, datD, eqOp, neOp, addOp, mulOp, mulM, addM, divOp, modOp, powOp, isOp, isntOp, dNext, dSeq, dDrop, dRet, dRetN, dIfS, dBreak, dCont, dNever, dFrz, dgName, dgNil, dgCons, dgTup, dgSub, dAsg, dSet, dPar, dAugI, dSeqI, dRng1, dRng2, dEnum, dFor, dLast, dLink, dCh, dYes, dLc, dCall, dCall0, dFld, dMeth, dMeth0, dFrzO, frzO, dCB, ob1, ob2, oI, ii2, lenO, intO, sumO, intsO, blsO, strsO, reprO, absO, maxO, minO, dmO, tupO, lstO, lstMO, maxLO, minLO, anyO, allO, strIO, srtSO, srtO, srtIO, numsD_lst, numsD_tup, nats_inj, nats_len, stepD_inj, nc0, nc1, nc2, nc3, nc4, nc5, nc6, nc7, nc8, nc9, nc10, nc11, nc12, nc13, nc14, nc15, nc16, nc17, nc18, nc19, nc20, appendM, popM, extendM, insertM, indexM, indexTM, updateM, dBMT, dBMT.tupT, dinOp, dgetOp, dGet2, dsPut, dNewK, dDc, dPar3, dNeg, dkO_inj, dkO_ne, dkO_ne2, lenM_dk, keyD_int, keyD_str, dic_dk, dicA_dk, moTy_dk, moTy_lst, moTy_none, dIsi, inOp, ixOp, dSl, slOp, dRev, dBM, dBM0, refL, tyD, lenM_lst, dNoP, dPart, dCallN, dMake, dProp, eqOwn, neOwn, lenOwn, strOwn, dIsO, dMethN, dsFld, dRevT, dStrI, insD_obj, insD_ref, isC_obj, isC_ref, isC_non, isC_bl, isC_int, isC_str, isC_tup, isC_lst, ex_ins2, beq_self_eq_true, Bool.not_eq_eq_eq_not, decide_true, decide_false, okN_bl, okN_int, okN_non, exists_and_left, and_assoc, List.cons.injEq, dListRg1, dListRg2, pick, List.filterMap_cons, List.filterMap_nil, List.set_cons_zero, List.set_cons_succ, List.getElem?_cons_zero, List.getElem?_cons_succ, List.getElem?_nil, List.length_cons, List.length_nil, List.length_append, List.length_map, List.length_range, rangeD_length, enumD_length, List.cons_append, List.nil_append, forall_const, true_implies, false_implies, reduceCtorEq, Bool.not_true, Bool.not_false, and_true, true_and, decide_eq_true_eq, decide_eq_false_iff_not, MH.put_same, if_true, if_false, not_true_eq_false, not_false_eq_true, exists_eq_left, exists_eq_left', Option.some.injEq, MO.lst.injEq, MH.put_put, at_0, at_1, at_2, at_3, Int.ofNat_lt, Int.ofNat_le, ix_30, ix_31, ix_32, Nat.zero_add, Int.zero_add, Nat.reduceAdd, D.lst.injEq, lenOk, Nat.reduceLeDiff, rowD_inj, strs_inj, ints_inj, ex_ins, tyNm, ts_NoneType_bool, ts_NoneType_int, ts_NoneType_str, ts_NoneType_tuple, ts_NoneType_list, ts_bool_bool, ts_bool_int, ts_bool_str, ts_bool_tuple, ts_bool_list, ts_int_bool, ts_int_int, ts_int_str, ts_int_tuple, ts_int_list, ts_str_bool, ts_str_int, ts_str_str, ts_str_tuple, ts_str_list, ts_tuple_bool, ts_tuple_int, ts_tuple_str, ts_tuple_tuple, ts_tuple_list, ts_list_bool, ts_list_int, ts_list_str, ts_list_tuple, ts_list_list, ins_row, isC_row, row_ne, Int.natCast_inj, Int.toNat_natCast, D.int.injEq, D.str.injEq, D.bl.injEq, D.tup.injEq, D.ref.injEq, D.scr.injEq]
      refine ⟨Gt, Ga, pa.symm, Gt, Ga, pa.symm, Ga, Gt, pa, by decide, by decide, ok3 _, ok3 _, ?_⟩
      simp only [d_law_right_i2, sp_law_of, dDk1, dicPO, eqOwnL, eqPairs, eqOne, dJoin, dMk, dstart, ends, dVar, dC, dOp, i2, ltO, leO, gtO, geO, subO, dTest, dAnd, dOr, dNot, asV, dAndV, dOrV, dNotV, dIf, dNil, dCons, dStar, dTup, dLst, dNew, seqD, lstD, datD, eqOp, neOp, addOp, mulOp, mulM, addM, divOp, modOp, powOp, isOp, isntOp, dNext, dSeq, dDrop, dRet, dRetN, dIfS, dBreak, dCont, dNever, dFrz, dgName, dgNil, dgCons, dgTup, dgSub, dAsg, dSet, dPar, dAugI, dSeqI, dRng1, dRng2, dEnum, dFor, dLast, dLink, dCh, dYes, dLc, dCall, dCall0, dFld, dMeth, dMeth0, dFrzO, frzO, dCB, ob1, ob2, oI, ii2, lenO, intO, sumO, intsO, blsO, strsO, reprO, absO, maxO, minO, dmO, tupO, lstO, lstMO, maxLO, minLO, anyO, allO, strIO, srtSO, srtO, srtIO, numsD_lst, numsD_tup, nats_inj, nats_len, stepD_inj, nc0, nc1, nc2, nc3, nc4, nc5, nc6, nc7, nc8, nc9, nc10, nc11, nc12, nc13, nc14, nc15, nc16, nc17, nc18, nc19, nc20, appendM, popM, extendM, insertM, indexM, indexTM, updateM, dBMT, dBMT.tupT, dinOp, dgetOp, dGet2, dsPut, dNewK, dDc, dPar3, dNeg, dkO_inj, dkO_ne, dkO_ne2, lenM_dk, keyD_int, keyD_str, dic_dk, dicA_dk, moTy_dk, moTy_lst, moTy_none, dIsi, inOp, ixOp, dSl, slOp, dRev, dBM, dBM0, refL, tyD, lenM_lst, dNoP, dPart, dCallN, dMake, dProp, eqOwn, neOwn, lenOwn, strOwn, dIsO, dMethN, dsFld, dRevT, dStrI, insD_obj, insD_ref, isC_obj, isC_ref, isC_non, isC_bl, isC_int, isC_str, isC_tup, isC_lst, ex_ins2, beq_self_eq_true, Bool.not_eq_eq_eq_not, decide_true, decide_false, okN_bl, okN_int, okN_non, exists_and_left, and_assoc, List.cons.injEq, dListRg1, dListRg2, pick, List.filterMap_cons, List.filterMap_nil, List.set_cons_zero, List.set_cons_succ, List.getElem?_cons_zero, List.getElem?_cons_succ, List.getElem?_nil, List.length_cons, List.length_nil, List.length_append, List.length_map, List.length_range, rangeD_length, enumD_length, List.cons_append, List.nil_append, forall_const, true_implies, false_implies, reduceCtorEq, Bool.not_true, Bool.not_false, and_true, true_and, decide_eq_true_eq, decide_eq_false_iff_not, MH.put_same, if_true, if_false, not_true_eq_false, not_false_eq_true, exists_eq_left, exists_eq_left', Option.some.injEq, MO.lst.injEq, MH.put_put, at_0, at_1, at_2, at_3, Int.ofNat_lt, Int.ofNat_le, ix_30, ix_31, ix_32, Nat.zero_add, Int.zero_add, Nat.reduceAdd, D.lst.injEq, lenOk, Nat.reduceLeDiff, rowD_inj, strs_inj, ints_inj, ex_ins, tyNm, ts_NoneType_bool, ts_NoneType_int, ts_NoneType_str, ts_NoneType_tuple, ts_NoneType_list, ts_bool_bool, ts_bool_int, ts_bool_str, ts_bool_tuple, ts_bool_list, ts_int_bool, ts_int_int, ts_int_str, ts_int_tuple, ts_int_list, ts_str_bool, ts_str_int, ts_str_str, ts_str_tuple, ts_str_list, ts_tuple_bool, ts_tuple_int, ts_tuple_str, ts_tuple_tuple, ts_tuple_list, ts_list_bool, ts_list_int, ts_list_str, ts_list_tuple, ts_list_list, ins_row, isC_row, row_ne, Int.natCast_inj, Int.toNat_natCast, D.int.injEq, D.str.injEq, D.bl.injEq, D.tup.injEq, D.ref.injEq, D.scr.injEq]
      refine ⟨_, .inr rfl, ho, by rw [List.length_map]; exact Gt.some, by rw [List.length_map]; omega, fun x hx o2 ho2 => ?_⟩
      obtain ⟨w, hw, rfl⟩ := List.mem_map.mp hx
      have hwa := pa.symm.mem_iff.mp hw
      have rd := rdist_dist Gt Ga pa.symm
      have at1 := rdist_at Gt Ga pa.symm hw
      simp only [sp_law_from, sp_law_far, sp_distance, at1, dDk1, dicPO, eqOwnL, eqPairs, eqOne, dJoin, dMk, dstart, ends, dVar, dC, dOp, i2, ltO, leO, gtO, geO, subO, dTest, dAnd, dOr, dNot, asV, dAndV, dOrV, dNotV, dIf, dNil, dCons, dStar, dTup, dLst, dNew, seqD, lstD, datD, eqOp, neOp, addOp, mulOp, mulM, addM, divOp, modOp, powOp, isOp, isntOp, dNext, dSeq, dDrop, dRet, dRetN, dIfS, dBreak, dCont, dNever, dFrz, dgName, dgNil, dgCons, dgTup, dgSub, dAsg, dSet, dPar, dAugI, dSeqI, dRng1, dRng2, dEnum, dFor, dLast, dLink, dCh, dYes, dLc, dCall, dCall0, dFld, dMeth, dMeth0, dFrzO, frzO, dCB, ob1, ob2, oI, ii2, lenO, intO, sumO, intsO, blsO, strsO, reprO, absO, maxO, minO, dmO, tupO, lstO, lstMO, maxLO, minLO, anyO, allO, strIO, srtSO, srtO, srtIO, numsD_lst, numsD_tup, nats_inj, nats_len, stepD_inj, nc0, nc1, nc2, nc3, nc4, nc5, nc6, nc7, nc8, nc9, nc10, nc11, nc12, nc13, nc14, nc15, nc16, nc17, nc18, nc19, nc20, appendM, popM, extendM, insertM, indexM, indexTM, updateM, dBMT, dBMT.tupT, dinOp, dgetOp, dGet2, dsPut, dNewK, dDc, dPar3, dNeg, dkO_inj, dkO_ne, dkO_ne2, lenM_dk, keyD_int, keyD_str, dic_dk, dicA_dk, moTy_dk, moTy_lst, moTy_none, dIsi, inOp, ixOp, dSl, slOp, dRev, dBM, dBM0, refL, tyD, lenM_lst, dNoP, dPart, dCallN, dMake, dProp, eqOwn, neOwn, lenOwn, strOwn, dIsO, dMethN, dsFld, dRevT, dStrI, insD_obj, insD_ref, isC_obj, isC_ref, isC_non, isC_bl, isC_int, isC_str, isC_tup, isC_lst, ex_ins2, beq_self_eq_true, Bool.not_eq_eq_eq_not, decide_true, decide_false, okN_bl, okN_int, okN_non, exists_and_left, and_assoc, List.cons.injEq, dListRg1, dListRg2, pick, List.filterMap_cons, List.filterMap_nil, List.set_cons_zero, List.set_cons_succ, List.getElem?_cons_zero, List.getElem?_cons_succ, List.getElem?_nil, List.length_cons, List.length_nil, List.length_append, List.length_map, List.length_range, rangeD_length, enumD_length, List.cons_append, List.nil_append, forall_const, true_implies, false_implies, reduceCtorEq, Bool.not_true, Bool.not_false, and_true, true_and, decide_eq_true_eq, decide_eq_false_iff_not, MH.put_same, if_true, if_false, not_true_eq_false, not_false_eq_true, exists_eq_left, exists_eq_left', Option.some.injEq, MO.lst.injEq, MH.put_put, at_0, at_1, at_2, at_3, Int.ofNat_lt, Int.ofNat_le, ix_30, ix_31, ix_32, Nat.zero_add, Int.zero_add, Nat.reduceAdd, D.lst.injEq, lenOk, Nat.reduceLeDiff, rowD_inj, strs_inj, ints_inj, ex_ins, tyNm, ts_NoneType_bool, ts_NoneType_int, ts_NoneType_str, ts_NoneType_tuple, ts_NoneType_list, ts_bool_bool, ts_bool_int, ts_bool_str, ts_bool_tuple, ts_bool_list, ts_int_bool, ts_int_int, ts_int_str, ts_int_tuple, ts_int_list, ts_str_bool, ts_str_int, ts_str_str, ts_str_tuple, ts_str_list, ts_tuple_bool, ts_tuple_int, ts_tuple_str, ts_tuple_tuple, ts_tuple_list, ts_list_bool, ts_list_int, ts_list_str, ts_list_tuple, ts_list_list, ins_row, isC_row, row_ne, Int.natCast_inj, Int.toNat_natCast, D.int.injEq, D.str.injEq, D.bl.injEq, D.tup.injEq, D.ref.injEq, D.scr.injEq]
      have pr : (rotW ts w).Perm (rotW aim w) := (rotL_perm _ _).trans (pa.symm.trans (rotL_perm _ _).symm)
      refine ⟨hw, by omega, hwa, by omega, Gt.rot _, Ga.rot _, pr, Gt, Ga, pa.symm, fun z => absurd z (by omega), fun _ => ?_⟩
      simp only [d_law_right_i3, sp_law_of, dDk1, dicPO, eqOwnL, eqPairs, eqOne, dJoin, dMk, dstart, ends, dVar, dC, dOp, i2, ltO, leO, gtO, geO, subO, dTest, dAnd, dOr, dNot, asV, dAndV, dOrV, dNotV, dIf, dNil, dCons, dStar, dTup, dLst, dNew, seqD, lstD, datD, eqOp, neOp, addOp, mulOp, mulM, addM, divOp, modOp, powOp, isOp, isntOp, dNext, dSeq, dDrop, dRet, dRetN, dIfS, dBreak, dCont, dNever, dFrz, dgName, dgNil, dgCons, dgTup, dgSub, dAsg, dSet, dPar, dAugI, dSeqI, dRng1, dRng2, dEnum, dFor, dLast, dLink, dCh, dYes, dLc, dCall, dCall0, dFld, dMeth, dMeth0, dFrzO, frzO, dCB, ob1, ob2, oI, ii2, lenO, intO, sumO, intsO, blsO, strsO, reprO, absO, maxO, minO, dmO, tupO, lstO, lstMO, maxLO, minLO, anyO, allO, strIO, srtSO, srtO, srtIO, numsD_lst, numsD_tup, nats_inj, nats_len, stepD_inj, nc0, nc1, nc2, nc3, nc4, nc5, nc6, nc7, nc8, nc9, nc10, nc11, nc12, nc13, nc14, nc15, nc16, nc17, nc18, nc19, nc20, appendM, popM, extendM, insertM, indexM, indexTM, updateM, dBMT, dBMT.tupT, dinOp, dgetOp, dGet2, dsPut, dNewK, dDc, dPar3, dNeg, dkO_inj, dkO_ne, dkO_ne2, lenM_dk, keyD_int, keyD_str, dic_dk, dicA_dk, moTy_dk, moTy_lst, moTy_none, dIsi, inOp, ixOp, dSl, slOp, dRev, dBM, dBM0, refL, tyD, lenM_lst, dNoP, dPart, dCallN, dMake, dProp, eqOwn, neOwn, lenOwn, strOwn, dIsO, dMethN, dsFld, dRevT, dStrI, insD_obj, insD_ref, isC_obj, isC_ref, isC_non, isC_bl, isC_int, isC_str, isC_tup, isC_lst, ex_ins2, beq_self_eq_true, Bool.not_eq_eq_eq_not, decide_true, decide_false, okN_bl, okN_int, okN_non, exists_and_left, and_assoc, List.cons.injEq, dListRg1, dListRg2, pick, List.filterMap_cons, List.filterMap_nil, List.set_cons_zero, List.set_cons_succ, List.getElem?_cons_zero, List.getElem?_cons_succ, List.getElem?_nil, List.length_cons, List.length_nil, List.length_append, List.length_map, List.length_range, rangeD_length, enumD_length, List.cons_append, List.nil_append, forall_const, true_implies, false_implies, reduceCtorEq, Bool.not_true, Bool.not_false, and_true, true_and, decide_eq_true_eq, decide_eq_false_iff_not, MH.put_same, if_true, if_false, not_true_eq_false, not_false_eq_true, exists_eq_left, exists_eq_left', Option.some.injEq, MO.lst.injEq, MH.put_put, at_0, at_1, at_2, at_3, Int.ofNat_lt, Int.ofNat_le, ix_30, ix_31, ix_32, Nat.zero_add, Int.zero_add, Nat.reduceAdd, D.lst.injEq, lenOk, Nat.reduceLeDiff, rowD_inj, strs_inj, ints_inj, ex_ins, tyNm, ts_NoneType_bool, ts_NoneType_int, ts_NoneType_str, ts_NoneType_tuple, ts_NoneType_list, ts_bool_bool, ts_bool_int, ts_bool_str, ts_bool_tuple, ts_bool_list, ts_int_bool, ts_int_int, ts_int_str, ts_int_tuple, ts_int_list, ts_str_bool, ts_str_int, ts_str_str, ts_str_tuple, ts_str_list, ts_tuple_bool, ts_tuple_int, ts_tuple_str, ts_tuple_tuple, ts_tuple_list, ts_list_bool, ts_list_int, ts_list_str, ts_list_tuple, ts_list_list, ins_row, isC_row, row_ne, Int.natCast_inj, Int.toNat_natCast, D.int.injEq, D.str.injEq, D.bl.injEq, D.tup.injEq, D.ref.injEq, D.scr.injEq]
      refine ⟨_, .inr rfl, ho2, by rw [List.length_map]; exact Gt.some, by rw [List.length_map]; omega, fun x hx o3 ho3 => ?_⟩
      obtain ⟨w1, hw1, rfl⟩ := List.mem_map.mp hx
      simp only [sp_law_from, sp_Row_new, dDk1, dicPO, eqOwnL, eqPairs, eqOne, dJoin, dMk, dstart, ends, dVar, dC, dOp, i2, ltO, leO, gtO, geO, subO, dTest, dAnd, dOr, dNot, asV, dAndV, dOrV, dNotV, dIf, dNil, dCons, dStar, dTup, dLst, dNew, seqD, lstD, datD, eqOp, neOp, addOp, mulOp, mulM, addM, divOp, modOp, powOp, isOp, isntOp, dNext, dSeq, dDrop, dRet, dRetN, dIfS, dBreak, dCont, dNever, dFrz, dgName, dgNil, dgCons, dgTup, dgSub, dAsg, dSet, dPar, dAugI, dSeqI, dRng1, dRng2, dEnum, dFor, dLast, dLink, dCh, dYes, dLc, dCall, dCall0, dFld, dMeth, dMeth0, dFrzO, frzO, dCB, ob1, ob2, oI, ii2, lenO, intO, sumO, intsO, blsO, strsO, reprO, absO, maxO, minO, dmO, tupO, lstO, lstMO, maxLO, minLO, anyO, allO, strIO, srtSO, srtO, srtIO, numsD_lst, numsD_tup, nats_inj, nats_len, stepD_inj, nc0, nc1, nc2, nc3, nc4, nc5, nc6, nc7, nc8, nc9, nc10, nc11, nc12, nc13, nc14, nc15, nc16, nc17, nc18, nc19, nc20, appendM, popM, extendM, insertM, indexM, indexTM, updateM, dBMT, dBMT.tupT, dinOp, dgetOp, dGet2, dsPut, dNewK, dDc, dPar3, dNeg, dkO_inj, dkO_ne, dkO_ne2, lenM_dk, keyD_int, keyD_str, dic_dk, dicA_dk, moTy_dk, moTy_lst, moTy_none, dIsi, inOp, ixOp, dSl, slOp, dRev, dBM, dBM0, refL, tyD, lenM_lst, dNoP, dPart, dCallN, dMake, dProp, eqOwn, neOwn, lenOwn, strOwn, dIsO, dMethN, dsFld, dRevT, dStrI, insD_obj, insD_ref, isC_obj, isC_ref, isC_non, isC_bl, isC_int, isC_str, isC_tup, isC_lst, ex_ins2, beq_self_eq_true, Bool.not_eq_eq_eq_not, decide_true, decide_false, okN_bl, okN_int, okN_non, exists_and_left, and_assoc, List.cons.injEq, dListRg1, dListRg2, pick, List.filterMap_cons, List.filterMap_nil, List.set_cons_zero, List.set_cons_succ, List.getElem?_cons_zero, List.getElem?_cons_succ, List.getElem?_nil, List.length_cons, List.length_nil, List.length_append, List.length_map, List.length_range, rangeD_length, enumD_length, List.cons_append, List.nil_append, forall_const, true_implies, false_implies, reduceCtorEq, Bool.not_true, Bool.not_false, and_true, true_and, decide_eq_true_eq, decide_eq_false_iff_not, MH.put_same, if_true, if_false, not_true_eq_false, not_false_eq_true, exists_eq_left, exists_eq_left', Option.some.injEq, MO.lst.injEq, MH.put_put, at_0, at_1, at_2, at_3, Int.ofNat_lt, Int.ofNat_le, ix_30, ix_31, ix_32, Nat.zero_add, Int.zero_add, Nat.reduceAdd, D.lst.injEq, lenOk, Nat.reduceLeDiff, rowD_inj, strs_inj, ints_inj, ex_ins, tyNm, ts_NoneType_bool, ts_NoneType_int, ts_NoneType_str, ts_NoneType_tuple, ts_NoneType_list, ts_bool_bool, ts_bool_int, ts_bool_str, ts_bool_tuple, ts_bool_list, ts_int_bool, ts_int_int, ts_int_str, ts_int_tuple, ts_int_list, ts_str_bool, ts_str_int, ts_str_str, ts_str_tuple, ts_str_list, ts_tuple_bool, ts_tuple_int, ts_tuple_str, ts_tuple_tuple, ts_tuple_list, ts_list_bool, ts_list_int, ts_list_str, ts_list_tuple, ts_list_list, ins_row, isC_row, row_ne, Int.natCast_inj, Int.toNat_natCast, D.int.injEq, D.str.injEq, D.bl.injEq, D.tup.injEq, D.ref.injEq, D.scr.injEq]
      refine ⟨hw1, by omega, Gt.rot _, ?_⟩
      refine ⟨_, .inr rfl, ho3, by rw [List.length_map]; exact Gt.some, by rw [List.length_map]; omega, fun x hx o4 ho4 => ?_⟩
      obtain ⟨w2, hw2, rfl⟩ := List.mem_map.mp hx
      have hw2a := pa.symm.mem_iff.mp hw2
      simp only [sp_law_from, dDk1, dicPO, eqOwnL, eqPairs, eqOne, dJoin, dMk, dstart, ends, dVar, dC, dOp, i2, ltO, leO, gtO, geO, subO, dTest, dAnd, dOr, dNot, asV, dAndV, dOrV, dNotV, dIf, dNil, dCons, dStar, dTup, dLst, dNew, seqD, lstD, datD, eqOp, neOp, addOp, mulOp, mulM, addM, divOp, modOp, powOp, isOp, isntOp, dNext, dSeq, dDrop, dRet, dRetN, dIfS, dBreak, dCont, dNever, dFrz, dgName, dgNil, dgCons, dgTup, dgSub, dAsg, dSet, dPar, dAugI, dSeqI, dRng1, dRng2, dEnum, dFor, dLast, dLink, dCh, dYes, dLc, dCall, dCall0, dFld, dMeth, dMeth0, dFrzO, frzO, dCB, ob1, ob2, oI, ii2, lenO, intO, sumO, intsO, blsO, strsO, reprO, absO, maxO, minO, dmO, tupO, lstO, lstMO, maxLO, minLO, anyO, allO, strIO, srtSO, srtO, srtIO, numsD_lst, numsD_tup, nats_inj, nats_len, stepD_inj, nc0, nc1, nc2, nc3, nc4, nc5, nc6, nc7, nc8, nc9, nc10, nc11, nc12, nc13, nc14, nc15, nc16, nc17, nc18, nc19, nc20, appendM, popM, extendM, insertM, indexM, indexTM, updateM, dBMT, dBMT.tupT, dinOp, dgetOp, dGet2, dsPut, dNewK, dDc, dPar3, dNeg, dkO_inj, dkO_ne, dkO_ne2, lenM_dk, keyD_int, keyD_str, dic_dk, dicA_dk, moTy_dk, moTy_lst, moTy_none, dIsi, inOp, ixOp, dSl, slOp, dRev, dBM, dBM0, refL, tyD, lenM_lst, dNoP, dPart, dCallN, dMake, dProp, eqOwn, neOwn, lenOwn, strOwn, dIsO, dMethN, dsFld, dRevT, dStrI, insD_obj, insD_ref, isC_obj, isC_ref, isC_non, isC_bl, isC_int, isC_str, isC_tup, isC_lst, ex_ins2, beq_self_eq_true, Bool.not_eq_eq_eq_not, decide_true, decide_false, okN_bl, okN_int, okN_non, exists_and_left, and_assoc, List.cons.injEq, dListRg1, dListRg2, pick, List.filterMap_cons, List.filterMap_nil, List.set_cons_zero, List.set_cons_succ, List.getElem?_cons_zero, List.getElem?_cons_succ, List.getElem?_nil, List.length_cons, List.length_nil, List.length_append, List.length_map, List.length_range, rangeD_length, enumD_length, List.cons_append, List.nil_append, forall_const, true_implies, false_implies, reduceCtorEq, Bool.not_true, Bool.not_false, and_true, true_and, decide_eq_true_eq, decide_eq_false_iff_not, MH.put_same, if_true, if_false, not_true_eq_false, not_false_eq_true, exists_eq_left, exists_eq_left', Option.some.injEq, MO.lst.injEq, MH.put_put, at_0, at_1, at_2, at_3, Int.ofNat_lt, Int.ofNat_le, ix_30, ix_31, ix_32, Nat.zero_add, Int.zero_add, Nat.reduceAdd, D.lst.injEq, lenOk, Nat.reduceLeDiff, rowD_inj, strs_inj, ints_inj, ex_ins, tyNm, ts_NoneType_bool, ts_NoneType_int, ts_NoneType_str, ts_NoneType_tuple, ts_NoneType_list, ts_bool_bool, ts_bool_int, ts_bool_str, ts_bool_tuple, ts_bool_list, ts_int_bool, ts_int_int, ts_int_str, ts_int_tuple, ts_int_list, ts_str_bool, ts_str_int, ts_str_str, ts_str_tuple, ts_str_list, ts_tuple_bool, ts_tuple_int, ts_tuple_str, ts_tuple_tuple, ts_tuple_list, ts_list_bool, ts_list_int, ts_list_str, ts_list_tuple, ts_list_list, ins_row, isC_row, row_ne, Int.natCast_inj, Int.toNat_natCast, D.int.injEq, D.str.injEq, D.bl.injEq, D.tup.injEq, D.ref.injEq, D.scr.injEq]
      have pr2 : (rotW ts w1).Perm (rotW aim w2) := (rotL_perm _ _).trans (pa.symm.trans (rotL_perm _ _).symm)
      have v3 : dist (rotW (rotW ts w1) ((rotW aim w2).getD 0 "")) (rotW aim w2) = rdist ts aim := (round_val (Gt.rot _) (Ga.rot _) pr2).trans (rdist_rots Gt Ga pa.symm hw1 hw2a)
      have v4 := rdist_zero Gt Ga pa.symm
      refine ⟨hw2a, by omega, Ga.rot _, ?_⟩
      simp only [sp_round_distance, sp_same_round, v3, v4, dDk1, dicPO, eqOwnL, eqPairs, eqOne, dJoin, dMk, dstart, ends, dVar, dC, dOp, i2, ltO, leO, gtO, geO, subO, dTest, dAnd, dOr, dNot, asV, dAndV, dOrV, dNotV, dIf, dNil, dCons, dStar, dTup, dLst, dNew, seqD, lstD, datD, eqOp, neOp, addOp, mulOp, mulM, addM, divOp, modOp, powOp, isOp, isntOp, dNext, dSeq, dDrop, dRet, dRetN, dIfS, dBreak, dCont, dNever, dFrz, dgName, dgNil, dgCons, dgTup, dgSub, dAsg, dSet, dPar, dAugI, dSeqI, dRng1, dRng2, dEnum, dFor, dLast, dLink, dCh, dYes, dLc, dCall, dCall0, dFld, dMeth, dMeth0, dFrzO, frzO, dCB, ob1, ob2, oI, ii2, lenO, intO, sumO, intsO, blsO, strsO, reprO, absO, maxO, minO, dmO, tupO, lstO, lstMO, maxLO, minLO, anyO, allO, strIO, srtSO, srtO, srtIO, numsD_lst, numsD_tup, nats_inj, nats_len, stepD_inj, nc0, nc1, nc2, nc3, nc4, nc5, nc6, nc7, nc8, nc9, nc10, nc11, nc12, nc13, nc14, nc15, nc16, nc17, nc18, nc19, nc20, appendM, popM, extendM, insertM, indexM, indexTM, updateM, dBMT, dBMT.tupT, dinOp, dgetOp, dGet2, dsPut, dNewK, dDc, dPar3, dNeg, dkO_inj, dkO_ne, dkO_ne2, lenM_dk, keyD_int, keyD_str, dic_dk, dicA_dk, moTy_dk, moTy_lst, moTy_none, dIsi, inOp, ixOp, dSl, slOp, dRev, dBM, dBM0, refL, tyD, lenM_lst, dNoP, dPart, dCallN, dMake, dProp, eqOwn, neOwn, lenOwn, strOwn, dIsO, dMethN, dsFld, dRevT, dStrI, insD_obj, insD_ref, isC_obj, isC_ref, isC_non, isC_bl, isC_int, isC_str, isC_tup, isC_lst, ex_ins2, beq_self_eq_true, Bool.not_eq_eq_eq_not, decide_true, decide_false, okN_bl, okN_int, okN_non, exists_and_left, and_assoc, List.cons.injEq, dListRg1, dListRg2, pick, List.filterMap_cons, List.filterMap_nil, List.set_cons_zero, List.set_cons_succ, List.getElem?_cons_zero, List.getElem?_cons_succ, List.getElem?_nil, List.length_cons, List.length_nil, List.length_append, List.length_map, List.length_range, rangeD_length, enumD_length, List.cons_append, List.nil_append, forall_const, true_implies, false_implies, reduceCtorEq, Bool.not_true, Bool.not_false, and_true, true_and, decide_eq_true_eq, decide_eq_false_iff_not, MH.put_same, if_true, if_false, not_true_eq_false, not_false_eq_true, exists_eq_left, exists_eq_left', Option.some.injEq, MO.lst.injEq, MH.put_put, at_0, at_1, at_2, at_3, Int.ofNat_lt, Int.ofNat_le, ix_30, ix_31, ix_32, Nat.zero_add, Int.zero_add, Nat.reduceAdd, D.lst.injEq, lenOk, Nat.reduceLeDiff, rowD_inj, strs_inj, ints_inj, ex_ins, tyNm, ts_NoneType_bool, ts_NoneType_int, ts_NoneType_str, ts_NoneType_tuple, ts_NoneType_list, ts_bool_bool, ts_bool_int, ts_bool_str, ts_bool_tuple, ts_bool_list, ts_int_bool, ts_int_int, ts_int_str, ts_int_tuple, ts_int_list, ts_str_bool, ts_str_int, ts_str_str, ts_str_tuple, ts_str_list, ts_tuple_bool, ts_tuple_int, ts_tuple_str, ts_tuple_tuple, ts_tuple_list, ts_list_bool, ts_list_int, ts_list_str, ts_list_tuple, ts_list_list, ins_row, isC_row, row_ne, Int.natCast_inj, Int.toNat_natCast, D.int.injEq, D.str.injEq, D.bl.injEq, D.tup.injEq, D.ref.injEq, D.scr.injEq]
      have e0 : eqD (D.bl (decide (rdist ts aim = 0))) (D.bl (decide (((rdist ts aim : Nat) : Int) = 0))) = true := by
        have : (decide (rdist ts aim = 0)) = decide (((rdist ts aim : Nat) : Int) = 0) := by
          rw [Bool.eq_iff_iff, decide_eq_true_eq, decide_eq_true_eq]; omega
        rw [this]
        exact eqD_refl 50 (by simp [okN_bl])
      rw [e0]
      exact ⟨Gt.rot _, Ga.rot _, pr2, Gt, Ga, pa.symm, fun z => absurd z (by decide), fun _ => hn _ _ _ _ _ _ _ _ _ _ _ _ ho4⟩
    · rintro k σ M' hk ⟨s5, s6, s7, s8, s11, rfl, rfl⟩
      have hk2 : k < ts.length := by simpa using hk
      have ek : (ts.map D.str)[k] = .str ts[k] := by simp
      rw [ek]
      simp only [d_law_right_b2, dDk1, dicPO, eqOwnL, eqPairs, eqOne, dJoin, dMk, dstart, ends, dVar, dC, dOp, i2, ltO, leO, gtO, geO, subO, dTest, dAnd, dOr, dNot, asV, dAndV, dOrV, dNotV, dIf, dNil, dCons, dStar, dTup, dLst, dNew, seqD, lstD, datD, eqOp, neOp, addOp, mulOp, mulM, addM, divOp, modOp, powOp, isOp, isntOp, dNext, dSeq, dDrop, dRet, dRetN, dIfS, dBreak, dCont, dNever, dFrz, dgName, dgNil, dgCons, dgTup, dgSub, dAsg, dSet, dPar, dAugI, dSeqI, dRng1, dRng2, dEnum, dFor, dLast, dLink, dCh, dYes, dLc, dCall, dCall0, dFld, dMeth, dMeth0, dFrzO, frzO, dCB, ob1, ob2, oI, ii2, lenO, intO, sumO, intsO, blsO, strsO, reprO, absO, maxO, minO, dmO, tupO, lstO, lstMO, maxLO, minLO, anyO, allO, strIO, srtSO, srtO, srtIO, numsD_lst, numsD_tup, nats_inj, nats_len, stepD_inj, nc0, nc1, nc2, nc3, nc4, nc5, nc6, nc7, nc8, nc9, nc10, nc11, nc12, nc13, nc14, nc15, nc16, nc17, nc18, nc19, nc20, appendM, popM, extendM, insertM, indexM, indexTM, updateM, dBMT, dBMT.tupT, dinOp, dgetOp, dGet2, dsPut, dNewK, dDc, dPar3, dNeg, dkO_inj, dkO_ne, dkO_ne2, lenM_dk, keyD_int, keyD_str, dic_dk, dicA_dk, moTy_dk, moTy_lst, moTy_none, dIsi, inOp, ixOp, dSl, slOp, dRev, dBM, dBM0, refL, tyD, lenM_lst, dNoP, dPart, dCallN, dMake, dProp, eqOwn, neOwn, lenOwn, strOwn, dIsO, dMethN, dsFld, dRevT, dStrI, insD_obj, insD_ref, isC_obj, isC_ref, isC_non, isC_bl, isC_int, isC_str, isC_tup, isC_lst, ex_ins2, beq_self_eq_true, Bool.not_eq_eq_eq_not, decide_true, decide_false, okN_bl, okN_int, okN_non, exists_and_left, and_assoc, List.cons.injEq, dListRg1, dListRg2, pick, List.filterMap_cons, List.filterMap_nil, List.set_cons_zero, List.set_cons_succ, List.getElem?_cons_zero, List.getElem?_cons_succ, List.getElem?_nil, List.length_cons, List.length_nil, List.length_append, List.length_map, List.length_range, rangeD_length, enumD_length, List.cons_append, List.nil_append, forall_const, true_implies, false_implies, reduceCtorEq, Bool.not_true, Bool.not_false, and_true, true_and, decide_eq_true_eq, decide_eq_false_iff_not, MH.put_same, if_true, if_false, not_true_eq_false, not_false_eq_true, exists_eq_left, exists_eq_left', Option.some.injEq, MO.lst.injEq, MH.put_put, at_0, at_1, at_2, at_3, Int.ofNat_lt, Int.ofNat_le, ix_30, ix_31, ix_32, Nat.zero_add, Int.zero_add, Nat.reduceAdd, D.lst.injEq, lenOk, Nat.reduceLeDiff, rowD_inj, strs_inj, ints_inj, ex_ins, tyNm, ts_NoneType_bool, ts_NoneType_int, ts_NoneType_str, ts_NoneType_tuple, ts_NoneType_list, ts_bool_bool, ts_bool_int, ts_bool_str, ts_bool_tuple, ts_bool_list, ts_int_bool, ts_int_int, ts_int_str, ts_int_tuple, ts_int_list, ts_str_bool, ts_str_int, ts_str_str, ts_str_tuple, ts_str_list, ts_tuple_bool, ts_tuple_int, ts_tuple_str, ts_tuple_tuple, ts_tuple_list, ts_list_bool, ts_list_int, ts_list_str, ts_list_tuple, ts_list_list, ins_row, isC_row, row_ne, Int.natCast_inj, Int.toNat_natCast, D.int.injEq, D.str.injEq, D.bl.injEq, D.tup.injEq, D.ref.injEq, D.scr.injEq]
      refine lc_idx (fun i => .int ((dist (rotW ts ts[k]) (rotW aim (aim.getD i "")) : Nat) : Int)) (by unfold lenOk; rw [List.length_map]; omega) ?_ ?_
      · intro p acc i hi C hp hC
        have hi2 : i < aim.length := by simpa using hi
        have ei : (aim.map D.str)[i] = .str aim[i] := by simp
        rw [gD hi2] at hC
        rw [ei]
        simp only [wipeD, d_law_right_e1, sp_law_far, sp_law_from, dDk1, dicPO, eqOwnL, eqPairs, eqOne, dJoin, dMk, dstart, ends, dVar, dC, dOp, i2, ltO, leO, gtO, geO, subO, dTest, dAnd, dOr, dNot, asV, dAndV, dOrV, dNotV, dIf, dNil, dCons, dStar, dTup, dLst, dNew, seqD, lstD, datD, eqOp, neOp, addOp, mulOp, mulM, addM, divOp, modOp, powOp, isOp, isntOp, dNext, dSeq, dDrop, dRet, dRetN, dIfS, dBreak, dCont, dNever, dFrz, dgName, dgNil, dgCons, dgTup, dgSub, dAsg, dSet, dPar, dAugI, dSeqI, dRng1, dRng2, dEnum, dFor, dLast, dLink, dCh, dYes, dLc, dCall, dCall0, dFld, dMeth, dMeth0, dFrzO, frzO, dCB, ob1, ob2, oI, ii2, lenO, intO, sumO, intsO, blsO, strsO, reprO, absO, maxO, minO, dmO, tupO, lstO, lstMO, maxLO, minLO, anyO, allO, strIO, srtSO, srtO, srtIO, numsD_lst, numsD_tup, nats_inj, nats_len, stepD_inj, nc0, nc1, nc2, nc3, nc4, nc5, nc6, nc7, nc8, nc9, nc10, nc11, nc12, nc13, nc14, nc15, nc16, nc17, nc18, nc19, nc20, appendM, popM, extendM, insertM, indexM, indexTM, updateM, dBMT, dBMT.tupT, dinOp, dgetOp, dGet2, dsPut, dNewK, dDc, dPar3, dNeg, dkO_inj, dkO_ne, dkO_ne2, lenM_dk, keyD_int, keyD_str, dic_dk, dicA_dk, moTy_dk, moTy_lst, moTy_none, dIsi, inOp, ixOp, dSl, slOp, dRev, dBM, dBM0, refL, tyD, lenM_lst, dNoP, dPart, dCallN, dMake, dProp, eqOwn, neOwn, lenOwn, strOwn, dIsO, dMethN, dsFld, dRevT, dStrI, insD_obj, insD_ref, isC_obj, isC_ref, isC_non, isC_bl, isC_int, isC_str, isC_tup, isC_lst, ex_ins2, beq_self_eq_true, Bool.not_eq_eq_eq_not, decide_true, decide_false, okN_bl, okN_int, okN_non, exists_and_left, and_assoc, List.cons.injEq, dListRg1, dListRg2, pick, List.filterMap_cons, List.filterMap_nil, List.set_cons_zero, List.set_cons_succ, List.getElem?_cons_zero, List.getElem?_cons_succ, List.getElem?_nil, List.length_cons, List.length_nil, List.length_append, List.length_map, List.length_range, rangeD_length, enumD_length, List.cons_append, List.nil_append, forall_const, true_implies, false_implies, reduceCtorEq, Bool.not_true, Bool.not_false, and_true, true_and, decide_eq_true_eq, decide_eq_false_iff_not, MH.put_same, if_true, if_false, not_true_eq_false, not_false_eq_true, exists_eq_left, exists_eq_left', Option.some.injEq, MO.lst.injEq, MH.put_put, at_0, at_1, at_2, at_3, Int.ofNat_lt, Int.ofNat_le, ix_30, ix_31, ix_32, Nat.zero_add, Int.zero_add, Nat.reduceAdd, D.lst.injEq, lenOk, Nat.reduceLeDiff, rowD_inj, strs_inj, ints_inj, ex_ins, tyNm, ts_NoneType_bool, ts_NoneType_int, ts_NoneType_str, ts_NoneType_tuple, ts_NoneType_list, ts_bool_bool, ts_bool_int, ts_bool_str, ts_bool_tuple, ts_bool_list, ts_int_bool, ts_int_int, ts_int_str, ts_int_tuple, ts_int_list, ts_str_bool, ts_str_int, ts_str_str, ts_str_tuple, ts_str_list, ts_tuple_bool, ts_tuple_int, ts_tuple_str, ts_tuple_tuple, ts_tuple_list, ts_list_bool, ts_list_int, ts_list_str, ts_list_tuple, ts_list_list, ins_row, isC_row, row_ne, Int.natCast_inj, Int.toNat_natCast, D.int.injEq, D.str.injEq, D.bl.injEq, D.tup.injEq, D.ref.injEq, D.scr.injEq]
        refine ⟨List.getElem_mem hk2, by omega, List.getElem_mem hi2, by omega, Gt.rot _, Ga.rot _, (rotL_perm _ _).trans (pa.symm.trans (rotL_perm _ _).symm), hC⟩
      · have e2 : (allR ts aim k).map D.int ++ (List.range aim.length).map (fun i => D.int ((dist (rotW ts ts[k]) (rotW aim (aim.getD i "")) : Nat) : Int)) = (allR ts aim (k + 1)).map D.int := by
          rw [allR_succ hk2, List.map_append]
          congr 1
          apply List.ext_getElem
          · simp
          · intro i h1 h2
            have hi : i < aim.length := by simpa using h1
            simp [hi]
        simp only [e2, dDk1, dicPO, eqOwnL, eqPairs, eqOne, dJoin, dMk, dstart, ends, dVar, dC, dOp, i2, ltO, leO, gtO, geO, subO, dTest, dAnd, dOr, dNot, asV, dAndV, dOrV, dNotV, dIf, dNil, dCons, dStar, dTup, dLst, dNew, seqD, lstD, datD, eqOp, neOp, addOp, mulOp, mulM, addM, divOp, modOp, powOp, isOp, isntOp, dNext, dSeq, dDrop, dRet, dRetN, dIfS, dBreak, dCont, dNever, dFrz, dgName, dgNil, dgCons, dgTup, dgSub, dAsg, dSet, dPar, dAugI, dSeqI, dRng1, dRng2, dEnum, dFor, dLast, dLink, dCh, dYes, dLc, dCall, dCall0, dFld, dMeth, dMeth0, dFrzO, frzO, dCB, ob1, ob2, oI, ii2, lenO, intO, sumO, intsO, blsO, strsO, reprO, absO, maxO, minO, dmO, tupO, lstO, lstMO, maxLO, minLO, anyO, allO, strIO, srtSO, srtO, srtIO, numsD_lst, numsD_tup, nats_inj, nats_len, stepD_inj, nc0, nc1, nc2, nc3, nc4, nc5, nc6, nc7, nc8, nc9, nc10, nc11, nc12, nc13, nc14, nc15, nc16, nc17, nc18, nc19, nc20, appendM, popM, extendM, insertM, indexM, indexTM, updateM, dBMT, dBMT.tupT, dinOp, dgetOp, dGet2, dsPut, dNewK, dDc, dPar3, dNeg, dkO_inj, dkO_ne, dkO_ne2, lenM_dk, keyD_int, keyD_str, dic_dk, dicA_dk, moTy_dk, moTy_lst, moTy_none, dIsi, inOp, ixOp, dSl, slOp, dRev, dBM, dBM0, refL, tyD, lenM_lst, dNoP, dPart, dCallN, dMake, dProp, eqOwn, neOwn, lenOwn, strOwn, dIsO, dMethN, dsFld, dRevT, dStrI, insD_obj, insD_ref, isC_obj, isC_ref, isC_non, isC_bl, isC_int, isC_str, isC_tup, isC_lst, ex_ins2, beq_self_eq_true, Bool.not_eq_eq_eq_not, decide_true, decide_false, okN_bl, okN_int, okN_non, exists_and_left, and_assoc, List.cons.injEq, dListRg1, dListRg2, pick, List.filterMap_cons, List.filterMap_nil, List.set_cons_zero, List.set_cons_succ, List.getElem?_cons_zero, List.getElem?_cons_succ, List.getElem?_nil, List.length_cons, List.length_nil, List.length_append, List.length_map, List.length_range, rangeD_length, enumD_length, List.cons_append, List.nil_append, forall_const, true_implies, false_implies, reduceCtorEq, Bool.not_true, Bool.not_false, and_true, true_and, decide_eq_true_eq, decide_eq_false_iff_not, MH.put_same, if_true, if_false, not_true_eq_false, not_false_eq_true, exists_eq_left, exists_eq_left', Option.some.injEq, MO.lst.injEq, MH.put_put, at_0, at_1, at_2, at_3, Int.ofNat_lt, Int.ofNat_le, ix_30, ix_31, ix_32, Nat.zero_add, Int.zero_add, Nat.reduceAdd, D.lst.injEq, lenOk, Nat.reduceLeDiff, rowD_inj, strs_inj, ints_inj, ex_ins, tyNm, ts_NoneType_bool, ts_NoneType_int, ts_NoneType_str, ts_NoneType_tuple, ts_NoneType_list, ts_bool_bool, ts_bool_int, ts_bool_str, ts_bool_tuple, ts_bool_list, ts_int_bool, ts_int_int, ts_int_str, ts_int_tuple, ts_int_list, ts_str_bool, ts_str_int, ts_str_str, ts_str_tuple, ts_str_list, ts_tuple_bool, ts_tuple_int, ts_tuple_str, ts_tuple_tuple, ts_tuple_list, ts_list_bool, ts_list_int, ts_list_str, ts_list_tuple, ts_list_list, ins_row, isC_row, row_ne, Int.natCast_inj, Int.toNat_natCast, D.int.injEq, D.str.injEq, D.bl.injEq, D.tup.injEq, D.ref.injEq, D.scr.injEq]
        have hl := allR_len (ws := ts) (vs := aim) k (by omega)
        have hm := Nat.mul_le_mul (show k ≤ 40 by omega) (show aim.length ≤ 40 by omega)
        omega
  simp only [d_law_right, dDk1, dicPO, eqOwnL, eqPairs, eqOne, dJoin, dMk, dstart, ends, dVar, dC, dOp, i2, ltO, leO, gtO, geO, subO, dTest, dAnd, dOr, dNot, asV, dAndV, dOrV, dNotV, dIf, dNil, dCons, dStar, dTup, dLst, dNew, seqD, lstD, datD, eqOp, neOp, addOp, mulOp, mulM, addM, divOp, modOp, powOp, isOp, isntOp, dNext, dSeq, dDrop, dRet, dRetN, dIfS, dBreak, dCont, dNever, dFrz, dgName, dgNil, dgCons, dgTup, dgSub, dAsg, dSet, dPar, dAugI, dSeqI, dRng1, dRng2, dEnum, dFor, dLast, dLink, dCh, dYes, dLc, dCall, dCall0, dFld, dMeth, dMeth0, dFrzO, frzO, dCB, ob1, ob2, oI, ii2, lenO, intO, sumO, intsO, blsO, strsO, reprO, absO, maxO, minO, dmO, tupO, lstO, lstMO, maxLO, minLO, anyO, allO, strIO, srtSO, srtO, srtIO, numsD_lst, numsD_tup, nats_inj, nats_len, stepD_inj, nc0, nc1, nc2, nc3, nc4, nc5, nc6, nc7, nc8, nc9, nc10, nc11, nc12, nc13, nc14, nc15, nc16, nc17, nc18, nc19, nc20, appendM, popM, extendM, insertM, indexM, indexTM, updateM, dBMT, dBMT.tupT, dinOp, dgetOp, dGet2, dsPut, dNewK, dDc, dPar3, dNeg, dkO_inj, dkO_ne, dkO_ne2, lenM_dk, keyD_int, keyD_str, dic_dk, dicA_dk, moTy_dk, moTy_lst, moTy_none, dIsi, inOp, ixOp, dSl, slOp, dRev, dBM, dBM0, refL, tyD, lenM_lst, dNoP, dPart, dCallN, dMake, dProp, eqOwn, neOwn, lenOwn, strOwn, dIsO, dMethN, dsFld, dRevT, dStrI, insD_obj, insD_ref, isC_obj, isC_ref, isC_non, isC_bl, isC_int, isC_str, isC_tup, isC_lst, ex_ins2, beq_self_eq_true, Bool.not_eq_eq_eq_not, decide_true, decide_false, okN_bl, okN_int, okN_non, exists_and_left, and_assoc, List.cons.injEq, dListRg1, dListRg2, pick, List.filterMap_cons, List.filterMap_nil, List.set_cons_zero, List.set_cons_succ, List.getElem?_cons_zero, List.getElem?_cons_succ, List.getElem?_nil, List.length_cons, List.length_nil, List.length_append, List.length_map, List.length_range, rangeD_length, enumD_length, List.cons_append, List.nil_append, forall_const, true_implies, false_implies, reduceCtorEq, Bool.not_true, Bool.not_false, and_true, true_and, decide_eq_true_eq, decide_eq_false_iff_not, MH.put_same, if_true, if_false, not_true_eq_false, not_false_eq_true, exists_eq_left, exists_eq_left', Option.some.injEq, MO.lst.injEq, MH.put_put, at_0, at_1, at_2, at_3, Int.ofNat_lt, Int.ofNat_le, ix_30, ix_31, ix_32, Nat.zero_add, Int.zero_add, Nat.reduceAdd, D.lst.injEq, lenOk, Nat.reduceLeDiff, rowD_inj, strs_inj, ints_inj, ex_ins, tyNm, ts_NoneType_bool, ts_NoneType_int, ts_NoneType_str, ts_NoneType_tuple, ts_NoneType_list, ts_bool_bool, ts_bool_int, ts_bool_str, ts_bool_tuple, ts_bool_list, ts_int_bool, ts_int_int, ts_int_str, ts_int_tuple, ts_int_list, ts_str_bool, ts_str_int, ts_str_str, ts_str_tuple, ts_str_list, ts_tuple_bool, ts_tuple_int, ts_tuple_str, ts_tuple_tuple, ts_tuple_list, ts_list_bool, ts_list_int, ts_list_str, ts_list_tuple, ts_list_list, ins_row, isC_row, row_ne, Int.natCast_inj, Int.toNat_natCast, D.int.injEq, D.str.injEq, D.bl.injEq, D.tup.injEq, D.ref.injEq, D.scr.injEq]
  repeat (refine And.intro (by first | omega | (with_reducible assumption) | decide | exact okN_tupS (by assumption)) ?_)
  refine for_range (fun k σ M' => ∃ s1 s2 s3 s4 s5 s6 s7 s8 s9 s10 s11 o, σ = [some (.ref b), s1, s2, s3, s4, s5, s6, s7, s8, s9, s10, s11] ∧ BagOk o ∧ M' = M.put b o) ⟨_, _, _, _, _, _, _, _, _, _, _, o0, rfl, ho0, by rw [MH.put_self hb]⟩ ?_ ?_
  · rintro σ M' ⟨s1, s2, s3, s4, s5, s6, s7, s8, s9, s10, s11, o, rfl, ho, rfl⟩
    simp only [d_law_right_r1, dDk1, dicPO, eqOwnL, eqPairs, eqOne, dJoin, dMk, dstart, ends, dVar, dC, dOp, i2, ltO, leO, gtO, geO, subO, dTest, dAnd, dOr, dNot, asV, dAndV, dOrV, dNotV, dIf, dNil, dCons, dStar, dTup, dLst, dNew, seqD, lstD, datD, eqOp, neOp, addOp, mulOp, mulM, addM, divOp, modOp, powOp, isOp, isntOp, dNext, dSeq, dDrop, dRet, dRetN, dIfS, dBreak, dCont, dNever, dFrz, dgName, dgNil, dgCons, dgTup, dgSub, dAsg, dSet, dPar, dAugI, dSeqI, dRng1, dRng2, dEnum, dFor, dLast, dLink, dCh, dYes, dLc, dCall, dCall0, dFld, dMeth, dMeth0, dFrzO, frzO, dCB, ob1, ob2, oI, ii2, lenO, intO, sumO, intsO, blsO, strsO, reprO, absO, maxO, minO, dmO, tupO, lstO, lstMO, maxLO, minLO, anyO, allO, strIO, srtSO, srtO, srtIO, numsD_lst, numsD_tup, nats_inj, nats_len, stepD_inj, nc0, nc1, nc2, nc3, nc4, nc5, nc6, nc7, nc8, nc9, nc10, nc11, nc12, nc13, nc14, nc15, nc16, nc17, nc18, nc19, nc20, appendM, popM, extendM, insertM, indexM, indexTM, updateM, dBMT, dBMT.tupT, dinOp, dgetOp, dGet2, dsPut, dNewK, dDc, dPar3, dNeg, dkO_inj, dkO_ne, dkO_ne2, lenM_dk, keyD_int, keyD_str, dic_dk, dicA_dk, moTy_dk, moTy_lst, moTy_none, dIsi, inOp, ixOp, dSl, slOp, dRev, dBM, dBM0, refL, tyD, lenM_lst, dNoP, dPart, dCallN, dMake, dProp, eqOwn, neOwn, lenOwn, strOwn, dIsO, dMethN, dsFld, dRevT, dStrI, insD_obj, insD_ref, isC_obj, isC_ref, isC_non, isC_bl, isC_int, isC_str, isC_tup, isC_lst, ex_ins2, beq_self_eq_true, Bool.not_eq_eq_eq_not, decide_true, decide_false, okN_bl, okN_int, okN_non, exists_and_left, and_assoc, List.cons.injEq, dListRg1, dListRg2, pick, List.filterMap_cons, List.filterMap_nil, List.set_cons_zero, List.set_cons_succ, List.getElem?_cons_zero, List.getElem?_cons_succ, List.getElem?_nil, List.length_cons, List.length_nil, List.length_append, List.length_map, List.length_range, rangeD_length, enumD_length, List.cons_append, List.nil_append, forall_const, true_implies, false_implies, reduceCtorEq, Bool.not_true, Bool.not_false, and_true, true_and, decide_eq_true_eq, decide_eq_false_iff_not, MH.put_same, if_true, if_false, not_true_eq_false, not_false_eq_true, exists_eq_left, exists_eq_left', Option.some.injEq, MO.lst.injEq, MH.put_put, at_0, at_1, at_2, at_3, Int.ofNat_lt, Int.ofNat_le, ix_30, ix_31, ix_32, Nat.zero_add, Int.zero_add, Nat.reduceAdd, D.lst.injEq, lenOk, Nat.reduceLeDiff, rowD_inj, strs_inj, ints_inj, ex_ins, tyNm, ts_NoneType_bool, ts_NoneType_int, ts_NoneType_str, ts_NoneType_tuple, ts_NoneType_list, ts_bool_bool, ts_bool_int, ts_bool_str, ts_bool_tuple, ts_bool_list, ts_int_bool, ts_int_int, ts_int_str, ts_int_tuple, ts_int_list, ts_str_bool, ts_str_int, ts_str_str, ts_str_tuple, ts_str_list, ts_tuple_bool, ts_tuple_int, ts_tuple_str, ts_tuple_tuple, ts_tuple_list, ts_list_bool, ts_list_int, ts_list_str, ts_list_tuple, ts_list_list, ins_row, isC_row, row_ne, Int.natCast_inj, Int.toNat_natCast, D.int.injEq, D.str.injEq, D.bl.injEq, D.tup.injEq, D.ref.injEq, D.scr.injEq]
    exact ⟨_, .refl, h o ho⟩
  · rintro k σ M' hk ⟨s1, s2, s3, s4, s5, s6, s7, s8, s9, s10, s11, o, rfl, ho, rfl⟩
    simp only [d_law_right_b1, sp_law_of, dDk1, dicPO, eqOwnL, eqPairs, eqOne, dJoin, dMk, dstart, ends, dVar, dC, dOp, i2, ltO, leO, gtO, geO, subO, dTest, dAnd, dOr, dNot, asV, dAndV, dOrV, dNotV, dIf, dNil, dCons, dStar, dTup, dLst, dNew, seqD, lstD, datD, eqOp, neOp, addOp, mulOp, mulM, addM, divOp, modOp, powOp, isOp, isntOp, dNext, dSeq, dDrop, dRet, dRetN, dIfS, dBreak, dCont, dNever, dFrz, dgName, dgNil, dgCons, dgTup, dgSub, dAsg, dSet, dPar, dAugI, dSeqI, dRng1, dRng2, dEnum, dFor, dLast, dLink, dCh, dYes, dLc, dCall, dCall0, dFld, dMeth, dMeth0, dFrzO, frzO, dCB, ob1, ob2, oI, ii2, lenO, intO, sumO, intsO, blsO, strsO, reprO, absO, maxO, minO, dmO, tupO, lstO, lstMO, maxLO, minLO, anyO, allO, strIO, srtSO, srtO, srtIO, numsD_lst, numsD_tup, nats_inj, nats_len, stepD_inj, nc0, nc1, nc2, nc3, nc4, nc5, nc6, nc7, nc8, nc9, nc10, nc11, nc12, nc13, nc14, nc15, nc16, nc17, nc18, nc19, nc20, appendM, popM, extendM, insertM, indexM, indexTM, updateM, dBMT, dBMT.tupT, dinOp, dgetOp, dGet2, dsPut, dNewK, dDc, dPar3, dNeg, dkO_inj, dkO_ne, dkO_ne2, lenM_dk, keyD_int, keyD_str, dic_dk, dicA_dk, moTy_dk, moTy_lst, moTy_none, dIsi, inOp, ixOp, dSl, slOp, dRev, dBM, dBM0, refL, tyD, lenM_lst, dNoP, dPart, dCallN, dMake, dProp, eqOwn, neOwn, lenOwn, strOwn, dIsO, dMethN, dsFld, dRevT, dStrI, insD_obj, insD_ref, isC_obj, isC_ref, isC_non, isC_bl, isC_int, isC_str, isC_tup, isC_lst, ex_ins2, beq_self_eq_true, Bool.not_eq_eq_eq_not, decide_true, decide_false, okN_bl, okN_int, okN_non, exists_and_left, and_assoc, List.cons.injEq, dListRg1, dListRg2, pick, List.filterMap_cons, List.filterMap_nil, List.set_cons_zero, List.set_cons_succ, List.getElem?_cons_zero, List.getElem?_cons_succ, List.getElem?_nil, List.length_cons, List.length_nil, List.length_append, List.length_map, List.length_range, rangeD_length, enumD_length, List.cons_append, List.nil_append, forall_const, true_implies, false_implies, reduceCtorEq, Bool.not_true, Bool.not_false, and_true, true_and, decide_eq_true_eq, decide_eq_false_iff_not, MH.put_same, if_true, if_false, not_true_eq_false, not_false_eq_true, exists_eq_left, exists_eq_left', Option.some.injEq, MO.lst.injEq, MH.put_put, at_0, at_1, at_2, at_3, Int.ofNat_lt, Int.ofNat_le, ix_30, ix_31, ix_32, Nat.zero_add, Int.zero_add, Nat.reduceAdd, D.lst.injEq, lenOk, Nat.reduceLeDiff, rowD_inj, strs_inj, ints_inj, ex_ins, tyNm, ts_NoneType_bool, ts_NoneType_int, ts_NoneType_str, ts_NoneType_tuple, ts_NoneType_list, ts_bool_bool, ts_bool_int, ts_bool_str, ts_bool_tuple, ts_bool_list, ts_int_bool, ts_int_int, ts_int_str, ts_int_tuple, ts_int_list, ts_str_bool, ts_str_int, ts_str_str, ts_str_tuple, ts_str_list, ts_tuple_bool, ts_tuple_int, ts_tuple_str, ts_tuple_tuple, ts_tuple_list, ts_list_bool, ts_list_int, ts_list_str, ts_list_tuple, ts_list_list, ins_row, isC_row, row_ne, Int.natCast_inj, Int.toNat_natCast, D.int.injEq, D.str.injEq, D.bl.injEq, D.tup.injEq, D.ref.injEq, D.scr.injEq]
    refine ⟨_, .inl rfl, ho, by simp, by simp, fun x hx o4 ho4 => ?_⟩
    obtain ⟨n, rfl, n1, n2⟩ : ∃ n : Nat, x = D.int n ∧ 1 ≤ n ∧ n ≤ 9 := by
      simp only [List.mem_cons, List.not_mem_nil, or_false] at hx
      rcases hx with rfl | rfl | rfl | rfl | rfl | rfl | rfl
      · exact ⟨1, rfl, by decide, by decide⟩
      · exact ⟨2, rfl, by decide, by decide⟩
      · exact ⟨3, rfl, by decide, by decide⟩
      · exact ⟨4, rfl, by decide, by decide⟩
      · exact ⟨5, rfl, by decide, by decide⟩
      · exact ⟨7, rfl, by decide, by decide⟩
      · exact ⟨9, rfl, by decide, by decide⟩
    simp only [sp_law_line, sp_law_mixed, dDk1, dicPO, eqOwnL, eqPairs, eqOne, dJoin, dMk, dstart, ends, dVar, dC, dOp, i2, ltO, leO, gtO, geO, subO, dTest, dAnd, dOr, dNot, asV, dAndV, dOrV, dNotV, dIf, dNil, dCons, dStar, dTup, dLst, dNew, seqD, lstD, datD, eqOp, neOp, addOp, mulOp, mulM, addM, divOp, modOp, powOp, isOp, isntOp, dNext, dSeq, dDrop, dRet, dRetN, dIfS, dBreak, dCont, dNever, dFrz, dgName, dgNil, dgCons, dgTup, dgSub, dAsg, dSet, dPar, dAugI, dSeqI, dRng1, dRng2, dEnum, dFor, dLast, dLink, dCh, dYes, dLc, dCall, dCall0, dFld, dMeth, dMeth0, dFrzO, frzO, dCB, ob1, ob2, oI, ii2, lenO, intO, sumO, intsO, blsO, strsO, reprO, absO, maxO, minO, dmO, tupO, lstO, lstMO, maxLO, minLO, anyO, allO, strIO, srtSO, srtO, srtIO, numsD_lst, numsD_tup, nats_inj, nats_len, stepD_inj, nc0, nc1, nc2, nc3, nc4, nc5, nc6, nc7, nc8, nc9, nc10, nc11, nc12, nc13, nc14, nc15, nc16, nc17, nc18, nc19, nc20, appendM, popM, extendM, insertM, indexM, indexTM, updateM, dBMT, dBMT.tupT, dinOp, dgetOp, dGet2, dsPut, dNewK, dDc, dPar3, dNeg, dkO_inj, dkO_ne, dkO_ne2, lenM_dk, keyD_int, keyD_str, dic_dk, dicA_dk, moTy_dk, moTy_lst, moTy_none, dIsi, inOp, ixOp, dSl, slOp, dRev, dBM, dBM0, refL, tyD, lenM_lst, dNoP, dPart, dCallN, dMake, dProp, eqOwn, neOwn, lenOwn, strOwn, dIsO, dMethN, dsFld, dRevT, dStrI, insD_obj, insD_ref, isC_obj, isC_ref, isC_non, isC_bl, isC_int, isC_str, isC_tup, isC_lst, ex_ins2, beq_self_eq_true, Bool.not_eq_eq_eq_not, decide_true, decide_false, okN_bl, okN_int, okN_non, exists_and_left, and_assoc, List.cons.injEq, dListRg1, dListRg2, pick, List.filterMap_cons, List.filterMap_nil, List.set_cons_zero, List.set_cons_succ, List.getElem?_cons_zero, List.getElem?_cons_succ, List.getElem?_nil, List.length_cons, List.length_nil, List.length_append, List.length_map, List.length_range, rangeD_length, enumD_length, List.cons_append, List.nil_append, forall_const, true_implies, false_implies, reduceCtorEq, Bool.not_true, Bool.not_false, and_true, true_and, decide_eq_true_eq, decide_eq_false_iff_not, MH.put_same, if_true, if_false, not_true_eq_false, not_false_eq_true, exists_eq_left, exists_eq_left', Option.some.injEq, MO.lst.injEq, MH.put_put, at_0, at_1, at_2, at_3, Int.ofNat_lt, Int.ofNat_le, ix_30, ix_31, ix_32, Nat.zero_add, Int.zero_add, Nat.reduceAdd, D.lst.injEq, lenOk, Nat.reduceLeDiff, rowD_inj, strs_inj, ints_inj, ex_ins, tyNm, ts_NoneType_bool, ts_NoneType_int, ts_NoneType_str, ts_NoneType_tuple, ts_NoneType_list, ts_bool_bool, ts_bool_int, ts_bool_str, ts_bool_tuple, ts_bool_list, ts_int_bool, ts_int_int, ts_int_str, ts_int_tuple, ts_int_list, ts_str_bool, ts_str_int, ts_str_str, ts_str_tuple, ts_str_list, ts_tuple_bool, ts_tuple_int, ts_tuple_str, ts_tuple_tuple, ts_tuple_list, ts_list_bool, ts_list_int, ts_list_str, ts_list_tuple, ts_list_list, ins_row, isC_row, row_ne, Int.natCast_inj, Int.toNat_natCast, D.int.injEq, D.str.injEq, D.bl.injEq, D.tup.injEq, D.ref.injEq, D.scr.injEq]
    refine ⟨ho4, by omega, by omega, fun vs o5 lv Gv ho5 => ⟨ho5, by omega, fun zs o6 pz ho6 => ?_⟩⟩
    obtain ⟨ts, rfl, pt⟩ := perm_map_inv pz rfl
    have Gt := Gv.perm pt
    have lt := pt.length_eq
    clear pz hx
    refine ⟨ho6, by rw [List.length_map]; omega, fun zs2 o7 pz2 ho7 => ?_⟩
    obtain ⟨aim, rfl, pa⟩ := perm_map_inv pz2 rfl
    clear pz2
    have Ga := Gt.perm pa
    simp only [sp_law_take, dDk1, dicPO, eqOwnL, eqPairs, eqOne, dJoin, dMk, dstart, ends, dVar, dC, dOp, i2, ltO, leO, gtO, geO, subO, dTest, dAnd, dOr, dNot, asV, dAndV, dOrV, dNotV, dIf, dNil, dCons, dStar, dTup, dLst, dNew, seqD, lstD, datD, eqOp, neOp, addOp, mulOp, mulM, addM, divOp, modOp, powOp, isOp, isntOp, dNext, dSeq, dDrop, dRet, dRetN, dIfS, dBreak, dCont, dNever, dFrz, dgName, dgNil, dgCons, dgTup, dgSub, dAsg, dSet, dPar, dAugI, dSeqI, dRng1, dRng2, dEnum, dFor, dLast, dLink, dCh, dYes, dLc, dCall, dCall0, dFld, dMeth, dMeth0, dFrzO, frzO, dCB, ob1, ob2, oI, ii2, lenO, intO, sumO, intsO, blsO, strsO, reprO, absO, maxO, minO, dmO, tupO, lstO, lstMO, maxLO, minLO, anyO, allO, strIO, srtSO, srtO, srtIO, numsD_lst, numsD_tup, nats_inj, nats_len, stepD_inj, nc0, nc1, nc2, nc3, nc4, nc5, nc6, nc7, nc8, nc9, nc10, nc11, nc12, nc13, nc14, nc15, nc16, nc17, nc18, nc19, nc20, appendM, popM, extendM, insertM, indexM, indexTM, updateM, dBMT, dBMT.tupT, dinOp, dgetOp, dGet2, dsPut, dNewK, dDc, dPar3, dNeg, dkO_inj, dkO_ne, dkO_ne2, lenM_dk, keyD_int, keyD_str, dic_dk, dicA_dk, moTy_dk, moTy_lst, moTy_none, dIsi, inOp, ixOp, dSl, slOp, dRev, dBM, dBM0, refL, tyD, lenM_lst, dNoP, dPart, dCallN, dMake, dProp, eqOwn, neOwn, lenOwn, strOwn, dIsO, dMethN, dsFld, dRevT, dStrI, insD_obj, insD_ref, isC_obj, isC_ref, isC_non, isC_bl, isC_int, isC_str, isC_tup, isC_lst, ex_ins2, beq_self_eq_true, Bool.not_eq_eq_eq_not, decide_true, decide_false, okN_bl, okN_int, okN_non, exists_and_left, and_assoc, List.cons.injEq, dListRg1, dListRg2, pick, List.filterMap_cons, List.filterMap_nil, List.set_cons_zero, List.set_cons_succ, List.getElem?_cons_zero, List.getElem?_cons_succ, List.getElem?_nil, List.length_cons, List.length_nil, List.length_append, List.length_map, List.length_range, rangeD_length, enumD_length, List.cons_append, List.nil_append, forall_const, true_implies, false_implies, reduceCtorEq, Bool.not_true, Bool.not_false, and_true, true_and, decide_eq_true_eq, decide_eq_false_iff_not, MH.put_same, if_true, if_false, not_true_eq_false, not_false_eq_true, exists_eq_left, exists_eq_left', Option.some.injEq, MO.lst.injEq, MH.put_put, at_0, at_1, at_2, at_3, Int.ofNat_lt, Int.ofNat_le, ix_30, ix_31, ix_32, Nat.zero_add, Int.zero_add, Nat.reduceAdd, D.lst.injEq, lenOk, Nat.reduceLeDiff, rowD_inj, strs_inj, ints_inj, ex_ins, tyNm, ts_NoneType_bool, ts_NoneType_int, ts_NoneType_str, ts_NoneType_tuple, ts_NoneType_list, ts_bool_bool, ts_bool_int, ts_bool_str, ts_bool_tuple, ts_bool_list, ts_int_bool, ts_int_int, ts_int_str, ts_int_tuple, ts_int_list, ts_str_bool, ts_str_int, ts_str_str, ts_str_tuple, ts_str_list, ts_tuple_bool, ts_tuple_int, ts_tuple_str, ts_tuple_tuple, ts_tuple_list, ts_list_bool, ts_list_int, ts_list_str, ts_list_tuple, ts_list_list, ins_row, isC_row, row_ne, Int.natCast_inj, Int.toNat_natCast, D.int.injEq, D.str.injEq, D.bl.injEq, D.tup.injEq, D.ref.injEq, D.scr.injEq]
    refine ⟨ho7, by decide, by decide, fun j o8 hj ho8 => ⟨fun hz => ?_, fun _ => ?_⟩⟩
    · refine ⟨_, .inr rfl, ho8, by rw [List.length_map]; omega, by rw [List.length_map]; omega, fun y hy o9 ho9 => ?_⟩
      obtain ⟨w, hw, rfl⟩ := List.mem_map.mp hy
      simp only [sp_law_from, dDk1, dicPO, eqOwnL, eqPairs, eqOne, dJoin, dMk, dstart, ends, dVar, dC, dOp, i2, ltO, leO, gtO, geO, subO, dTest, dAnd, dOr, dNot, asV, dAndV, dOrV, dNotV, dIf, dNil, dCons, dStar, dTup, dLst, dNew, seqD, lstD, datD, eqOp, neOp, addOp, mulOp, mulM, addM, divOp, modOp, powOp, isOp, isntOp, dNext, dSeq, dDrop, dRet, dRetN, dIfS, dBreak, dCont, dNever, dFrz, dgName, dgNil, dgCons, dgTup, dgSub, dAsg, dSet, dPar, dAugI, dSeqI, dRng1, dRng2, dEnum, dFor, dLast, dLink, dCh, dYes, dLc, dCall, dCall0, dFld, dMeth, dMeth0, dFrzO, frzO, dCB, ob1, ob2, oI, ii2, lenO, intO, sumO, intsO, blsO, strsO, reprO, absO, maxO, minO, dmO, tupO, lstO, lstMO, maxLO, minLO, anyO, allO, strIO, srtSO, srtO, srtIO, numsD_lst, numsD_tup, nats_inj, nats_len, stepD_inj, nc0, nc1, nc2, nc3, nc4, nc5, nc6, nc7, nc8, nc9, nc10, nc11, nc12, nc13, nc14, nc15, nc16, nc17, nc18, nc19, nc20, appendM, popM, extendM, insertM, indexM, indexTM, updateM, dBMT, dBMT.tupT, dinOp, dgetOp, dGet2, dsPut, dNewK, dDc, dPar3, dNeg, dkO_inj, dkO_ne, dkO_ne2, lenM_dk, keyD_int, keyD_str, dic_dk, dicA_dk, moTy_dk, moTy_lst, moTy_none, dIsi, inOp, ixOp, dSl, slOp, dRev, dBM, dBM0, refL, tyD, lenM_lst, dNoP, dPart, dCallN, dMake, dProp, eqOwn, neOwn, lenOwn, strOwn, dIsO, dMethN, dsFld, dRevT, dStrI, insD_obj, insD_ref, isC_obj, isC_ref, isC_non, isC_bl, isC_int, isC_str, isC_tup, isC_lst, ex_ins2, beq_self_eq_true, Bool.not_eq_eq_eq_not, decide_true, decide_false, okN_bl, okN_int, okN_non, exists_and_left, and_assoc, List.cons.injEq, dListRg1, dListRg2, pick, List.filterMap_cons, List.filterMap_nil, List.set_cons_zero, List.set_cons_succ, List.getElem?_cons_zero, List.getElem?_cons_succ, List.getElem?_nil, List.length_cons, List.length_nil, List.length_append, List.length_map, List.length_range, rangeD_length, enumD_length, List.cons_append, List.nil_append, forall_const, true_implies, false_implies, reduceCtorEq, Bool.not_true, Bool.not_false, and_true, true_and, decide_eq_true_eq, decide_eq_false_iff_not, MH.put_same, if_true, if_false, not_true_eq_false, not_false_eq_true, exists_eq_left, exists_eq_left', Option.some.injEq, MO.lst.injEq, MH.put_put, at_0, at_1, at_2, at_3, Int.ofNat_lt, Int.ofNat_le, ix_30, ix_31, ix_32, Nat.zero_add, Int.zero_add, Nat.reduceAdd, D.lst.injEq, lenOk, Nat.reduceLeDiff, rowD_inj, strs_inj, ints_inj, ex_ins, tyNm, ts_NoneType_bool, ts_NoneType_int, ts_NoneType_str, ts_NoneType_tuple, ts_NoneType_list, ts_bool_bool, ts_bool_int, ts_bool_str, ts_bool_tuple, ts_bool_list, ts_int_bool, ts_int_int, ts_int_str, ts_int_tuple, ts_int_list, ts_str_bool, ts_str_int, ts_str_str, ts_str_tuple, ts_str_list, ts_tuple_bool, ts_tuple_int, ts_tuple_str, ts_tuple_tuple, ts_tuple_list, ts_list_bool, ts_list_int, ts_list_str, ts_list_tuple, ts_list_list, ins_row, isC_row, row_ne, Int.natCast_inj, Int.toNat_natCast, D.int.injEq, D.str.injEq, D.bl.injEq, D.tup.injEq, D.ref.injEq, D.scr.injEq]
      refine ⟨hw, by omega, ?_⟩
      have pr : (rotW ts w).Perm ts := rotL_perm _ _
      exact fin ts _ _ _ _ _ _ _ _ _ _ _ _ Gt (Gt.rot _) pr ho9 fun _ _ _ _ _ _ _ _ _ _ _ o ho => ⟨_, _, _, _, _, _, _, _, _, _, _, rfl, o, ho, rfl⟩
    · exact fin ts _ _ _ _ _ _ _ _ _ _ _ _ Gt Ga pa ho8 fun _ _ _ _ _ _ _ _ _ _ _ o ho => ⟨_, _, _, _, _, _, _, _, _, _, _, rfl, o, ho, rfl⟩

theorem ok_law_right (T : Txt ⟨P, w, K, mg, base⟩) : Cal ⟨P, w, K, mg, base⟩ "_law_right" 7 ["_law_bag_here"] sp_law_right := cal_mk T.t_law_right F_law_right (r_law_right T) pl_law_right
def sp_law_bag : DSp := fun ds M Q _ => match ds with
  | [.scr ns, .int t] => 0 ≤ t ∧ t < 100 ∧ ns.length ≤ 63 ∧ ∀ (p : Addr) o, M p = none → BagOk o → Q (.ref p) (M.put p o)
  | _ => False

def d_law_bag_b1 : DS :=
  (dSet 2 (dOp modOp (dCB (ob1 intO) (dCons (dOp addOp (dOp mulOp (dVar 2) (dC (.int 37))) (dVar 3)) dNil)) (dC (.int 2147483587))))
def d_law_bag_r1 : DS :=
  (dRet (dNew (dCons (dOp modOp (dCB (ob1 intO) (dCons (dVar 2) dNil)) (dC (.int 2147483587))) (dCons (dIf (dOr (dTest (dOp ltO (dVar 2) (dC (.int 0)))) (dTest (dOp geO (dVar 2) (dOp powOp (dC (.int 10)) (dC (.int 18)))))) (dCB (ob1 absO) (dCons (dVar 2) dNil)) (dC (.int 0))) (dCons (dC (.int 0)) dNil)))))
def d_law_bag : DS :=
  (dSeq (dSet 2 (dIf (dTest (dOp ltO (dVar 1) (dCB (ob1 lenO) (dCons (dVar 0) dNil)))) (dOp ixOp (dVar 0) (dVar 1)) (dOp addOp (dOp mulOp (dC (.int 6151)) (dVar 1)) (dC (.int 98317)))))
    (dSeq (dFor (dSeqI (dIf (dTest (dOp geO (dVar 1) (dCB (ob1 lenO) (dCons (dVar 0) dNil)))) (dSl (dVar 0) dNoP (dPart (dC (.int 3)))) (dLst dNil))) (dgName 3) d_law_bag_b1)
    d_law_bag_r1))
theorem st_law_bag (v0 v1 : D) : dstart N_law_bag [v0, v1] = [some v0, some v1, none, none] := rfl
theorem r_law_bag (T : Txt ⟨P, w, K, mg, base⟩) : DPSs ⟨P, w, K, mg, base⟩ (Sx.fn N_law_bag (defScope s_law_bag) 0) (defBody s_law_bag) d_law_bag :=
  (dpss_cons (dps_set L_law_bag 2 (dp_if (dpt_cmp (fun _ ft => opD_lt ft) (dp_var S_law_bag 1) (dp_callB S_law_bag T.z_len (fun X ft => cb_len) boot_len (dpa_cons (dp_var S_law_bag 0) dpa_nil)) (by with_unfolding_all rfl)) (dp_ix (dp_var S_law_bag 0) (dp_var S_law_bag 1)) (dp_bin (fun _ ft => opD_add ft) (dp_bin (fun _ ft => opD_mul ft) dp_int (dp_var S_law_bag 1)) dp_int)))
    (by exact (dpss_cons (dps_for (dpi_seq (dp_if (dpt_cmp (fun _ ft => opD_ge ft) (dp_var S_law_bag 1) (dp_callB S_law_bag T.z_len (fun X ft => cb_len) boot_len (dpa_cons (dp_var S_law_bag 0) dpa_nil)) (by with_unfolding_all rfl)) (dp_slice (dp_var S_law_bag 0) dpo_none (dpo_some dp_int)) (dp_lst dpa_nil))) (dpg_name L_law_bag 3) (dpss_one (dps_set L_law_bag 2 (dp_bin (fun _ ft => opD_mod ft) (dp_callT S_law_bag T.z_int (fun X ft => cb_int) boot_int (dpa_cons (dp_bin (fun _ ft => opD_add ft) (dp_bin (fun _ ft => opD_mul ft) (dp_var S_law_bag 2) dp_int) (dp_var S_law_bag 3)) dpa_nil)) dp_int))))
    (by exact (dpss_one (dps_ret (dp_new (dpa_cons (dp_bin (fun _ ft => opD_mod ft) (dp_callT S_law_bag T.z_int (fun X ft => cb_int) boot_int (dpa_cons (dp_var S_law_bag 2) dpa_nil)) dp_int) (by exact (dpa_cons (dp_if (DPW.pt (dpw_or (dpt_cmp (fun _ ft => opD_lt ft) (dp_var S_law_bag 2) dp_int (by with_unfolding_all rfl)) (dpw_or1 (dpt_cmp (fun _ ft => opD_ge ft) (dp_var S_law_bag 2) (dp_bin (fun _ ft => opD_pow ft) dp_int dp_int) (by with_unfolding_all rfl))))) (dp_callB S_law_bag T.z_abs (fun X ft => cb_abs) boot_abs (dpa_cons (dp_var S_law_bag 2) dpa_nil)) dp_int) (by exact (dpa_cons dp_int dpa_nil))))))))))))
theorem pl_law_bag (ds : List D) (M : MH) (Q : DQ) (E : Er → MH → Prop) (hl : ds.length = 2) (h : sp_law_bag ds M Q E) : d_law_bag (ends Q) (fun er _ M => E er M) (dstart N_law_bag ds) M := by
  unfold sp_law_bag at h
  split at h
  case h_2 => exact h.elim
  rename_i ns t
  rw [st_law_bag]
  obtain ⟨h0, h1, h2, h⟩ := h
  simp only [d_law_bag, dDk1, dicPO, eqOwnL, eqPairs, eqOne, dJoin, dMk, dstart, ends, dVar, dC, dOp, i2, ltO, leO, gtO, geO, subO, dTest, dAnd, dOr, dNot, asV, dAndV, dOrV, dNotV, dIf, dNil, dCons, dStar, dTup, dLst, dNew, seqD, lstD, datD, eqOp, neOp, addOp, mulOp, mulM, addM, divOp, modOp, powOp, isOp, isntOp, dNext, dSeq, dDrop, dRet, dRetN, dIfS, dBreak, dCont, dNever, dFrz, dgName, dgNil, dgCons, dgTup, dgSub, dAsg, dSet, dPar, dAugI, dSeqI, dRng1, dRng2, dEnum, dFor, dLast, dLink, dCh, dYes, dLc, dCall, dCall0, dFld, dMeth, dMeth0, dFrzO, frzO, dCB, ob1, ob2, oI, ii2, lenO, intO, sumO, intsO, blsO, strsO, reprO, absO, maxO, minO, dmO, tupO, lstO, lstMO, maxLO, minLO, anyO, allO, strIO, srtSO, srtO, srtIO, numsD_lst, numsD_tup, nats_inj, nats_len, stepD_inj, nc0, nc1, nc2, nc3, nc4, nc5, nc6, nc7, nc8, nc9, nc10, nc11, nc12, nc13, nc14, nc15, nc16, nc17, nc18, nc19, nc20, appendM, popM, extendM, insertM, indexM, indexTM, updateM, dBMT, dBMT.tupT, dinOp, dgetOp, dGet2, dsPut, dNewK, dDc, dPar3, dNeg, dkO_inj, dkO_ne, dkO_ne2, lenM_dk, keyD_int, keyD_str, dic_dk, dicA_dk, moTy_dk, moTy_lst, moTy_none, dIsi, inOp, ixOp, dSl, slOp, dRev, dBM, dBM0, refL, tyD, lenM_lst, dNoP, dPart, dCallN, dMake, dProp, eqOwn, neOwn, lenOwn, strOwn, dIsO, dMethN, dsFld, dRevT, dStrI, insD_obj, insD_ref, isC_obj, isC_ref, isC_non, isC_bl, isC_int, isC_str, isC_tup, isC_lst, ex_ins2, beq_self_eq_true, Bool.not_eq_eq_eq_not, decide_true, decide_false, okN_bl, okN_int, okN_non, exists_and_left, and_assoc, List.cons.injEq, dListRg1, dListRg2, pick, List.filterMap_cons, List.filterMap_nil, List.set_cons_zero, List.set_cons_succ, List.getElem?_cons_zero, List.getElem?_cons_succ, List.getElem?_nil, List.length_cons, List.length_nil, List.length_append, List.length_map, List.length_range, rangeD_length, enumD_length, List.cons_append, List.nil_append, forall_const, true_implies, false_implies, reduceCtorEq, Bool.not_true, Bool.not_false, and_true, true_and, decide_eq_true_eq, decide_eq_false_iff_not, MH.put_same, if_true, if_false, not_true_eq_false, not_false_eq_true, exists_eq_left, exists_eq_left', Option.some.injEq, MO.lst.injEq, MH.put_put, at_0, at_1, at_2, at_3, Int.ofNat_lt, Int.ofNat_le, ix_30, ix_31, ix_32, Nat.zero_add, Int.zero_add, Nat.reduceAdd, D.lst.injEq, lenOk, Nat.reduceLeDiff, rowD_inj, strs_inj, ints_inj, ex_ins, tyNm, ts_NoneType_bool, ts_NoneType_int, ts_NoneType_str, ts_NoneType_tuple, ts_NoneType_list, ts_bool_bool, ts_bool_int, ts_bool_str, ts_bool_tuple, ts_bool_list, ts_int_bool, ts_int_int, ts_int_str, ts_int_tuple, ts_int_list, ts_str_bool, ts_str_int, ts_str_str, ts_str_tuple, ts_str_list, ts_tuple_bool, ts_tuple_int, ts_tuple_str, ts_tuple_tuple, ts_tuple_list, ts_list_bool, ts_list_int, ts_list_str, ts_list_tuple, ts_list_list, ins_row, isC_row, row_ne, Int.natCast_inj, Int.toNat_natCast, D.int.injEq, D.str.injEq, D.bl.injEq, D.tup.injEq, D.ref.injEq, D.scr.injEq]
  have ends_ok : ∀ (z : Int) (o3 : Option D), d_law_bag_r1 (ends Q) (fun er _ M => E er M) [some (.scr ns), some (.int t), some (.int z), o3] M := by
    intro z o3
    simp only [d_law_bag_r1, dDk1, dicPO, eqOwnL, eqPairs, eqOne, dJoin, dMk, dstart, ends, dVar, dC, dOp, i2, ltO, leO, gtO, geO, subO, dTest, dAnd, dOr, dNot, asV, dAndV, dOrV, dNotV, dIf, dNil, dCons, dStar, dTup, dLst, dNew, seqD, lstD, datD, eqOp, neOp, addOp, mulOp, mulM, addM, divOp, modOp, powOp, isOp, isntOp, dNext, dSeq, dDrop, dRet, dRetN, dIfS, dBreak, dCont, dNever, dFrz, dgName, dgNil, dgCons, dgTup, dgSub, dAsg, dSet, dPar, dAugI, dSeqI, dRng1, dRng2, dEnum, dFor, dLast, dLink, dCh, dYes, dLc, dCall, dCall0, dFld, dMeth, dMeth0, dFrzO, frzO, dCB, ob1, ob2, oI, ii2, lenO, intO, sumO, intsO, blsO, strsO, reprO, absO, maxO, minO, dmO, tupO, lstO, lstMO, maxLO, minLO, anyO, allO, strIO, srtSO, srtO, srtIO, numsD_lst, numsD_tup, nats_inj, nats_len, stepD_inj, nc0, nc1, nc2, nc3, nc4, nc5, nc6, nc7, nc8, nc9, nc10, nc11, nc12, nc13, nc14, nc15, nc16, nc17, nc18, nc19, nc20, appendM, popM, extendM, insertM, indexM, indexTM, updateM, dBMT, dBMT.tupT, dinOp, dgetOp, dGet2, dsPut, dNewK, dDc, dPar3, dNeg, dkO_inj, dkO_ne, dkO_ne2, lenM_dk, keyD_int, keyD_str, dic_dk, dicA_dk, moTy_dk, moTy_lst, moTy_none, dIsi, inOp, ixOp, dSl, slOp, dRev, dBM, dBM0, refL, tyD, lenM_lst, dNoP, dPart, dCallN, dMake, dProp, eqOwn, neOwn, lenOwn, strOwn, dIsO, dMethN, dsFld, dRevT, dStrI, insD_obj, insD_ref, isC_obj, isC_ref, isC_non, isC_bl, isC_int, isC_str, isC_tup, isC_lst, ex_ins2, beq_self_eq_true, Bool.not_eq_eq_eq_not, decide_true, decide_false, okN_bl, okN_int, okN_non, exists_and_left, and_assoc, List.cons.injEq, dListRg1, dListRg2, pick, List.filterMap_cons, List.filterMap_nil, List.set_cons_zero, List.set_cons_succ, List.getElem?_cons_zero, List.getElem?_cons_succ, List.getElem?_nil, List.length_cons, List.length_nil, List.length_append, List.length_map, List.length_range, rangeD_length, enumD_length, List.cons_append, List.nil_append, forall_const, true_implies, false_implies, reduceCtorEq, Bool.not_true, Bool.not_false, and_true, true_and, decide_eq_true_eq, decide_eq_false_iff_not, MH.put_same, if_true, if_false, not_true_eq_false, not_false_eq_true, exists_eq_left, exists_eq_left', Option.some.injEq, MO.lst.injEq, MH.put_put, at_0, at_1, at_2, at_3, Int.ofNat_lt, Int.ofNat_le, ix_30, ix_31, ix_32, Nat.zero_add, Int.zero_add, Nat.reduceAdd, D.lst.injEq, lenOk, Nat.reduceLeDiff, rowD_inj, strs_inj, ints_inj, ex_ins, tyNm, ts_NoneType_bool, ts_NoneType_int, ts_NoneType_str, ts_NoneType_tuple, ts_NoneType_list, ts_bool_bool, ts_bool_int, ts_bool_str, ts_bool_tuple, ts_bool_list, ts_int_bool, ts_int_int, ts_int_str, ts_int_tuple, ts_int_list, ts_str_bool, ts_str_int, ts_str_str, ts_str_tuple, ts_str_list, ts_tuple_bool, ts_tuple_int, ts_tuple_str, ts_tuple_tuple, ts_tuple_list, ts_list_bool, ts_list_int, ts_list_str, ts_list_tuple, ts_list_list, ins_row, isC_row, row_ne, Int.natCast_inj, Int.toNat_natCast, D.int.injEq, D.str.injEq, D.bl.injEq, D.tup.injEq, D.ref.injEq, D.scr.injEq]
    have m0 : 0 ≤ z % 2147483587 := Int.emod_nonneg _ (by decide)
    have m1 : z % 2147483587 < 2147483587 := Int.emod_lt_of_pos _ (by decide)
    refine ⟨by decide, fun _ p hp => ⟨_, .refl, h p _ hp ⟨_, _, _, rfl, m0, m1⟩⟩, fun _ => ⟨⟨by decide, by decide, by decide⟩, fun _ p hp => ⟨_, .refl, h p _ hp ⟨_, _, _, rfl, m0, m1⟩⟩, fun _ p hp => ⟨_, .refl, h p _ hp ⟨_, _, _, rfl, m0, m1⟩⟩⟩⟩
  refine ⟨fun ht => ?_, fun ht => ⟨cm_l (by decide), fun _ => ?_, fun _ => ?_⟩⟩
  · obtain ⟨m, rfl⟩ := Int.eq_ofNat_of_zero_le h0
    have hm : m < ns.length := by omega
    simp only [atI_map hm, dDk1, dicPO, eqOwnL, eqPairs, eqOne, dJoin, dMk, dstart, ends, dVar, dC, dOp, i2, ltO, leO, gtO, geO, subO, dTest, dAnd, dOr, dNot, asV, dAndV, dOrV, dNotV, dIf, dNil, dCons, dStar, dTup, dLst, dNew, seqD, lstD, datD, eqOp, neOp, addOp, mulOp, mulM, addM, divOp, modOp, powOp, isOp, isntOp, dNext, dSeq, dDrop, dRet, dRetN, dIfS, dBreak, dCont, dNever, dFrz, dgName, dgNil, dgCons, dgTup, dgSub, dAsg, dSet, dPar, dAugI, dSeqI, dRng1, dRng2, dEnum, dFor, dLast, dLink, dCh, dYes, dLc, dCall, dCall0, dFld, dMeth, dMeth0, dFrzO, frzO, dCB, ob1, ob2, oI, ii2, lenO, intO, sumO, intsO, blsO, strsO, reprO, absO, maxO, minO, dmO, tupO, lstO, lstMO, maxLO, minLO, anyO, allO, strIO, srtSO, srtO, srtIO, numsD_lst, numsD_tup, nats_inj, nats_len, stepD_inj, nc0, nc1, nc2, nc3, nc4, nc5, nc6, nc7, nc8, nc9, nc10, nc11, nc12, nc13, nc14, nc15, nc16, nc17, nc18, nc19, nc20, appendM, popM, extendM, insertM, indexM, indexTM, updateM, dBMT, dBMT.tupT, dinOp, dgetOp, dGet2, dsPut, dNewK, dDc, dPar3, dNeg, dkO_inj, dkO_ne, dkO_ne2, lenM_dk, keyD_int, keyD_str, dic_dk, dicA_dk, moTy_dk, moTy_lst, moTy_none, dIsi, inOp, ixOp, dSl, slOp, dRev, dBM, dBM0, refL, tyD, lenM_lst, dNoP, dPart, dCallN, dMake, dProp, eqOwn, neOwn, lenOwn, strOwn, dIsO, dMethN, dsFld, dRevT, dStrI, insD_obj, insD_ref, isC_obj, isC_ref, isC_non, isC_bl, isC_int, isC_str, isC_tup, isC_lst, ex_ins2, beq_self_eq_true, Bool.not_eq_eq_eq_not, decide_true, decide_false, okN_bl, okN_int, okN_non, exists_and_left, and_assoc, List.cons.injEq, dListRg1, dListRg2, pick, List.filterMap_cons, List.filterMap_nil, List.set_cons_zero, List.set_cons_succ, List.getElem?_cons_zero, List.getElem?_cons_succ, List.getElem?_nil, List.length_cons, List.length_nil, List.length_append, List.length_map, List.length_range, rangeD_length, enumD_length, List.cons_append, List.nil_append, forall_const, true_implies, false_implies, reduceCtorEq, Bool.not_true, Bool.not_false, and_true, true_and, decide_eq_true_eq, decide_eq_false_iff_not, MH.put_same, if_true, if_false, not_true_eq_false, not_false_eq_true, exists_eq_left, exists_eq_left', Option.some.injEq, MO.lst.injEq, MH.put_put, at_0, at_1, at_2, at_3, Int.ofNat_lt, Int.ofNat_le, ix_30, ix_31, ix_32, Nat.zero_add, Int.zero_add, Nat.reduceAdd, D.lst.injEq, lenOk, Nat.reduceLeDiff, rowD_inj, strs_inj, ints_inj, ex_ins, tyNm, ts_NoneType_bool, ts_NoneType_int, ts_NoneType_str, ts_NoneType_tuple, ts_NoneType_list, ts_bool_bool, ts_bool_int, ts_bool_str, ts_bool_tuple, ts_bool_list, ts_int_bool, ts_int_int, ts_int_str, ts_int_tuple, ts_int_list, ts_str_bool, ts_str_int, ts_str_str, ts_str_tuple, ts_str_list, ts_tuple_bool, ts_tuple_int, ts_tuple_str, ts_tuple_tuple, ts_tuple_list, ts_list_bool, ts_list_int, ts_list_str, ts_list_tuple, ts_list_list, ins_row, isC_row, row_ne, Int.natCast_inj, Int.toNat_natCast, D.int.injEq, D.str.injEq, D.bl.injEq, D.tup.injEq, D.ref.injEq, D.scr.injEq]
    refine ⟨fun _ => ?_, fun _ => ?_⟩
    all_goals refine for_list (fun k σ M' => M' = M ∧ ∃ (z : Int) (o3 : Option D), σ = [some (.scr ns), some (.int m), some (.int z), o3]) ⟨rfl, _, _, rfl⟩ ?_ ?_
    all_goals first
      | (rintro σ M' ⟨rfl, z, o3, rfl⟩; exact ends_ok z o3)
      | (rintro i σ M' hi ⟨rfl, z, o3, rfl⟩; exact absurd hi (Nat.not_lt_zero _))
      | (rintro i σ M' hi ⟨rfl, z, o3, rfl⟩; simp only [List.getElem_map, d_law_bag_b1, dDk1, dicPO, eqOwnL, eqPairs, eqOne, dJoin, dMk, dstart, ends, dVar, dC, dOp, i2, ltO, leO, gtO, geO, subO, dTest, dAnd, dOr, dNot, asV, dAndV, dOrV, dNotV, dIf, dNil, dCons, dStar, dTup, dLst, dNew, seqD, lstD, datD, eqOp, neOp, addOp, mulOp, mulM, addM, divOp, modOp, powOp, isOp, isntOp, dNext, dSeq, dDrop, dRet, dRetN, dIfS, dBreak, dCont, dNever, dFrz, dgName, dgNil, dgCons, dgTup, dgSub, dAsg, dSet, dPar, dAugI, dSeqI, dRng1, dRng2, dEnum, dFor, dLast, dLink, dCh, dYes, dLc, dCall, dCall0, dFld, dMeth, dMeth0, dFrzO, frzO, dCB, ob1, ob2, oI, ii2, lenO, intO, sumO, intsO, blsO, strsO, reprO, absO, maxO, minO, dmO, tupO, lstO, lstMO, maxLO, minLO, anyO, allO, strIO, srtSO, srtO, srtIO, numsD_lst, numsD_tup, nats_inj, nats_len, stepD_inj, nc0, nc1, nc2, nc3, nc4, nc5, nc6, nc7, nc8, nc9, nc10, nc11, nc12, nc13, nc14, nc15, nc16, nc17, nc18, nc19, nc20, appendM, popM, extendM, insertM, indexM, indexTM, updateM, dBMT, dBMT.tupT, dinOp, dgetOp, dGet2, dsPut, dNewK, dDc, dPar3, dNeg, dkO_inj, dkO_ne, dkO_ne2, lenM_dk, keyD_int, keyD_str, dic_dk, dicA_dk, moTy_dk, moTy_lst, moTy_none, dIsi, inOp, ixOp, dSl, slOp, dRev, dBM, dBM0, refL, tyD, lenM_lst, dNoP, dPart, dCallN, dMake, dProp, eqOwn, neOwn, lenOwn, strOwn, dIsO, dMethN, dsFld, dRevT, dStrI, insD_obj, insD_ref, isC_obj, isC_ref, isC_non, isC_bl, isC_int, isC_str, isC_tup, isC_lst, ex_ins2, beq_self_eq_true, Bool.not_eq_eq_eq_not, decide_true, decide_false, okN_bl, okN_int, okN_non, exists_and_left, and_assoc, List.cons.injEq, dListRg1, dListRg2, pick, List.filterMap_cons, List.filterMap_nil, List.set_cons_zero, List.set_cons_succ, List.getElem?_cons_zero, List.getElem?_cons_succ, List.getElem?_nil, List.length_cons, List.length_nil, List.length_append, List.length_map, List.length_range, rangeD_length, enumD_length, List.cons_append, List.nil_append, forall_const, true_implies, false_implies, reduceCtorEq, Bool.not_true, Bool.not_false, and_true, true_and, decide_eq_true_eq, decide_eq_false_iff_not, MH.put_same, if_true, if_false, not_true_eq_false, not_false_eq_true, exists_eq_left, exists_eq_left', Option.some.injEq, MO.lst.injEq, MH.put_put, at_0, at_1, at_2, at_3, Int.ofNat_lt, Int.ofNat_le, ix_30, ix_31, ix_32, Nat.zero_add, Int.zero_add, Nat.reduceAdd, D.lst.injEq, lenOk, Nat.reduceLeDiff, rowD_inj, strs_inj, ints_inj, ex_ins, tyNm, ts_NoneType_bool, ts_NoneType_int, ts_NoneType_str, ts_NoneType_tuple, ts_NoneType_list, ts_bool_bool, ts_bool_int, ts_bool_str, ts_bool_tuple, ts_bool_list, ts_int_bool, ts_int_int, ts_int_str, ts_int_tuple, ts_int_list, ts_str_bool, ts_str_int, ts_str_str, ts_str_tuple, ts_str_list, ts_tuple_bool, ts_tuple_int, ts_tuple_str, ts_tuple_tuple, ts_tuple_list, ts_list_bool, ts_list_int, ts_list_str, ts_list_tuple, ts_list_list, ins_row, isC_row, row_ne, Int.natCast_inj, Int.toNat_natCast, D.int.injEq, D.str.injEq, D.bl.injEq, D.tup.injEq, D.ref.injEq, D.scr.injEq]; exact ⟨cm_r (by decide), by decide, _, rfl⟩)
  all_goals refine for_list (fun k σ M' => M' = M ∧ ∃ (z : Int) (o3 : Option D), σ = [some (.scr ns), some (.int t), some (.int z), o3]) ⟨rfl, _, _, rfl⟩ ?_ ?_
  all_goals first
      | (rintro σ M' ⟨rfl, z, o3, rfl⟩; exact ends_ok z o3)
      | (rintro i σ M' hi ⟨rfl, z, o3, rfl⟩; exact absurd hi (Nat.not_lt_zero _))
      | (rintro i σ M' hi ⟨rfl, z, o3, rfl⟩; simp only [List.getElem_map, d_law_bag_b1, dDk1, dicPO, eqOwnL, eqPairs, eqOne, dJoin, dMk, dstart, ends, dVar, dC, dOp, i2, ltO, leO, gtO, geO, subO, dTest, dAnd, dOr, dNot, asV, dAndV, dOrV, dNotV, dIf, dNil, dCons, dStar, dTup, dLst, dNew, seqD, lstD, datD, eqOp, neOp, addOp, mulOp, mulM, addM, divOp, modOp, powOp, isOp, isntOp, dNext, dSeq, dDrop, dRet, dRetN, dIfS, dBreak, dCont, dNever, dFrz, dgName, dgNil, dgCons, dgTup, dgSub, dAsg, dSet, dPar, dAugI, dSeqI, dRng1, dRng2, dEnum, dFor, dLast, dLink, dCh, dYes, dLc, dCall, dCall0, dFld, dMeth, dMeth0, dFrzO, frzO, dCB, ob1, ob2, oI, ii2, lenO, intO, sumO, intsO, blsO, strsO, reprO, absO, maxO, minO, dmO, tupO, lstO, lstMO, maxLO, minLO, anyO, allO, strIO, srtSO, srtO, srtIO, numsD_lst, numsD_tup, nats_inj, nats_len, stepD_inj, nc0, nc1, nc2, nc3, nc4, nc5, nc6, nc7, nc8, nc9, nc10, nc11, nc12, nc13, nc14, nc15, nc16, nc17, nc18, nc19, nc20, appendM, popM, extendM, insertM, indexM, indexTM, updateM, dBMT, dBMT.tupT, dinOp, dgetOp, dGet2, dsPut, dNewK, dDc, dPar3, dNeg, dkO_inj, dkO_ne, dkO_ne2, lenM_dk, keyD_int, keyD_str, dic_dk, dicA_dk, moTy_dk, moTy_lst, moTy_none, dIsi, inOp, ixOp, dSl, slOp, dRev, dBM, dBM0, refL, tyD, lenM_lst, dNoP, dPart, dCallN, dMake, dProp, eqOwn, neOwn, lenOwn, strOwn, dIsO, dMethN, dsFld, dRevT, dStrI, insD_obj, insD_ref, isC_obj, isC_ref, isC_non, isC_bl, isC_int, isC_str, isC_tup, isC_lst, ex_ins2, beq_self_eq_true, Bool.not_eq_eq_eq_not, decide_true, decide_false, okN_bl, okN_int, okN_non, exists_and_left, and_assoc, List.cons.injEq, dListRg1, dListRg2, pick, List.filterMap_cons, List.filterMap_nil, List.set_cons_zero, List.set_cons_succ, List.getElem?_cons_zero, List.getElem?_cons_succ, List.getElem?_nil, List.length_cons, List.length_nil, List.length_append, List.length_map, List.length_range, rangeD_length, enumD_length, List.cons_append, List.nil_append, forall_const, true_implies, false_implies, reduceCtorEq, Bool.not_true, Bool.not_false, and_true, true_and, decide_eq_true_eq, decide_eq_false_iff_not, MH.put_same, if_true, if_false, not_true_eq_false, not_false_eq_true, exists_eq_left, exists_eq_left', Option.some.injEq, MO.lst.injEq, MH.put_put, at_0, at_1, at_2, at_3, Int.ofNat_lt, Int.ofNat_le, ix_30, ix_31, ix_32, Nat.zero_add, Int.zero_add, Nat.reduceAdd, D.lst.injEq, lenOk, Nat.reduceLeDiff, rowD_inj, strs_inj, ints_inj, ex_ins, tyNm, ts_NoneType_bool, ts_NoneType_int, ts_NoneType_str, ts_NoneType_tuple, ts_NoneType_list, ts_bool_bool, ts_bool_int, ts_bool_str, ts_bool_tuple, ts_bool_list, ts_int_bool, ts_int_int, ts_int_str, ts_int_tuple, ts_int_list, ts_str_bool, ts_str_int, ts_str_str, ts_str_tuple, ts_str_list, ts_tuple_bool, ts_tuple_int, ts_tuple_str, ts_tuple_tuple, ts_tuple_list, ts_list_bool, ts_list_int, ts_list_str, ts_list_tuple, ts_list_list, ins_row, isC_row, row_ne, Int.natCast_inj, Int.toNat_natCast, D.int.injEq, D.str.injEq, D.bl.injEq, D.tup.injEq, D.ref.injEq, D.scr.injEq]; exact ⟨cm_r (by decide), by decide, _, rfl⟩)

theorem ok_law_bag (T : Txt ⟨P, w, K, mg, base⟩) : Cal ⟨P, w, K, mg, base⟩ "_law_bag" 1 ["_law_script", "_law_spot"] sp_law_bag := cal_mk T.t_law_bag F_law_bag (r_law_bag T) pl_law_bag
def sp_law : DSp := fun ds M Q _ => match ds with
  | [.scr ns] => ns.length ≤ 63 ∧ Q (.bl true) M
  | _ => False
theorem law_want : ∀ (ns : List Int) (Q : DQ) (E : Er → MH → Prop), ns.length ≤ 63 → (∀ M, Q (.bl true) M) → sp_law [.scr ns] (fun _ => none) Q E := fun ns Q E h q => ⟨h, q _⟩

def d_law_e1 : DE :=
  (dCall 1 sp_law_right (dCons (dCall 2 sp_law_bag (dCons (dVar 0) (dCons (dVar 1) dNil))) dNil))
def d_law : DS :=
  (dRet (dCB (ob1 allO) (dCons (dLc (dRng1 (dCons (dCB (ob2 maxO) (dCons (dC (.int 2)) (dCons (dCB (ob2 minO) (dCons (dCB (ob1 lenO) (dCons (dVar 0) dNil)) (dCons (dC (.int 4)) dNil))) dNil))) dNil)) (dgName 1) dYes d_law_e1 [1]) dNil)))
theorem st_law (v0 : D) : dstart N_law [v0] = [some v0, none] := rfl
theorem r_law (T : Txt ⟨P, w, K, mg, base⟩) : DPSs ⟨P, w, K, mg, base⟩ (Sx.fn N_law (defScope s_law) 7) (defBody s_law) d_law :=
  (dpss_one (dps_ret (dp_callB S_law T.z_all (fun X ft => (cb_all ft rfl)) boot_all (dpa_cons (dp_lc [("_law_spot", 1)] (by decide +kernel) (dpi_range1 S_law T.z_range (dpa_cons (dp_callB S_law T.z_max (fun X ft => (cb_max2 ft rfl)) boot_max (dpa_cons dp_int (by exact (dpa_cons (dp_callB S_law T.z_min (fun X ft => (cb_min2 ft rfl)) boot_min (dpa_cons (dp_callB S_law T.z_len (fun X ft => cb_len) boot_len (dpa_cons (dp_var S_law 0) dpa_nil)) (by exact (dpa_cons dp_int dpa_nil)))) dpa_nil)))) dpa_nil)) (dpg_name (stOk_of (ls := [1]) (by decide +kernel)) 1) dpts_nil (dp_call (ok_law_right T) (scOk_of (vs := [1, 0]) (gs := ["_law_right", "_law_bag"]) (by decide +kernel)) (dpa_cons (dp_call (ok_law_bag T) (scOk_of (vs := [1, 0]) (gs := ["_law_right", "_law_bag"]) (by decide +kernel)) (dpa_cons (dp_var (scOk_of (vs := [1, 0]) (gs := ["_law_right", "_law_bag"]) (by decide +kernel)) 0) (by exact (dpa_cons (dp_var (scOk_of (vs := [1, 0]) (gs := ["_law_right", "_law_bag"]) (by decide +kernel)) 1) dpa_nil)))) dpa_nil))) dpa_nil))))
theorem pl_law (ds : List D) (M : MH) (Q : DQ) (E : Er → MH → Prop) (hl : ds.length = 1) (h : sp_law ds M Q E) : d_law (ends Q) (fun er _ M => E er M) (dstart N_law ds) M := by
  unfold sp_law at h
  split at h
  case h_2 => exact h.elim
  rename_i ns
  rw [st_law]
  obtain ⟨hn, h⟩ := h
  simp only [d_law, dDk1, dicPO, eqOwnL, eqPairs, eqOne, dJoin, dMk, dstart, ends, dVar, dC, dOp, i2, ltO, leO, gtO, geO, subO, dTest, dAnd, dOr, dNot, asV, dAndV, dOrV, dNotV, dIf, dNil, dCons, dStar, dTup, dLst, dNew, seqD, lstD, datD, eqOp, neOp, addOp, mulOp, mulM, addM, divOp, modOp, powOp, isOp, isntOp, dNext, dSeq, dDrop, dRet, dRetN, dIfS, dBreak, dCont, dNever, dFrz, dgName, dgNil, dgCons, dgTup, dgSub, dAsg, dSet, dPar, dAugI, dSeqI, dRng1, dRng2, dEnum, dFor, dLast, dLink, dCh, dYes, dLc, dCall, dCall0, dFld, dMeth, dMeth0, dFrzO, frzO, dCB, ob1, ob2, oI, ii2, lenO, intO, sumO, intsO, blsO, strsO, reprO, absO, maxO, minO, dmO, tupO, lstO, lstMO, maxLO, minLO, anyO, allO, strIO, srtSO, srtO, srtIO, numsD_lst, numsD_tup, nats_inj, nats_len, stepD_inj, nc0, nc1, nc2, nc3, nc4, nc5, nc6, nc7, nc8, nc9, nc10, nc11, nc12, nc13, nc14, nc15, nc16, nc17, nc18, nc19, nc20, appendM, popM, extendM, insertM, indexM, indexTM, updateM, dBMT, dBMT.tupT, dinOp, dgetOp, dGet2, dsPut, dNewK, dDc, dPar3, dNeg, dkO_inj, dkO_ne, dkO_ne2, lenM_dk, keyD_int, keyD_str, dic_dk, dicA_dk, moTy_dk, moTy_lst, moTy_none, dIsi, inOp, ixOp, dSl, slOp, dRev, dBM, dBM0, refL, tyD, lenM_lst, dNoP, dPart, dCallN, dMake, dProp, eqOwn, neOwn, lenOwn, strOwn, dIsO, dMethN, dsFld, dRevT, dStrI, insD_obj, insD_ref, isC_obj, isC_ref, isC_non, isC_bl, isC_int, isC_str, isC_tup, isC_lst, ex_ins2, beq_self_eq_true, Bool.not_eq_eq_eq_not, decide_true, decide_false, okN_bl, okN_int, okN_non, exists_and_left, and_assoc, List.cons.injEq, dListRg1, dListRg2, pick, List.filterMap_cons, List.filterMap_nil, List.set_cons_zero, List.set_cons_succ, List.getElem?_cons_zero, List.getElem?_cons_succ, List.getElem?_nil, List.length_cons, List.length_nil, List.length_append, List.length_map, List.length_range, rangeD_length, enumD_length, List.cons_append, List.nil_append, forall_const, true_implies, false_implies, reduceCtorEq, Bool.not_true, Bool.not_false, and_true, true_and, decide_eq_true_eq, decide_eq_false_iff_not, MH.put_same, if_true, if_false, not_true_eq_false, not_false_eq_true, exists_eq_left, exists_eq_left', Option.some.injEq, MO.lst.injEq, MH.put_put, at_0, at_1, at_2, at_3, Int.ofNat_lt, Int.ofNat_le, ix_30, ix_31, ix_32, Nat.zero_add, Int.zero_add, Nat.reduceAdd, D.lst.injEq, lenOk, Nat.reduceLeDiff, rowD_inj, strs_inj, ints_inj, ex_ins, tyNm, ts_NoneType_bool, ts_NoneType_int, ts_NoneType_str, ts_NoneType_tuple, ts_NoneType_list, ts_bool_bool, ts_bool_int, ts_bool_str, ts_bool_tuple, ts_bool_list, ts_int_bool, ts_int_int, ts_int_str, ts_int_tuple, ts_int_list, ts_str_bool, ts_str_int, ts_str_str, ts_str_tuple, ts_str_list, ts_tuple_bool, ts_tuple_int, ts_tuple_str, ts_tuple_tuple, ts_tuple_list, ts_list_bool, ts_list_int, ts_list_str, ts_list_tuple, ts_list_list, ins_row, isC_row, row_ne, Int.natCast_inj, Int.toNat_natCast, D.int.injEq, D.str.injEq, D.bl.injEq, D.tup.injEq, D.ref.injEq, D.scr.injEq]
  obtain ⟨m, hm, em⟩ : ∃ m : Nat, m ≤ 100 ∧ (if (if (4 : Int) < ns.length then 4 else (ns.length : Int)) > 2 then (if (4 : Int) < ns.length then 4 else (ns.length : Int)) else 2) = m := by
    by_cases h1 : (4 : Int) < ns.length
    · rw [if_pos h1]; exact ⟨4, by omega, by decide⟩
    · rw [if_neg h1]
      by_cases h2 : (ns.length : Int) > 2
      · rw [if_pos h2]; exact ⟨ns.length, by omega, rfl⟩
      · rw [if_neg h2]; exact ⟨2, by omega, rfl⟩
  rw [em, Int.toNat_natCast]
  repeat (refine And.intro (by first | omega | (with_reducible assumption) | decide | exact okN_tupS (by assumption)) ?_)
  refine lc_grow_range (fun _ => .bl true) (by unfold lenOk; omega) ?_ ?_
  · intro p acc i C M2 hi hp le hC
    simp only [wipeD, d_law_e1, sp_law_bag, sp_law_right, dDk1, dicPO, eqOwnL, eqPairs, eqOne, dJoin, dMk, dstart, ends, dVar, dC, dOp, i2, ltO, leO, gtO, geO, subO, dTest, dAnd, dOr, dNot, asV, dAndV, dOrV, dNotV, dIf, dNil, dCons, dStar, dTup, dLst, dNew, seqD, lstD, datD, eqOp, neOp, addOp, mulOp, mulM, addM, divOp, modOp, powOp, isOp, isntOp, dNext, dSeq, dDrop, dRet, dRetN, dIfS, dBreak, dCont, dNever, dFrz, dgName, dgNil, dgCons, dgTup, dgSub, dAsg, dSet, dPar, dAugI, dSeqI, dRng1, dRng2, dEnum, dFor, dLast, dLink, dCh, dYes, dLc, dCall, dCall0, dFld, dMeth, dMeth0, dFrzO, frzO, dCB, ob1, ob2, oI, ii2, lenO, intO, sumO, intsO, blsO, strsO, reprO, absO, maxO, minO, dmO, tupO, lstO, lstMO, maxLO, minLO, anyO, allO, strIO, srtSO, srtO, srtIO, numsD_lst, numsD_tup, nats_inj, nats_len, stepD_inj, nc0, nc1, nc2, nc3, nc4, nc5, nc6, nc7, nc8, nc9, nc10, nc11, nc12, nc13, nc14, nc15, nc16, nc17, nc18, nc19, nc20, appendM, popM, extendM, insertM, indexM, indexTM, updateM, dBMT, dBMT.tupT, dinOp, dgetOp, dGet2, dsPut, dNewK, dDc, dPar3, dNeg, dkO_inj, dkO_ne, dkO_ne2, lenM_dk, keyD_int, keyD_str, dic_dk, dicA_dk, moTy_dk, moTy_lst, moTy_none, dIsi, inOp, ixOp, dSl, slOp, dRev, dBM, dBM0, refL, tyD, lenM_lst, dNoP, dPart, dCallN, dMake, dProp, eqOwn, neOwn, lenOwn, strOwn, dIsO, dMethN, dsFld, dRevT, dStrI, insD_obj, insD_ref, isC_obj, isC_ref, isC_non, isC_bl, isC_int, isC_str, isC_tup, isC_lst, ex_ins2, beq_self_eq_true, Bool.not_eq_eq_eq_not, decide_true, decide_false, okN_bl, okN_int, okN_non, exists_and_left, and_assoc, List.cons.injEq, dListRg1, dListRg2, pick, List.filterMap_cons, List.filterMap_nil, List.set_cons_zero, List.set_cons_succ, List.getElem?_cons_zero, List.getElem?_cons_succ, List.getElem?_nil, List.length_cons, List.length_nil, List.length_append, List.length_map, List.length_range, rangeD_length, enumD_length, List.cons_append, List.nil_append, forall_const, true_implies, false_implies, reduceCtorEq, Bool.not_true, Bool.not_false, and_true, true_and, decide_eq_true_eq, decide_eq_false_iff_not, MH.put_same, if_true, if_false, not_true_eq_false, not_false_eq_true, exists_eq_left, exists_eq_left', Option.some.injEq, MO.lst.injEq, MH.put_put, at_0, at_1, at_2, at_3, Int.ofNat_lt, Int.ofNat_le, ix_30, ix_31, ix_32, Nat.zero_add, Int.zero_add, Nat.reduceAdd, D.lst.injEq, lenOk, Nat.reduceLeDiff, rowD_inj, strs_inj, ints_inj, ex_ins, tyNm, ts_NoneType_bool, ts_NoneType_int, ts_NoneType_str, ts_NoneType_tuple, ts_NoneType_list, ts_bool_bool, ts_bool_int, ts_bool_str, ts_bool_tuple, ts_bool_list, ts_int_bool, ts_int_int, ts_int_str, ts_int_tuple, ts_int_list, ts_str_bool, ts_str_int, ts_str_str, ts_str_tuple, ts_str_list, ts_tuple_bool, ts_tuple_int, ts_tuple_str, ts_tuple_tuple, ts_tuple_list, ts_list_bool, ts_list_int, ts_list_str, ts_list_tuple, ts_list_list, ins_row, isC_row, row_ne, Int.natCast_inj, Int.toNat_natCast, D.int.injEq, D.str.injEq, D.bl.injEq, D.tup.injEq, D.ref.injEq, D.scr.injEq]
    refine ⟨by omega, by omega, hn, fun q o hq ho => ⟨ho, fun o2 ho2 => hC _ (.put le ?_)⟩⟩
    exact le.of_none hq
  · intro M2 le
    simp only [dDk1, dicPO, eqOwnL, eqPairs, eqOne, dJoin, dMk, dstart, ends, dVar, dC, dOp, i2, ltO, leO, gtO, geO, subO, dTest, dAnd, dOr, dNot, asV, dAndV, dOrV, dNotV, dIf, dNil, dCons, dStar, dTup, dLst, dNew, seqD, lstD, datD, eqOp, neOp, addOp, mulOp, mulM, addM, divOp, modOp, powOp, isOp, isntOp, dNext, dSeq, dDrop, dRet, dRetN, dIfS, dBreak, dCont, dNever, dFrz, dgName, dgNil, dgCons, dgTup, dgSub, dAsg, dSet, dPar, dAugI, dSeqI, dRng1, dRng2, dEnum, dFor, dLast, dLink, dCh, dYes, dLc, dCall, dCall0, dFld, dMeth, dMeth0, dFrzO, frzO, dCB, ob1, ob2, oI, ii2, lenO, intO, sumO, intsO, blsO, strsO, reprO, absO, maxO, minO, dmO, tupO, lstO, lstMO, maxLO, minLO, anyO, allO, strIO, srtSO, srtO, srtIO, numsD_lst, numsD_tup, nats_inj, nats_len, stepD_inj, nc0, nc1, nc2, nc3, nc4, nc5, nc6, nc7, nc8, nc9, nc10, nc11, nc12, nc13, nc14, nc15, nc16, nc17, nc18, nc19, nc20, appendM, popM, extendM, insertM, indexM, indexTM, updateM, dBMT, dBMT.tupT, dinOp, dgetOp, dGet2, dsPut, dNewK, dDc, dPar3, dNeg, dkO_inj, dkO_ne, dkO_ne2, lenM_dk, keyD_int, keyD_str, dic_dk, dicA_dk, moTy_dk, moTy_lst, moTy_none, dIsi, inOp, ixOp, dSl, slOp, dRev, dBM, dBM0, refL, tyD, lenM_lst, dNoP, dPart, dCallN, dMake, dProp, eqOwn, neOwn, lenOwn, strOwn, dIsO, dMethN, dsFld, dRevT, dStrI, insD_obj, insD_ref, isC_obj, isC_ref, isC_non, isC_bl, isC_int, isC_str, isC_tup, isC_lst, ex_ins2, beq_self_eq_true, Bool.not_eq_eq_eq_not, decide_true, decide_false, okN_bl, okN_int, okN_non, exists_and_left, and_assoc, List.cons.injEq, dListRg1, dListRg2, pick, List.filterMap_cons, List.filterMap_nil, List.set_cons_zero, List.set_cons_succ, List.getElem?_cons_zero, List.getElem?_cons_succ, List.getElem?_nil, List.length_cons, List.length_nil, List.length_append, List.length_map, List.length_range, rangeD_length, enumD_length, List.cons_append, List.nil_append, forall_const, true_implies, false_implies, reduceCtorEq, Bool.not_true, Bool.not_false, and_true, true_and, decide_eq_true_eq, decide_eq_false_iff_not, MH.put_same, if_true, if_false, not_true_eq_false, not_false_eq_true, exists_eq_left, exists_eq_left', Option.some.injEq, MO.lst.injEq, MH.put_put, at_0, at_1, at_2, at_3, Int.ofNat_lt, Int.ofNat_le, ix_30, ix_31, ix_32, Nat.zero_add, Int.zero_add, Nat.reduceAdd, D.lst.injEq, lenOk, Nat.reduceLeDiff, rowD_inj, strs_inj, ints_inj, ex_ins, tyNm, ts_NoneType_bool, ts_NoneType_int, ts_NoneType_str, ts_NoneType_tuple, ts_NoneType_list, ts_bool_bool, ts_bool_int, ts_bool_str, ts_bool_tuple, ts_bool_list, ts_int_bool, ts_int_int, ts_int_str, ts_int_tuple, ts_int_list, ts_str_bool, ts_str_int, ts_str_str, ts_str_tuple, ts_str_list, ts_tuple_bool, ts_tuple_int, ts_tuple_str, ts_tuple_tuple, ts_tuple_list, ts_list_bool, ts_list_int, ts_list_str, ts_list_tuple, ts_list_list, ins_row, isC_row, row_ne, Int.natCast_inj, Int.toNat_natCast, D.int.injEq, D.str.injEq, D.bl.injEq, D.tup.injEq, D.ref.injEq, D.scr.injEq]
    refine ⟨List.replicate m true, ?_, M, le, ?_⟩
    · rw [List.map_replicate]
      apply List.ext_getElem
      · simp
      · intro i h1 h2; simp
    · rw [show (List.replicate m true).all _root_.id = true by simp]
      exact h

theorem ok_law (T : Txt ⟨P, w, K, mg, base⟩) : Cal ⟨P, w, K, mg, base⟩ "law" 8 ["_law_script"] sp_law := cal_mk T.t_law F_law (r_law T) pl_law
end
theorem all_mk {l : PySem.W.OpenLaw} {w : World} {K : PySem.W.Frag} {h : Heap} {mg : Str → Option Value} {fa f0 f1 f2 f3 f4 f5 f6 f7 f8 f9 f10 f11 f12 f13 f14 f15 f16 f17 f18 f19 f20 f21 f22 f23 f24 f25 f26 f27 : Addr} (X : K.In h) (G : h.Ns mainGlobals mg) (hfa : mg "law" = some (.ref fa))
    {od0 an0 od1 an1 od2 an2 od3 an3 od4 an4 od5 an5 od6 an6 od7 an7 od8 an8 od9 an9 od10 an10 od11 an11 od12 an12 od13 an13 od14 an14 od15 an15 od16 an16 od17 an17 od18 an18 od19 an19 od20 an20 od21 an21 od22 an22 od23 an23 od24 an24 od25 an25 od26 an26 od27 an27 : Option Addr} {sl0 sl1 sl2 sl3 sl4 sl5 sl6 sl7 sl8 sl9 sl10 sl11 sl12 sl13 sl14 sl15 sl16 sl17 sl18 sl19 sl20 sl21 sl22 sl23 sl24 sl25 sl26 sl27 : Array (Option Value)} {oc0 kV0 dc0 pm0 cd0 ct0 oc1 kV1 dc1 pm1 cd1 ct1 oc2 kV2 dc2 pm2 cd2 ct2 oc3 kV3 dc3 pm3 cd3 ct3 oc4 kV4 dc4 pm4 cd4 ct4 oc5 kV5 dc5 pm5 cd5 ct5 oc6 kV6 dc6 pm6 cd6 ct6 oc7 kV7 dc7 pm7 cd7 ct7 oc8 kV8 dc8 pm8 cd8 ct8 oc9 kV9 dc9 pm9 cd9 ct9 oc10 kV10 dc10 pm10 cd10 ct10 oc11 kV11 dc11 pm11 cd11 ct11 oc12 kV12 dc12 pm12 cd12 ct12 oc13 kV13 dc13 pm13 cd13 ct13 oc14 kV14 dc14 pm14 cd14 ct14 oc15 kV15 dc15 pm15 cd15 ct15 oc16 kV16 dc16 pm16 cd16 ct16 oc17 kV17 dc17 pm17 cd17 ct17 oc18 kV18 dc18 pm18 cd18 ct18 oc19 kV19 dc19 pm19 cd19 ct19 oc20 kV20 dc20 pm20 cd20 ct20 oc21 kV21 dc21 pm21 cd21 ct21 oc22 kV22 dc22 pm22 cd22 ct22 oc23 kV23 dc23 pm23 cd23 ct23 oc24 kV24 dc24 pm24 cd24 ct24 oc25 kV25 dc25 pm25 cd25 ct25 oc26 kV26 dc26 pm26 cd26 ct26 oc27 kV27 dc27 pm27 cd27 ct27 : Value}
    {g0 pp13 : Addr} {rest13 : List Value}
    {tk0 tk1 : Tok}
    (u0A : PySem.W.nsIn K mainGlobals "Row" = some (some (.ref g0)))
    (u0B : PySem.W.plainGet K g0 Str.empty = true)
    (u0C : PySem.W.hasDictIn K g0 = true)
    (u0D : PySem.W.plainOver K g0 = true)
    (u0E : PySem.W.findIn K (.ref g0) "__setattr__" = some (some (.builtin "object.__setattr__")))
    (u0F : PySem.W.findIn K (.ref g0) "__class__" = some (some (.builtin "object.__class__")))
    (u0G : PySem.W.specialIn K (.builtin "object.__class__") "__get__" = some (some (.builtin "getset_descriptor.__get__")))
    (u0H : PySem.W.takesIn K (.builtin "object.__class__") = some true)
    (u0I : PySem.W.mroIn K g0 (.type "object") = some true)
    (u0J : PySem.W.isClsIn K g0 = true)
    (u0K : PySem.W.typeIn K (.ref g0) = some (.type "type"))
    (u0L : PySem.W.makesIn K g0 = true)
    (u0M : PySem.W.keepIn K (.ref g0) = true)
    (u0O_line : PySem.W.findIn K (.ref g0) "line" = some none)
    (a0 : PySem.W.nsIn K mainGlobals "_law_take" = some (some (.ref f0))) (l0 : K.lookup f0 = some ⟨oc0, od0, .func (PySem.W.fnOf "_law_take" "_law_take" (defArgs s_law_take) (defBody s_law_take) (defScope s_law_take) .none kV0 dc0 pm0 an0 cd0 ct0), sl0⟩) (c0 : PySem.W.codeIn K cd0 "_law_take" = true) (k0 : PySem.W.keepIn K (.ref f0) = true)
    (a1 : PySem.W.nsIn K mainGlobals "_law_mixed" = some (some (.ref f1))) (l1 : K.lookup f1 = some ⟨oc1, od1, .func (PySem.W.fnOf "_law_mixed" "_law_mixed" (defArgs s_law_mixed) (defBody s_law_mixed) (defScope s_law_mixed) .none kV1 dc1 pm1 an1 cd1 ct1), sl1⟩) (c1 : PySem.W.codeIn K cd1 "_law_mixed" = true) (k1 : PySem.W.keepIn K (.ref f1) = true)
    (a2 : PySem.W.nsIn K mainGlobals "_law_line" = some (some (.ref f2))) (l2 : K.lookup f2 = some ⟨oc2, od2, .func (PySem.W.fnOf "_law_line" "_law_line" (defArgs s_law_line) (defBody s_law_line) (defScope s_law_line) .none kV2 dc2 pm2 an2 cd2 ct2), sl2⟩) (c2 : PySem.W.codeIn K cd2 "_law_line" = true) (k2 : PySem.W.keepIn K (.ref f2) = true)
    (a3 : PySem.W.nsIn K mainGlobals "_law_of" = some (some (.ref f3))) (l3 : K.lookup f3 = some ⟨oc3, od3, .func (PySem.W.fnOf "_law_of" "_law_of" (defArgs s_law_of) (defBody s_law_of) (defScope s_law_of) .none kV3 dc3 pm3 an3 cd3 ct3), sl3⟩) (c3 : PySem.W.codeIn K cd3 "_law_of" = true) (k3 : PySem.W.keepIn K (.ref f3) = true)
    (a4 : PySem.W.nsIn K mainGlobals "_law_from" = some (some (.ref f4))) (l4 : K.lookup f4 = some ⟨oc4, od4, .func (PySem.W.fnOf "_law_from" "_law_from" (defArgs s_law_from) (defBody s_law_from) (defScope s_law_from) .none kV4 dc4 pm4 an4 cd4 ct4), sl4⟩) (c4 : PySem.W.codeIn K cd4 "_law_from" = true) (k4 : PySem.W.keepIn K (.ref f4) = true)
    (a5 : PySem.W.nsIn K mainGlobals "is_name" = some (some (.ref f5))) (l5 : K.lookup f5 = some ⟨oc5, od5, .func (PySem.W.fnOf "is_name" "is_name" (defArgs s_is_name) (defBody s_is_name) (defScope s_is_name) .none kV5 dc5 pm5 an5 cd5 ct5), sl5⟩) (c5 : PySem.W.codeIn K cd5 "is_name" = true) (k5 : PySem.W.keepIn K (.ref f5) = true)
    (a6 : PySem.W.nsIn K mainGlobals "check_things" = some (some (.ref f6))) (l6 : K.lookup f6 = some ⟨oc6, od6, .func (PySem.W.fnOf "check_things" "check_things" (defArgs s_check_things) (defBody s_check_things) (defScope s_check_things) .none kV6 dc6 pm6 an6 cd6 ct6), sl6⟩) (c6 : PySem.W.codeIn K cd6 "check_things" = true) (k6 : PySem.W.keepIn K (.ref f6) = true)
    (a7 : PySem.W.findIn K (.ref g0) "__init__" = some (some (.ref f7))) (i7 : PySem.W.isFn K (.ref f7) = true)
    (l7 : K.lookup f7 = some ⟨oc7, od7, .func (PySem.W.fnOf "__init__" "Row.__init__" (defArgs s_Row_init) (defBody s_Row_init) (defScope s_Row_init) .none kV7 dc7 pm7 an7 cd7 ct7), sl7⟩) (c7 : PySem.W.codeIn K cd7 "Row.__init__" = true) (k7 : PySem.W.keepIn K (.ref f7) = true)
    (a8 : PySem.W.nsIn K mainGlobals "_law_far" = some (some (.ref f8))) (l8 : K.lookup f8 = some ⟨oc8, od8, .func (PySem.W.fnOf "_law_far" "_law_far" (defArgs s_law_far) (defBody s_law_far) (defScope s_law_far) .none kV8 dc8 pm8 an8 cd8 ct8), sl8⟩) (c8 : PySem.W.codeIn K cd8 "_law_far" = true) (k8 : PySem.W.keepIn K (.ref f8) = true)
    (a9 : PySem.W.nsIn K mainGlobals "check_row" = some (some (.ref f9))) (l9 : K.lookup f9 = some ⟨oc9, od9, .func (PySem.W.fnOf "check_row" "check_row" (defArgs s_check_row) (defBody s_check_row) (defScope s_check_row) .none kV9 dc9 pm9 an9 cd9 ct9), sl9⟩) (c9 : PySem.W.codeIn K cd9 "check_row" = true) (k9 : PySem.W.keepIn K (.ref f9) = true)
    (a10 : PySem.W.findIn K (.ref g0) "is_kin" = some (some (.ref f10))) (i10 : PySem.W.isFn K (.ref f10) = true)
    (l10 : K.lookup f10 = some ⟨oc10, od10, .func (PySem.W.fnOf "is_kin" "Row.is_kin" (defArgs s_Row_is_kin) (defBody s_Row_is_kin) (defScope s_Row_is_kin) .none kV10 dc10 pm10 an10 cd10 ct10), sl10⟩) (c10 : PySem.W.codeIn K cd10 "Row.is_kin" = true) (k10 : PySem.W.keepIn K (.ref f10) = true)
    (a11 : PySem.W.nsIn K mainGlobals "check_kin" = some (some (.ref f11))) (l11 : K.lookup f11 = some ⟨oc11, od11, .func (PySem.W.fnOf "check_kin" "check_kin" (defArgs s_check_kin) (defBody s_check_kin) (defScope s_check_kin) .none kV11 dc11 pm11 an11 cd11 ct11), sl11⟩) (c11 : PySem.W.codeIn K cd11 "check_kin" = true) (k11 : PySem.W.keepIn K (.ref f11) = true)
    (a12 : PySem.W.nsIn K mainGlobals "check_both" = some (some (.ref f12))) (l12 : K.lookup f12 = some ⟨oc12, od12, .func (PySem.W.fnOf "check_both" "check_both" (defArgs s_check_both) (defBody s_check_both) (defScope s_check_both) .none kV12 dc12 pm12 an12 cd12 ct12), sl12⟩) (c12 : PySem.W.codeIn K cd12 "check_both" = true) (k12 : PySem.W.keepIn K (.ref f12) = true)
    (a13 : PySem.W.findIn K (.ref g0) "things" = some (some (.ref pp13))) (i13 : PySem.W.specialIn K (.ref pp13) "__get__" = some (some (.builtin "property.__get__"))) (j13 : PySem.W.takesIn K (.ref pp13) = some true) (m13 : PySem.W.recIn K pp13 "property" = some (.ref f13 :: rest13))
    (l13 : K.lookup f13 = some ⟨oc13, od13, .func (PySem.W.fnOf "things" "Row.things" (defArgs s_Row_things) (defBody s_Row_things) (defScope s_Row_things) .none kV13 dc13 pm13 an13 cd13 ct13), sl13⟩) (c13 : PySem.W.codeIn K cd13 "Row.things" = true) (k13 : PySem.W.keepIn K (.ref f13) = true)
    (a14 : PySem.W.nsIn K mainGlobals "with_ends" = some (some (.ref f14))) (l14 : K.lookup f14 = some ⟨oc14, od14, .func (PySem.W.fnOf "with_ends" "with_ends" (defArgs s_with_ends) (defBody s_with_ends) (defScope s_with_ends) .none kV14 dc14 pm14 an14 cd14 ct14), sl14⟩) (c14 : PySem.W.codeIn K cd14 "with_ends" = true) (k14 : PySem.W.keepIn K (.ref f14) = true)
    (a15 : PySem.W.nsIn K mainGlobals "leads_of" = some (some (.ref f15))) (l15 : K.lookup f15 = some ⟨oc15, od15, .func (PySem.W.fnOf "leads_of" "leads_of" (defArgs s_leads_of) (defBody s_leads_of) (defScope s_leads_of) .none kV15 dc15 pm15 an15 cd15 ct15), sl15⟩) (c15 : PySem.W.codeIn K cd15 "leads_of" = true) (k15 : PySem.W.keepIn K (.ref f15) = true)
    (a16 : PySem.W.nsIn K mainGlobals "ring_from" = some (some (.ref f16))) (l16 : K.lookup f16 = some ⟨oc16, od16, .func (PySem.W.fnOf "ring_from" "ring_from" (defArgs s_ring_from) (defBody s_ring_from) (defScope s_ring_from) .none kV16 dc16 pm16 an16 cd16 ct16), sl16⟩) (c16 : PySem.W.codeIn K cd16 "ring_from" = true) (k16 : PySem.W.keepIn K (.ref f16) = true)
    (a17 : PySem.W.nsIn K mainGlobals "rings_by" = some (some (.ref f17))) (l17 : K.lookup f17 = some ⟨oc17, od17, .func (PySem.W.fnOf "rings_by" "rings_by" (defArgs s_rings_by) (defBody s_rings_by) (defScope s_rings_by) .none kV17 dc17 pm17 an17 cd17 ct17), sl17⟩) (c17 : PySem.W.codeIn K cd17 "rings_by" = true) (k17 : PySem.W.keepIn K (.ref f17) = true)
    (a18 : PySem.W.nsIn K mainGlobals "distance_by" = some (some (.ref f18))) (l18 : K.lookup f18 = some ⟨oc18, od18, .func (PySem.W.fnOf "distance_by" "distance_by" (defArgs s_distance_by) (defBody s_distance_by) (defScope s_distance_by) .none kV18 dc18 pm18 an18 cd18 ct18), sl18⟩) (c18 : PySem.W.codeIn K cd18 "distance_by" = true) (k18 : PySem.W.keepIn K (.ref f18) = true)
    (a19 : PySem.W.nsIn K mainGlobals "numbers_of" = some (some (.ref f19))) (l19 : K.lookup f19 = some ⟨oc19, od19, .func (PySem.W.fnOf "numbers_of" "numbers_of" (defArgs s_numbers_of) (defBody s_numbers_of) (defScope s_numbers_of) .none kV19 dc19 pm19 an19 cd19 ct19), sl19⟩) (c19 : PySem.W.codeIn K cd19 "numbers_of" = true) (k19 : PySem.W.keepIn K (.ref f19) = true)
    (a20 : PySem.W.nsIn K mainGlobals "turned_to" = some (some (.ref f20))) (l20 : K.lookup f20 = some ⟨oc20, od20, .func (PySem.W.fnOf "turned_to" "turned_to" (defArgs s_turned_to) (defBody s_turned_to) (defScope s_turned_to) .none kV20 dc20 pm20 an20 cd20 ct20), sl20⟩) (c20 : PySem.W.codeIn K cd20 "turned_to" = true) (k20 : PySem.W.keepIn K (.ref f20) = true)
    (a21 : PySem.W.nsIn K mainGlobals "round_distance" = some (some (.ref f21))) (l21 : K.lookup f21 = some ⟨oc21, od21, .func (PySem.W.fnOf "round_distance" "round_distance" (defArgs s_round_distance) (defBody s_round_distance) (defScope s_round_distance) .none kV21 dc21 pm21 an21 cd21 ct21), sl21⟩) (c21 : PySem.W.codeIn K cd21 "round_distance" = true) (k21 : PySem.W.keepIn K (.ref f21) = true)
    (a22 : PySem.W.nsIn K mainGlobals "numbers_for" = some (some (.ref f22))) (l22 : K.lookup f22 = some ⟨oc22, od22, .func (PySem.W.fnOf "numbers_for" "numbers_for" (defArgs s_numbers_for) (defBody s_numbers_for) (defScope s_numbers_for) .none kV22 dc22 pm22 an22 cd22 ct22), sl22⟩) (c22 : PySem.W.codeIn K cd22 "numbers_for" = true) (k22 : PySem.W.keepIn K (.ref f22) = true)
    (a23 : PySem.W.nsIn K mainGlobals "distance" = some (some (.ref f23))) (l23 : K.lookup f23 = some ⟨oc23, od23, .func (PySem.W.fnOf "distance" "distance" (defArgs s_distance) (defBody s_distance) (defScope s_distance) .none kV23 dc23 pm23 an23 cd23 ct23), sl23⟩) (c23 : PySem.W.codeIn K cd23 "distance" = true) (k23 : PySem.W.keepIn K (.ref f23) = true)
    (a24 : PySem.W.nsIn K mainGlobals "same_round" = some (some (.ref f24))) (l24 : K.lookup f24 = some ⟨oc24, od24, .func (PySem.W.fnOf "same_round" "same_round" (defArgs s_same_round) (defBody s_same_round) (defScope s_same_round) .none kV24 dc24 pm24 an24 cd24 ct24), sl24⟩) (c24 : PySem.W.codeIn K cd24 "same_round" = true) (k24 : PySem.W.keepIn K (.ref f24) = true)
    (a25 : PySem.W.nsIn K mainGlobals "_law_right" = some (some (.ref f25))) (l25 : K.lookup f25 = some ⟨oc25, od25, .func (PySem.W.fnOf "_law_right" "_law_right" (defArgs s_law_right) (defBody s_law_right) (defScope s_law_right) .none kV25 dc25 pm25 an25 cd25 ct25), sl25⟩) (c25 : PySem.W.codeIn K cd25 "_law_right" = true) (k25 : PySem.W.keepIn K (.ref f25) = true)
    (a26 : PySem.W.nsIn K mainGlobals "_law_bag" = some (some (.ref f26))) (l26 : K.lookup f26 = some ⟨oc26, od26, .func (PySem.W.fnOf "_law_bag" "_law_bag" (defArgs s_law_bag) (defBody s_law_bag) (defScope s_law_bag) .none kV26 dc26 pm26 an26 cd26 ct26), sl26⟩) (c26 : PySem.W.codeIn K cd26 "_law_bag" = true) (k26 : PySem.W.keepIn K (.ref f26) = true)
    (a27 : PySem.W.nsIn K mainGlobals "law" = some (some (.ref f27))) (l27 : K.lookup f27 = some ⟨oc27, od27, .func (PySem.W.fnOf "law" "law" (defArgs s_law) (defBody s_law) (defScope s_law) .none kV27 dc27 pm27 an27 cd27 ct27), sl27⟩) (c27 : PySem.W.codeIn K cd27 "law" = true) (k27 : PySem.W.keepIn K (.ref f27) = true)
    (zabs : PySem.W.nsIn K mainGlobals "abs" = some none)
    (zall : PySem.W.nsIn K mainGlobals "all" = some none)
    (zdict : PySem.W.nsIn K mainGlobals "dict" = some none)
    (zdivmod : PySem.W.nsIn K mainGlobals "divmod" = some none)
    (zenumerate : PySem.W.nsIn K mainGlobals "enumerate" = some none)
    (zint : PySem.W.nsIn K mainGlobals "int" = some none)
    (zisinstance : PySem.W.nsIn K mainGlobals "isinstance" = some none)
    (zlen : PySem.W.nsIn K mainGlobals "len" = some none)
    (zlist : PySem.W.nsIn K mainGlobals "list" = some none)
    (zmax : PySem.W.nsIn K mainGlobals "max" = some none)
    (zmin : PySem.W.nsIn K mainGlobals "min" = some none)
    (zrange : PySem.W.nsIn K mainGlobals "range" = some none)
    (zsorted : PySem.W.nsIn K mainGlobals "sorted" = some none)
    (zstr : PySem.W.nsIn K mainGlobals "str" = some none)
    (ztuple : PySem.W.nsIn K mainGlobals "tuple" = some none)
    (q0 : PySem.W.nsIn K mainGlobals "LETTERS" = some (some (.str "abcdefghijklmnopqrstuvwxyz" tk0)))
    (q1 : PySem.W.nsIn K mainGlobals "MOST_THINGS" = some (some (.int 40 tk1)))
    : ∃ fd : FuncData, (∀ (s : Shared) (v : Value), BindsTo s fd ⟨[v], []⟩ [("_law_script", v)]) ∧ ∀ base : Heap, K.In base → base.Ns mainGlobals mg → FnG PySem.Challenge.pw_twostretches_k16_whole_round_distances w K mg base (L2N.CX PySem.Challenge.pw_twostretches_k16_whole_round_distances w) 8 fa fd ["_law_script"] (lift K 1 sp_law) := by
  have e := hfa.symm.trans (PySem.W.mg_of X G a27)
  cases e
  have eC0 := clsA_of u0A
  subst eC0
  have F0 := fun_mk (st := s_law_take) l0 c0 k0
  have b0 := F0.binds (ps := ["_law_bag_here", "_law_many"]) fun _ _ _ _ _ _ us hl => match us, hl with | [_, _], _ => rfl
  have F1 := fun_mk (st := s_law_mixed) l1 c1 k1
  have b1 := F1.binds (ps := ["_law_bag_here", "_law_things_here"]) fun _ _ _ _ _ _ us hl => match us, hl with | [_, _], _ => rfl
  have F2 := fun_mk (st := s_law_line) l2 c2 k2
  have b2 := F2.binds (ps := ["_law_bag_here", "_law_size"]) fun _ _ _ _ _ _ us hl => match us, hl with | [_, _], _ => rfl
  have F3 := fun_mk (st := s_law_of) l3 c3 k3
  have b3 := F3.binds (ps := ["_law_bag_here", "_law_some_here"]) fun _ _ _ _ _ _ us hl => match us, hl with | [_, _], _ => rfl
  have F4 := fun_mk (st := s_law_from) l4 c4 k4
  have b4 := F4.binds (ps := ["_law_line_here", "_law_head"]) fun _ _ _ _ _ _ us hl => match us, hl with | [_, _], _ => rfl
  have F5 := fun_mk (st := s_is_name) l5 c5 k5
  have b5 := F5.binds (ps := ["value"]) fun _ _ _ _ _ _ us hl => match us, hl with | [_], _ => rfl
  have F6 := fun_mk (st := s_check_things) l6 c6 k6
  have b6 := F6.binds (ps := ["things"]) fun _ _ _ _ _ _ us hl => match us, hl with | [_], _ => rfl
  have F7 := fun_mk (st := s_Row_init) l7 c7 k7
  have b7 := F7.binds (ps := ["self", "things"]) fun _ _ _ _ _ _ us hl => match us, hl with | [_, _], _ => rfl
  have F8 := fun_mk (st := s_law_far) l8 c8 k8
  have b8 := F8.binds (ps := ["_law_line_here", "_law_aim"]) fun _ _ _ _ _ _ us hl => match us, hl with | [_, _], _ => rfl
  have F9 := fun_mk (st := s_check_row) l9 c9 k9
  have b9 := F9.binds (ps := ["value"]) fun _ _ _ _ _ _ us hl => match us, hl with | [_], _ => rfl
  have F10 := fun_mk (st := s_Row_is_kin) l10 c10 k10
  have b10 := F10.binds (ps := ["self", "other"]) fun _ _ _ _ _ _ us hl => match us, hl with | [_, _], _ => rfl
  have F11 := fun_mk (st := s_check_kin) l11 c11 k11
  have b11 := F11.binds (ps := ["one", "other"]) fun _ _ _ _ _ _ us hl => match us, hl with | [_, _], _ => rfl
  have F12 := fun_mk (st := s_check_both) l12 c12 k12
  have b12 := F12.binds (ps := ["row", "goal"]) fun _ _ _ _ _ _ us hl => match us, hl with | [_, _], _ => rfl
  have F13 := fun_mk (st := s_Row_things) l13 c13 k13
  have b13 := F13.binds (ps := ["self"]) fun _ _ _ _ _ _ us hl => match us, hl with | [_], _ => rfl
  have F14 := fun_mk (st := s_with_ends) l14 c14 k14
  have b14 := F14.binds (ps := ["numbers"]) fun _ _ _ _ _ _ us hl => match us, hl with | [_], _ => rfl
  have F15 := fun_mk (st := s_leads_of) l15 c15 k15
  have b15 := F15.binds (ps := ["numbers"]) fun _ _ _ _ _ _ us hl => match us, hl with | [_], _ => rfl
  have F16 := fun_mk (st := s_ring_from) l16 c16 k16
  have b16 := F16.binds (ps := ["leads", "gap"]) fun _ _ _ _ _ _ us hl => match us, hl with | [_, _], _ => rfl
  have F17 := fun_mk (st := s_rings_by) l17 c17 k17
  have b17 := F17.binds (ps := ["numbers"]) fun _ _ _ _ _ _ us hl => match us, hl with | [_], _ => rfl
  have F18 := fun_mk (st := s_distance_by) l18 c18 k18
  have b18 := F18.binds (ps := ["numbers"]) fun _ _ _ _ _ _ us hl => match us, hl with | [_], _ => rfl
  have F19 := fun_mk (st := s_numbers_of) l19 c19 k19
  have b19 := F19.binds (ps := ["things", "target"]) fun _ _ _ _ _ _ us hl => match us, hl with | [_, _], _ => rfl
  have F20 := fun_mk (st := s_turned_to) l20 c20 k20
  have b20 := F20.binds (ps := ["things", "head"]) fun _ _ _ _ _ _ us hl => match us, hl with | [_, _], _ => rfl
  have F21 := fun_mk (st := s_round_distance) l21 c21 k21
  have b21 := F21.binds (ps := ["row", "goal"]) fun _ _ _ _ _ _ us hl => match us, hl with | [_, _], _ => rfl
  have F22 := fun_mk (st := s_numbers_for) l22 c22 k22
  have b22 := F22.binds (ps := ["row", "goal"]) fun _ _ _ _ _ _ us hl => match us, hl with | [_, _], _ => rfl
  have F23 := fun_mk (st := s_distance) l23 c23 k23
  have b23 := F23.binds (ps := ["row", "goal"]) fun _ _ _ _ _ _ us hl => match us, hl with | [_, _], _ => rfl
  have F24 := fun_mk (st := s_same_round) l24 c24 k24
  have b24 := F24.binds (ps := ["one", "other"]) fun _ _ _ _ _ _ us hl => match us, hl with | [_, _], _ => rfl
  have F25 := fun_mk (st := s_law_right) l25 c25 k25
  have b25 := F25.binds (ps := ["_law_bag_here"]) fun _ _ _ _ _ _ us hl => match us, hl with | [_], _ => rfl
  have F26 := fun_mk (st := s_law_bag) l26 c26 k26
  have b26 := F26.binds (ps := ["_law_script", "_law_spot"]) fun _ _ _ _ _ _ us hl => match us, hl with | [_, _], _ => rfl
  have F27 := fun_mk (st := s_law) l27 c27 k27
  have b27 := F27.binds (ps := ["_law_script"]) fun _ _ _ _ _ _ us hl => match us, hl with | [_], _ => rfl
  have T : ∀ base : Heap, Txt ⟨PySem.Challenge.pw_twostretches_k16_whole_round_distances, w, K, mg, base⟩ := fun base => {
    t_law_take := ⟨_, _, F0, PySem.W.mg_of X G a0, b0⟩
    t_law_mixed := ⟨_, _, F1, PySem.W.mg_of X G a1, b1⟩
    t_law_line := ⟨_, _, F2, PySem.W.mg_of X G a2, b2⟩
    t_law_of := ⟨_, _, F3, PySem.W.mg_of X G a3, b3⟩
    t_law_from := ⟨_, _, F4, PySem.W.mg_of X G a4, b4⟩
    t_is_name := ⟨_, _, F5, PySem.W.mg_of X G a5, b5⟩
    t_check_things := ⟨_, _, F6, PySem.W.mg_of X G a6, b6⟩
    t_Row_init := ⟨_, _, F7, ⟨u0L, a7, i7, u0M⟩, b7, PySem.W.mg_of X G u0A⟩
    t_law_far := ⟨_, _, F8, PySem.W.mg_of X G a8, b8⟩
    t_check_row := ⟨_, _, F9, PySem.W.mg_of X G a9, b9⟩
    t_Row_is_kin := ⟨_, _, F10, ⟨a10, i10, k10⟩, b10⟩
    t_check_kin := ⟨_, _, F11, PySem.W.mg_of X G a11, b11⟩
    t_check_both := ⟨_, _, F12, PySem.W.mg_of X G a12, b12⟩
    t_Row_things := ⟨_, _, _, ⟨a13, i13, j13, _, m13⟩, F13, b13⟩
    t_with_ends := ⟨_, _, F14, PySem.W.mg_of X G a14, b14⟩
    t_leads_of := ⟨_, _, F15, PySem.W.mg_of X G a15, b15⟩
    t_ring_from := ⟨_, _, F16, PySem.W.mg_of X G a16, b16⟩
    t_rings_by := ⟨_, _, F17, PySem.W.mg_of X G a17, b17⟩
    t_distance_by := ⟨_, _, F18, PySem.W.mg_of X G a18, b18⟩
    t_numbers_of := ⟨_, _, F19, PySem.W.mg_of X G a19, b19⟩
    t_turned_to := ⟨_, _, F20, PySem.W.mg_of X G a20, b20⟩
    t_round_distance := ⟨_, _, F21, PySem.W.mg_of X G a21, b21⟩
    t_numbers_for := ⟨_, _, F22, PySem.W.mg_of X G a22, b22⟩
    t_distance := ⟨_, _, F23, PySem.W.mg_of X G a23, b23⟩
    t_same_round := ⟨_, _, F24, PySem.W.mg_of X G a24, b24⟩
    t_law_right := ⟨_, _, F25, PySem.W.mg_of X G a25, b25⟩
    t_law_bag := ⟨_, _, F26, PySem.W.mg_of X G a26, b26⟩
    t_law := ⟨_, _, F27, PySem.W.mg_of X G a27, b27⟩
    h_Row := ⟨⟨u0B, u0C, u0D, u0E⟩, PySem.W.mg_of X G u0A, u0F, u0G, u0H, u0I, u0J, u0K⟩
    n_Row_line := u0O_line
    z_abs := PySem.W.mg_none_of X G zabs
    z_all := PySem.W.mg_none_of X G zall
    z_dict := PySem.W.mg_none_of X G zdict
    z_divmod := PySem.W.mg_none_of X G zdivmod
    z_enumerate := PySem.W.mg_none_of X G zenumerate
    z_int := PySem.W.mg_none_of X G zint
    z_isinstance := PySem.W.mg_none_of X G zisinstance
    z_len := PySem.W.mg_none_of X G zlen
    z_list := PySem.W.mg_none_of X G zlist
    z_max := PySem.W.mg_none_of X G zmax
    z_min := PySem.W.mg_none_of X G zmin
    z_range := PySem.W.mg_none_of X G zrange
    z_sorted := PySem.W.mg_none_of X G zsorted
    z_str := PySem.W.mg_none_of X G zstr
    z_tuple := PySem.W.mg_none_of X G ztuple
    c_LETTERS := ⟨_, PySem.W.mg_of X G q0, _, rfl⟩
    c_MOST_THINGS := ⟨_, PySem.W.mg_of X G q1, _, rfl⟩
  }
  exact ⟨_, fun s v => .of_eq rfl, fun base _ _ => okd_mk F27 F_law (r_law (T base)) pl_law⟩
theorem noX (P : Program) (w : World) (H : Hp) (s : Shared) (e : Value) (s' : Shared) (h : L2N.CX P w [] H s (fun _ _ _ => False) e s') : False := by
  obtain ⟨_, _, _, _, _, _, _, _, _, h⟩ := h
  exact (by simpa using h)
theorem walk {l : PySem.W.OpenLaw} {q : Program} {loose : List Str} {XP : (Str → Option Value) → Heap → Prop} {YP : World → Heap → Prop} {d : DefRec} {K : Params → PySem.W.Frag} (hn : l.most = some 63) (hdf : d.params.defaults = [])
    (hY : ∀ (w : World) (h : Heap), YP w h → (K w.params).In h)
    (F : ∀ (w : World) (mg : Str → Option Value) (fa : Addr) (h : Heap), (K w.params).In h → h.Ns mainGlobals mg → mg d.name = some (.ref fa) →
      ∃ fd : FuncData, (∀ (s : Shared) (u : Value), BindsTo s fd ⟨[u], []⟩ [("_law_script", u)]) ∧ ∀ base : Heap, (K w.params).In base → base.Ns mainGlobals mg → FnG l.prog w (K w.params) mg base (L2N.CX l.prog w) 8 fa fd ["_law_script"] (lift (K w.params) 1 sp_law)) :
    PySem.W.WalkO q loose XP YP l.row.toRowW d [] (fun f vs => PySem.call f vs) :=
  walkG (n := 63) (k := 8) (x := "_law_script") (CX := fun w => L2N.CX l.prog w) (sp := fun w => lift (K w.params) 1 sp_law) hn (by decide) hdf ⟨rfl, by decide, by decide⟩ hY F (fun w H a ns hl hO hS => want_law (n := 63) law_want H a ns hl hO hS) fun w H s e s' z => noX _ w H s e s' z
end DL
open PySem PySem.W PyProof.Rows in
set_option maxRecDepth 100000 in
set_option maxHeartbeats 0 in
theorem PySem.Challenge.cw_twostretches_k16_whole_round_distances_holds : PySem.Challenge.rw_twostretches_k16_whole_round_distances.Holds := by
  w_on; o_law; k_head; (case hw => w_witness2)
  k_fill
  refine DL.walk (l := PySem.Challenge.rw_twostretches_k16_whole_round_distances) rfl rfl (fun w h Y => PySem.W.kIn_of Y) ?F
  case F =>
    intro w mg fa h KX G hmg
    refine' DL.all_mk (l := PySem.Challenge.rw_twostretches_k16_whole_round_distances) KX G hmg ?u0A ?u0B ?u0C ?u0D ?u0E ?u0F ?u0G ?u0H ?u0I ?u0J ?u0K ?u0L ?u0M ?u0O_line ?a0 ?l0 ?c0 ?k0 ?a1 ?l1 ?c1 ?k1 ?a2 ?l2 ?c2 ?k2 ?a3 ?l3 ?c3 ?k3 ?a4 ?l4 ?c4 ?k4 ?a5 ?l5 ?c5 ?k5 ?a6 ?l6 ?c6 ?k6 ?a7 ?i7 ?l7 ?c7 ?k7 ?a8 ?l8 ?c8 ?k8 ?a9 ?l9 ?c9 ?k9 ?a10 ?i10 ?l10 ?c10 ?k10 ?a11 ?l11 ?c11 ?k11 ?a12 ?l12 ?c12 ?k12 ?a13 ?i13 ?j13 ?m13 ?l13 ?c13 ?k13 ?a14 ?l14 ?c14 ?k14 ?a15 ?l15 ?c15 ?k15 ?a16 ?l16 ?c16 ?k16 ?a17 ?l17 ?c17 ?k17 ?a18 ?l18 ?c18 ?k18 ?a19 ?l19 ?c19 ?k19 ?a20 ?l20 ?c20 ?k20 ?a21 ?l21 ?c21 ?k21 ?a22 ?l22 ?c22 ?k22 ?a23 ?l23 ?c23 ?k23 ?a24 ?l24 ?c24 ?k24 ?a25 ?l25 ?c25 ?k25 ?a26 ?l26 ?c26 ?k26 ?a27 ?l27 ?c27 ?k27 ?zabs ?zall ?zdict ?zdivmod ?zenumerate ?zint ?zisinstance ?zlen ?zlist ?zmax ?zmin ?zrange ?zsorted ?zstr ?ztuple ?q0 ?q1
    (case u0A => k_is)
    (case u0B => k_is)
    (case u0C => k_is)
    (case u0D => k_is)
    (case u0E => k_is)
    (case u0F => k_is)
    (case u0G => k_is)
    (case u0H => k_is)
    (case u0I => k_is)
    (case u0J => k_is)
    (case u0K => k_is)
    (case u0L => k_is)
    (case u0M => k_is)
    (case u0O_line => k_is)
    (case a0 => k_is)
    (case l0 => k_is)
    (case c0 => k_is)
    (case k0 => k_is)
    (case a1 => k_is)
    (case l1 => k_is)
    (case c1 => k_is)
    (case k1 => k_is)
    (case a2 => k_is)
    (case l2 => k_is)
    (case c2 => k_is)
    (case k2 => k_is)
    (case a3 => k_is)
    (case l3 => k_is)
    (case c3 => k_is)
    (case k3 => k_is)
    (case a4 => k_is)
    (case l4 => k_is)
    (case c4 => k_is)
    (case k4 => k_is)
    (case a5 => k_is)
    (case l5 => k_is)
    (case c5 => k_is)
    (case k5 => k_is)
    (case a6 => k_is)
    (case l6 => k_is)
    (case c6 => k_is)
    (case k6 => k_is)
    (case a7 => k_is)
    (case i7 => k_is)
    (case l7 => k_is)
    (case c7 => k_is)
    (case k7 => k_is)
    (case a8 => k_is)
    (case l8 => k_is)
    (case c8 => k_is)
    (case k8 => k_is)
    (case a9 => k_is)
    (case l9 => k_is)
    (case c9 => k_is)
    (case k9 => k_is)
    (case a10 => k_is)
    (case i10 => k_is)
    (case l10 => k_is)
    (case c10 => k_is)
    (case k10 => k_is)
    (case a11 => k_is)
    (case l11 => k_is)
    (case c11 => k_is)
    (case k11 => k_is)
    (case a12 => k_is)
    (case l12 => k_is)
    (case c12 => k_is)
    (case k12 => k_is)
    (case a13 => k_is)
    (case i13 => k_is)
    (case j13 => k_is)
    (case m13 => k_is)
    (case l13 => k_is)
    (case c13 => k_is)
    (case k13 => k_is)
    (case a14 => k_is)
    (case l14 => k_is)
    (case c14 => k_is)
    (case k14 => k_is)
    (case a15 => k_is)
    (case l15 => k_is)
    (case c15 => k_is)
    (case k15 => k_is)
    (case a16 => k_is)
    (case l16 => k_is)
    (case c16 => k_is)
    (case k16 => k_is)
    (case a17 => k_is)
    (case l17 => k_is)
    (case c17 => k_is)
    (case k17 => k_is)
    (case a18 => k_is)
    (case l18 => k_is)
    (case c18 => k_is)
    (case k18 => k_is)
    (case a19 => k_is)
    (case l19 => k_is)
    (case c19 => k_is)
    (case k19 => k_is)
    (case a20 => k_is)
    (case l20 => k_is)
    (case c20 => k_is)
    (case k20 => k_is)
    (case a21 => k_is)
    (case l21 => k_is)
    (case c21 => k_is)
    (case k21 => k_is)
    (case a22 => k_is)
    (case l22 => k_is)
    (case c22 => k_is)
    (case k22 => k_is)
    (case a23 => k_is)
    (case l23 => k_is)
    (case c23 => k_is)
    (case k23 => k_is)
    (case a24 => k_is)
    (case l24 => k_is)
    (case c24 => k_is)
    (case k24 => k_is)
    (case a25 => k_is)
    (case l25 => k_is)
    (case c25 => k_is)
    (case k25 => k_is)
    (case a26 => k_is)
    (case l26 => k_is)
    (case c26 => k_is)
    (case k26 => k_is)
    (case a27 => k_is)
    (case l27 => k_is)
    (case c27 => k_is)
    (case k27 => k_is)
    (case zabs => k_is)
    (case zall => k_is)
    (case zdict => k_is)
    (case zdivmod => k_is)
    (case zenumerate => k_is)
    (case zint => k_is)
    (case zisinstance => k_is)
    (case zlen => k_is)
    (case zlist => k_is)
    (case zmax => k_is)
    (case zmin => k_is)
    (case zrange => k_is)
    (case zsorted => k_is)
    (case zstr => k_is)
    (case ztuple => k_is)
    (case q0 => k_is)
    (case q1 => k_is)
