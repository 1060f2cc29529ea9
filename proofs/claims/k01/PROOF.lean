import PyProof.Rows.All
import Wide.All
import OpenK.AllK
import Wide.FinOn
import HandS.ForMost
import HandS.Exc
import HandS.TryOnly
import HandS.ExcOwn
import HandS.WordsExc
import HandS.ExcCtx
import HandS.Lambda
import HandS.TupAny
import HandS.IsInst
import HandS.Strs
import HandS.Wide
import HandS.Deep
import HandS.Star
import HandS.Style
import HandS.Text
import HandS.Zip
import KE.GoesMore
import KE.GoesEnum
import PyProof.Draws
import HandS.DictComp
import HandS.Property
import HandS.ClsMeth
import HandS.Conv
import HandS.Steps
import HandS.RaiseMore
import KE.KTupSum
import KE.DataMinMax
import HandS.SetFor
import HandS.More
import HandS.Codes
import HandS.Ends
import KE.KCallOwn
import HandS.Dict
import HandS.Iter
import PyProof.Rows.SortStr
import HandS.OwnEq
import KE.KDictDisplayH
import KE.KDictKeyed
import HandS.TupLen
import KE.KExcSuper
import KE.KExcLine
import KE.KSuper
import HandS.ExcField
import KE.KDictZip
import HandS.GenList
import HandS.SortKw
import PyProof.Rows.SortShellAny
import KE.KNestM
import HandS.NestedK
import HandS.EndTab
import KE.RegKSuper
import KE.RegKTryMore
import KE.KExcInit
import HandS.HotCalls
import KE.KExcIs
import HandS.ExcIs
import KE.DataFind
import HandS.TupMul
import HandS.ExcValue
import PySem.Challenge.RW_twostretches_k01_limits_and_errors
set_option Elab.async false
set_option linter.all false
set_option maxRecDepth 100000
set_option maxHeartbeats 4000000

/-! The deep layer: readings over data (D) with a map of the objects that change (MH). Part a: data, what stands for what, the judgements. -/
namespace DL
open PySem PySem.Spec PyProof.Rows L2

/-- data: what does not change, and addresses of what does -/
inductive D where
  | non | bl (b : Bool) | int (i : Int) | str (x : Str)
  | tup (xs : List D) | lst (xs : List D)
  | dk (ks : List Key) (vs : List D) | dt (ks : List (List Key)) (vs : List D)
  | obj (C : Str) (ns : List Str) (fs : List D)
  | ref (a : Addr)
  | scr (ns : List Int)
  | wtp (xs : List D)
  | exc (C : Str) (ns : List Str) (fs : List D)

/-- what changes -/
inductive MO where
  | lst (xs : List D)
  | dk (ks : List Key) (vs : List D) | dt (ks : List (List Key)) (vs : List D)
  | ins (C : Str) (ns : List Str) (fs : List D)
abbrev MH := Addr → Option MO
def MH.put (M : MH) (a : Addr) (o : MO) : MH := fun b => if b = a then some o else M b
def MH.del (M : MH) (a : Addr) : MH := fun b => if b = a then none else M b
theorem MH.put_same {M : MH} {a : Addr} {o : MO} : M.put a o a = some o := if_pos rfl
theorem MH.put_ne {M : MH} {a b : Addr} {o : MO} (h : b ≠ a) : M.put a o b = M b := if_neg h
theorem MH.put_put {M : MH} {a : Addr} {o u : MO} : (M.put a o).put a u = M.put a u := by
  funext b; unfold MH.put; split <;> rfl

abbrev Ex (F H : Hp) : Prop := ∀ a o, F a = some o → H a = some o
theorem Ex.refl (H : Hp) : Ex H H := fun _ _ h => h
theorem Ex.trans {F G H : Hp} (a : Ex F G) (b : Ex G H) : Ex F H := fun x o h => b x o (a x o h)
theorem Ex.new {H : Hp} {p : Addr} {o : HO} (h : H p = none) : Ex H (upd H p o) := fun a u e => by
  rw [upd_ne (ne_of_none e h)]; exact e
theorem Ex.free {F H : Hp} (e : Ex F H) {p : Addr} (h : H p = none) : F p = none := by
  cases q : F p with
  | none => rfl
  | some o => rw [e _ _ q] at h; cases h
/-- the same new object on both sides -/
theorem Ex.both {F H : Hp} (e : Ex F H) {p : Addr} {o : HO} : Ex (upd F p o) (upd H p o) := fun a u h => by
  by_cases q : a = p
  · subst q; rw [upd_same] at h ⊢; exact h
  · rw [upd_ne q] at h ⊢; exact e a u h
theorem Ex.mut {F H : Hp} (e : Ex F H) {p : Addr} {o : HO} (h : F p = none) : Ex F (upd H p o) := fun a u ha => by
  rw [upd_ne (ne_of_none ha h)]; exact e a u ha
theorem Ex.rd {F H : Hp} (e : Ex F H) {a : Addr} {u : HO} (h : Rd F a u) : Rd H a u := by
  rcases h with h | ⟨o, h⟩
  · exact .inl (e _ _ h)
  · exact .inr ⟨o, e _ _ h⟩
theorem Ex.sl {K : PySem.W.Frag} {F H : Hp} (e : Ex F H) {a : Addr} {xs : List V} (h : SqL K F a xs) : SqL K H a xs := by
  rcases h with h | h
  · exact .inl (e.rd h)
  · exact .inr h
theorem Ex.st {K : PySem.W.Frag} {F H : Hp} (e : Ex F H) {a : Addr} {xs : List V} (h : SqT K F a xs) : SqT K H a xs := by
  rcases h with h | h
  · exact .inl (e.rd h)
  · exact .inr h

/-- the class that the module names so -/
def clsA (K : PySem.W.Frag) (x : Str) : Addr := match PySem.W.nsIn K mainGlobals x with
  | some (some (.ref C)) => C
  | _ => 0
/-- a tuple as it lies: it has no dict -/
def tob (its : Array Value) : Obj := { cls := .type "tuple", data := .seq its }
def TupF (F : Hp) (a : Addr) (vs : List V) : Prop := ∃ its, F a = some (.frz (tob its) (.tup vs))
theorem TupF.mono {F H : Hp} (e : Ex F H) {a : Addr} {vs : List V} (h : TupF F a vs) : TupF H a vs := let ⟨its, h⟩ := h; ⟨its, e _ _ h⟩
theorem SqT.fz {K : PySem.W.Frag} {H : Hp} {a : Addr} {vs : List V} (h : TupF H a vs) : SqT K H a vs := let ⟨_, h⟩ := h; .inl (.inr ⟨_, h⟩)
/-- the class that the module or the language names so -/
def clsV (K : PySem.W.Frag) (x : Str) : Value := match PySem.W.nsIn K mainGlobals x with
  | some (some (.ref C)) => .ref C
  | _ => .type x.toString
theorem clsV_of {K : PySem.W.Frag} {x : Str} {C : Addr} (h : PySem.W.nsIn K mainGlobals x = some (some (.ref C))) : clsV K x = .ref C := by
  unfold clsV; rw [h]
/-- an exception as it lies: its class, where its own dict is -/
def xcO (a : Addr) (cls : Value) (d : Option Addr) : HO := .ext fun h => ∃ o vs, h.get? a = some o ∧ o.cls = cls ∧ o.dict = d ∧ o.data = .fields vs
/-- a dict that stands still, for good: its very object is known -/
def DkF (F : Hp) (a : Addr) (kvs : List (Key × V)) : Prop := ∃ o, F a = some (.frz o (.dK kvs))
theorem DkF.mono {F H : Hp} {a : Addr} {kvs : List (Key × V)} (h : DkF F a kvs) (e : Ex F H) : DkF H a kvs := h.elim fun o q => ⟨o, e _ _ q⟩
theorem DkF.rd {F : Hp} {a : Addr} {kvs : List (Key × V)} (h : DkF F a kvs) : Rd F a (.dK kvs) := .inr h
/-- the world of the run -/
class Wd where
  w : World
  /-- the tables of code objects, each with the name of what is made there -/
  ts : List (Addr × Str)
  /-- a def's code object and its table -/
  lc : Str → Addr × Addr
/-- an exception: its class, its attributes -/
structure Er where
  cls : Str
  ns : List Str
  fs : List D
/-- what a lambda does that was handed on -/
abbrev LamT := MH → (D → MH → Prop) → (Er → MH → Prop) → Prop
/-- of a def that got a lambda: what has stood still since it was made, where it is, what it does -/
class Fb where
  fb : Hp
  ag : Addr
  atl : LamT
abbrev XZ : List (List Key × Addr × V) → List (List Key × Addr × Value) → Prop := Paired fun p q => p.1 = q.1 ∧ p.2.1 = q.2.1 ∧ RelV p.2.2 q.2.2
/-- a dict whose keys are tuples that stand still: the program is of no matter for what its entries are -/
def tabO (w : World) (a : Addr) (xs : List (List Key × Addr × V)) : HO := .ext fun h => xs.length ≤ sizeLine ∧ (a == sysModules) = false ∧ ∃ zs : List (List Key × Addr × Value), XZ xs zs ∧
  ∃ o es ep, h.get? a = some o ∧ o.ExactDict ∧ o.data = .dict es ep ∧ (∀ P : Program, es.toList = zs.map (entryOfKey (tupleKind (mixKind P w)))) ∧ (zs.map (·.1)).Nodup
variable [Wd]
mutual
inductive Rp (K : PySem.W.Frag) (F : Hp) : V → D → Prop
  | non : Rp K F .non .non
  | bl (b : Bool) : Rp K F (.bl b) (.bl b)
  | int (i : Int) : Rp K F (.int i) (.int i)
  | str (x : Str) : Rp K F (.str x) (.str x)
  | tup {a : Addr} {vs : List V} {ds : List D} : TupF F a vs → RpL K F vs ds → Rp K F (.ref a) (.tup ds)
  | wtp {a : Addr} {vs : List V} {ds : List D} : SqT K F a vs → RpL K F vs ds → Rp K F (.ref a) (.wtp ds)
  | lst {a : Addr} {vs : List V} {ds : List D} : F a = some (.lst vs) → RpL K F vs ds → Rp K F (.ref a) (.lst ds)
  | scr {a : Addr} {ns : List Int} : SqL K F a (ns.map V.int) → Rp K F (.ref a) (.scr ns)
  | dk {a : Addr} {kvs : List (Key × V)} {ks : List Key} {ds : List D} : DkF F a kvs → kvs.map (·.1) = ks → RpL K F (kvs.map (·.2)) ds → Rp K F (.ref a) (.dk ks ds)
  | dt {a : Addr} {o : Obj} {xs : List (List Key × Addr × V)} {ks : List (List Key)} {ds : List D} : F a = some (.frz o (tabO Wd.w a xs)) → xs.map (·.1) = ks → RpL K F (xs.map (·.2.2)) ds → (∀ x ∈ xs, TupF F x.2.1 (x.1.map kV)) → Rp K F (.ref a) (.dt ks ds)
  | obj {a dx : Addr} {C : Str} {fs : List (Str × V)} {ns : List Str} {ds : List D} : F a = some (.ins (clsA K C) dx fs) → fs.map (·.1) = ns → RpL K F (fs.map (·.2)) ds → Rp K F (.ref a) (.obj C ns ds)
  | exc0 {a : Addr} {C : Str} : F a = some (xcO a (clsV K C) none) → Rp K F (.ref a) (.exc C [] [])
  | exc1 {a dd : Addr} {C : Str} {fs : List (Str × V)} {ns : List Str} {ds : List D} : F a = some (xcO a (clsV K C) (some dd)) → F dd = some (.xd fs) → fs.map (·.1) = ns → RpL K F (fs.map (·.2)) ds → Rp K F (.ref a) (.exc C ns ds)
  | ref (a : Addr) : Rp K F (.ref a) (.ref a)
inductive RpL (K : PySem.W.Frag) (F : Hp) : List V → List D → Prop
  | nil : RpL K F [] []
  | cons {v : V} {vs : List V} {d : D} {ds : List D} : Rp K F v d → RpL K F vs ds → RpL K F (v :: vs) (d :: ds)
end

section
variable {K : PySem.W.Frag} {F F' H : Hp}
mutual
theorem Rp.mono (e : Ex F F') : ∀ {v : V} {d : D}, Rp K F v d → Rp K F' v d
  | _, _, .non => .non
  | _, _, .bl b => .bl b
  | _, _, .int i => .int i
  | _, _, .str x => .str x
  | _, _, .tup h r => .tup (h.mono e) (RpL.mono e r)
  | _, _, .wtp h r => .wtp (e.st h) (RpL.mono e r)
  | _, _, .lst h r => .lst (e _ _ h) (RpL.mono e r)
  | _, _, .scr h => .scr (e.sl h)
  | _, _, .dk h k r => .dk (h.mono e) k (RpL.mono e r)
  | _, _, .dt h k r q => .dt (e _ _ h) k (RpL.mono e r) fun x hx => (q x hx).mono e
  | _, _, .obj h k r => .obj (e _ _ h) k (RpL.mono e r)
  | _, _, .exc0 h => .exc0 (e _ _ h)
  | _, _, .exc1 h h2 k r => .exc1 (e _ _ h) (e _ _ h2) k (RpL.mono e r)
  | _, _, .ref a => .ref a
theorem RpL.mono (e : Ex F F') : ∀ {vs : List V} {ds : List D}, RpL K F vs ds → RpL K F' vs ds
  | _, _, .nil => .nil
  | _, _, .cons h r => .cons (Rp.mono e h) (RpL.mono e r)
end
theorem RpL.length : ∀ {vs : List V} {ds : List D}, RpL K F vs ds → vs.length = ds.length
  | _, _, .nil => rfl
  | _, _, .cons _ r => congrArg (· + 1) (RpL.length r)
theorem RpL.append : ∀ {vs ws : List V} {ds es : List D}, RpL K F vs ds → RpL K F ws es → RpL K F (vs ++ ws) (ds ++ es)
  | _, _, _, _, .nil, s => s
  | _, _, _, _, .cons h r, s => .cons h (RpL.append r s)
theorem RpL.take : ∀ {vs : List V} {ds : List D} (n : Nat), RpL K F vs ds → RpL K F (vs.take n) (ds.take n)
  | _, _, 0, _ => .nil
  | _, _, _ + 1, .nil => .nil
  | _, _, n + 1, .cons h r => .cons h (RpL.take n r)
theorem RpL.drop : ∀ {vs : List V} {ds : List D} (n : Nat), RpL K F vs ds → RpL K F (vs.drop n) (ds.drop n)
  | _, _, 0, r => r
  | _, _, _ + 1, .nil => .nil
  | _, _, n + 1, .cons _ r => RpL.drop n r
theorem RpL.get : ∀ {vs : List V} {ds : List D} {i : Nat} {d : D}, RpL K F vs ds → ds[i]? = some d → ∃ v, vs[i]? = some v ∧ Rp K F v d
  | _, _, _, _, .nil, e => by simp at e
  | _, _, 0, _, .cons h _, e => by simp at e; subst e; exact ⟨_, rfl, h⟩
  | _, _, i + 1, d, .cons _ r, e => by
    obtain ⟨v, h1, h2⟩ := RpL.get (i := i) (d := d) r (by simpa using e)
    exact ⟨v, by simpa using h1, h2⟩
theorem RpL.getV : ∀ {vs : List V} {ds : List D} {i : Nat} {v : V}, RpL K F vs ds → vs[i]? = some v → ∃ d, ds[i]? = some d ∧ Rp K F v d
  | _, _, _, _, .nil, e => by simp at e
  | _, _, 0, _, .cons h _, e => by simp at e; subst e; exact ⟨_, rfl, h⟩
  | _, _, i + 1, d, .cons _ r, e => by
    obtain ⟨v, h1, h2⟩ := RpL.getV (i := i) r (by simpa using e)
    exact ⟨v, by simpa using h1, h2⟩
theorem RpL.set : ∀ {vs : List V} {ds : List D} {v : V} {d : D} (i : Nat), RpL K F vs ds → Rp K F v d → RpL K F (vs.set i v) (ds.set i d)
  | _, _, _, _, _, .nil, _ => .nil
  | _, _, _, _, 0, .cons _ r, h => .cons h r
  | _, _, _, _, i + 1, .cons q r, h => .cons q (RpL.set i r h)
theorem RpL.reverse {vs : List V} {ds : List D} (r : RpL K F vs ds) : RpL K F vs.reverse ds.reverse := by
  have key : ∀ {vs : List V} {ds : List D}, RpL K F vs ds → ∀ {ws : List V} {es : List D}, RpL K F ws es → RpL K F (vs.reverseAux ws) (ds.reverseAux es) := by
    intro vs
    induction vs with
    | nil => intro ds r ws es s; cases r; exact s
    | cons v vs ih => intro ds r ws es s; cases r with | cons h r => exact ih r (.cons h s)
  exact key r .nil
theorem RpL.dropLast {vs : List V} {ds : List D} (r : RpL K F vs ds) : RpL K F vs.dropLast ds.dropLast := by
  rw [List.dropLast_eq_take, List.dropLast_eq_take, r.length]; exact r.take _
theorem RpL.eraseIdx : ∀ {vs : List V} {ds : List D} (i : Nat), RpL K F vs ds → RpL K F (vs.eraseIdx i) (ds.eraseIdx i)
  | _, _, _, .nil => .nil
  | _, _, 0, .cons _ r => r
  | _, _, i + 1, .cons h r => .cons h (RpL.eraseIdx i r)
theorem RpL.one {v : V} {d : D} (h : Rp K F v d) : RpL K F [v] [d] := .cons h .nil
theorem RpL.snoc {vs : List V} {ds : List D} {v : V} {d : D} (r : RpL K F vs ds) (h : Rp K F v d) : RpL K F (vs ++ [v]) (ds ++ [d]) := r.append (.one h)
end

variable [Fb]
/-- what an object that changes looks like -/
def MoOk (K : PySem.W.Frag) (F H : Hp) (a : Addr) : MO → Prop
  | .lst ds => ∃ vs, H a = some (.lst vs) ∧ RpL K F vs ds
  | .dk ks ds => ∃ kvs, H a = some (.dK kvs) ∧ kvs.map (·.1) = ks ∧ RpL K F (kvs.map (·.2)) ds
  | .dt ks ds => ∃ xs : List (List Key × Addr × V), H a = some (tabO Wd.w a xs) ∧ xs.map (·.1) = ks ∧ RpL K F (xs.map (·.2.2)) ds ∧ ∀ x ∈ xs, TupF F x.2.1 (x.1.map kV)
  | .ins C ns ds => ∃ dx fs, H a = some (.ins (clsA K C) dx fs) ∧ fs.map (·.1) = ns ∧ RpL K F (fs.map (·.2)) ds
theorem MoOk.there {K : PySem.W.Frag} {F H : Hp} {a : Addr} : ∀ {o : MO}, MoOk K F H a o → ∃ u, H a = some u
  | .lst _, ⟨_, h, _⟩ => ⟨_, h⟩
  | .dk _ _, ⟨_, h, _⟩ => ⟨_, h⟩
  | .dt _ _, ⟨_, h, _⟩ => ⟨_, h⟩
  | .ins _ _ _, ⟨_, _, h, _⟩ => ⟨_, h⟩
theorem MoOk.mono {K : PySem.W.Frag} {F F' H H' : Hp} {a : Addr} (e : Ex F F') (h : H' a = H a) : ∀ {o : MO}, MoOk K F H a o → MoOk K F' H' a o
  | .lst _, ⟨_, q, r⟩ => ⟨_, h.trans q, r.mono e⟩
  | .dk _ _, ⟨_, q, k, r⟩ => ⟨_, h.trans q, k, r.mono e⟩
  | .dt _ _, ⟨_, q, k, r, t⟩ => ⟨_, h.trans q, k, r.mono e, fun x hx => (t x hx).mono e⟩
  | .ins _ _ _, ⟨_, _, q, k, r⟩ => ⟨_, _, h.trans q, k, r.mono e⟩
theorem MoOk.noTab {K : PySem.W.Frag} {F H : Hp} {a : Addr} {ps : Array Value} (z : H a = some (.tbl ps)) : ∀ {o : MO}, ¬ MoOk K F H a o
  | .lst _, ⟨_, h, _⟩ => by rw [z] at h; cases h
  | .dk _ _, ⟨_, h, _⟩ => by rw [z] at h; cases h
  | .dt _ _, ⟨_, h, _⟩ => by rw [z] at h; cases h
  | .ins _ _ _, ⟨_, _, h, _⟩ => by rw [z] at h; cases h
/-- a table of code objects: it grows, what it tells stands still -/
def TabF (F H : Hp) (P : Addr) (q : Str) : Prop := F P = none ∧ ∃ ps : Array Value, H P = some (.tbl ps) ∧ TriplesOk ps.toList ∧ ∀ (pos : Pos) (cv : Value), codeAmong pos ps.toList = some cv → ∃ c, cv = .ref c ∧ F c = some (LamX.CodeO c q)
structure Kx (F H : Hp) : Prop where
  tb : ∀ p ∈ Wd.ts, TabF F H p.1 p.2
  fb : Ex Fb.fb F
theorem Kx.to {F F' H H' : Hp} (k : Kx F H) (e : Ex F F') (h : ∀ P ps, H P = some (.tbl ps) → F P = none → F' P = none ∧ H' P = some (.tbl ps)) : Kx F' H' where
  tb p hp := by
    obtain ⟨h1, ps, h2, h3, h4⟩ := k.tb p hp
    obtain ⟨h5, h6⟩ := h _ _ h2 h1
    exact ⟨h5, ps, h6, h3, fun pos cv z => let ⟨c, z1, z2⟩ := h4 pos cv z; ⟨c, z1, e _ _ z2⟩⟩
  fb := k.fb.trans e
/-- the same new object on both sides -/
theorem Kx.both {F H : Hp} (k : Kx F H) {p : Addr} {o : HO} (h : H p = none) (hF : F p = none) : Kx (upd F p o) (upd H p o) := k.to (Ex.new hF) fun P ps z zF => by
  have : P ≠ p := ne_of_none z h
  rw [upd_ne this, upd_ne this]; exact ⟨zF, z⟩
/-- a change of what is no table -/
theorem Kx.mut {F H : Hp} (k : Kx F H) {p : Addr} {o : HO} (h : ∀ ps, H p ≠ some (.tbl ps)) : Kx F (upd H p o) := k.to (Ex.refl F) fun P ps z zF => by
  have : P ≠ p := fun q => h ps (q ▸ z)
  rw [upd_ne this]; exact ⟨zF, z⟩
/-- what is no table stands still from now on -/
theorem Kx.still {F H : Hp} (k : Kx F H) {p : Addr} {o : HO} (hF : F p = none) (h : ∀ ps, H p ≠ some (.tbl ps)) : Kx (upd F p o) H := k.to (Ex.new hF) fun P ps z zF => by
  have : P ≠ p := fun q => h ps (q ▸ z)
  rw [upd_ne this]; exact ⟨zF, z⟩
/-- the state: F stands still within H, what M tells stands apart from F -/
structure G (K : PySem.W.Frag) (F : Hp) (M : MH) (H : Hp) : Prop where
  ex : Ex F H
  mo : ∀ a o, M a = some o → F a = none ∧ MoOk K F H a o
  kx : Kx F H
section
variable {K : PySem.W.Frag} {F F' H : Hp} {M : MH}
theorem G.nt (g : G K F M H) {p : Addr} {u : MO} (h : M p = some u) : ∀ ps, H p ≠ some (.tbl ps) := fun _ z => MoOk.noTab z (g.mo p u h).2
/-- a new object that stands still -/
theorem G.fresh (g : G K F M H) {p : Addr} (h : H p = none) : F p = none ∧ M p = none := by
  refine ⟨g.ex.free h, ?_⟩
  cases q : M p with
  | none => rfl
  | some o =>
    obtain ⟨u, z⟩ := (g.mo p o q).2.there
    rw [h] at z; cases z
theorem G.new (g : G K F M H) {p : Addr} (h : H p = none) (o : HO) : G K (upd F p o) M (upd H p o) ∧ Ex F (upd F p o) := by
  have h1 := g.fresh h
  refine ⟨⟨g.ex.both, fun a u q => ?_, g.kx.both h h1.1⟩, Ex.new h1.1⟩
  have na : a ≠ p := fun z => by rw [z, h1.2] at q; cases q
  obtain ⟨h2, h3⟩ := g.mo a u q
  exact ⟨by rw [upd_ne na]; exact h2, h3.mono (Ex.new h1.1) (upd_ne na)⟩
/-- a new object that may change -/
theorem G.newM (g : G K F M H) {p : Addr} (h : H p = none) {o : HO} {u : MO} (k : MoOk K F (upd H p o) p u) : G K F (M.put p u) (upd H p o) := by
  have h1 := g.fresh h
  refine ⟨g.ex.mut h1.1, fun a u' q => ?_, g.kx.mut fun ps z => by rw [h] at z; cases z⟩
  by_cases na : a = p
  · subst na
    rw [MH.put_same] at q; cases q
    exact ⟨h1.1, k⟩
  · rw [MH.put_ne na] at q
    obtain ⟨h2, h3⟩ := g.mo a u' q
    exact ⟨h2, h3.mono (Ex.refl F) (upd_ne na)⟩
/-- one that changes -/
theorem G.set (g : G K F M H) {p : Addr} {u0 : MO} (h : M p = some u0) {o : HO} {u : MO} (k : MoOk K F (upd H p o) p u) : G K F (M.put p u) (upd H p o) := by
  have h1 := (g.mo p u0 h).1
  refine ⟨g.ex.mut h1, fun a u' q => ?_, g.kx.mut (g.nt h)⟩
  by_cases na : a = p
  · subst na
    rw [MH.put_same] at q; cases q
    exact ⟨h1, k⟩
  · rw [MH.put_ne na] at q
    obtain ⟨h2, h3⟩ := g.mo a u' q
    exact ⟨h2, h3.mono (Ex.refl F) (upd_ne na)⟩
/-- something is no more spoken of -/
theorem G.less (g : G K F M H) {M' : MH} (h : ∀ a o, M' a = some o → M a = some o) : G K F M' H := ⟨g.ex, fun a o q => g.mo a o (h a o q), g.kx⟩
end

/-! ### the readings -/
abbrev DSt := List (Option D)
abbrev DQ := D → MH → Prop
abbrev EK := Er → DSt → MH → Prop
abbrev DE := DSt → MH → DQ → EK → Prop
abbrev DT := DSt → MH → (Bool → MH → Prop) → EK → Prop
abbrev DA := DSt → MH → (List D → MH → Prop) → EK → Prop
structure DEnds where
  nx : DSt → MH → Prop
  rt : DQ
  bk : DSt → MH → Prop
  ct : DSt → MH → Prop
abbrev DS := DEnds → EK → DSt → MH → Prop

def RpO (K : PySem.W.Frag) (F : Hp) : Option V → Option D → Prop
  | _, none => True
  | some v, some d => Rp K F v d
  | none, some _ => False
abbrev RpS (K : PySem.W.Frag) (F : Hp) : L2.St → DSt → Prop := Paired (RpO K F)
theorem RpO.mono {K : PySem.W.Frag} {F F' : Hp} (e : Ex F F') : ∀ {v : Option V} {d : Option D}, RpO K F v d → RpO K F' v d
  | _, none, _ => trivial
  | some _, some _, h => Rp.mono e h
  | none, some _, h => h
theorem RpS.mono {K : PySem.W.Frag} {F F' : Hp} (e : Ex F F') : ∀ {σ : L2.St} {σ' : DSt}, RpS K F σ σ' → RpS K F' σ σ'
  | _, _, .nil => .nil
  | _, _, .cons h r => .cons (RpO.mono e h) (RpS.mono e r)
theorem RpS.get {K : PySem.W.Frag} {F : Hp} : ∀ {σ : L2.St} {σ' : DSt} {i : Nat} {d : D}, RpS K F σ σ' → σ'[i]? = some (some d) → ∃ v, σ[i]? = some (some v) ∧ Rp K F v d
  | _, _, _, _, .nil, e => by simp at e
  | x :: _, _, 0, d, .cons h _, e => by
    simp at e; subst e
    cases x with
    | none => exact h.elim
    | some v => exact ⟨v, rfl, h⟩
  | _, _, i + 1, d, .cons _ r, e => by
    obtain ⟨v, h1, h2⟩ := RpS.get (i := i) (d := d) r (by simpa using e)
    exact ⟨v, by simpa using h1, h2⟩
theorem RpS.set {K : PySem.W.Frag} {F : Hp} : ∀ {σ : L2.St} {σ' : DSt} (i : Nat) {v : Option V} {d : Option D}, RpO K F v d → RpS K F σ σ' → RpS K F (σ.set i v) (σ'.set i d)
  | _, _, _, _, _, _, .nil => .nil
  | _, _, 0, _, _, h, .cons _ r => .cons h r
  | _, _, i + 1, _, _, h, .cons q r => .cons q (RpS.set i h r)

theorem RpS.set1 {K : PySem.W.Frag} {F : Hp} {σ : L2.St} {σ' : DSt} (r : RpS K F σ σ') (i : Nat) {v : V} {d : D} (h : Rp K F v d) : RpS K F (σ.set i (some v)) (σ'.set i (some d)) := r.set i (v := some v) (d := some d) h

def LQ (K : PySem.W.Frag) (F : Hp) (Q : DQ) : VK := fun v H => ∃ F' M' y, Ex F F' ∧ G K F' M' H ∧ Rp K F' v y ∧ Q y M'
def LB (K : PySem.W.Frag) (F : Hp) (Q : Bool → MH → Prop) : Bool → Hp → Prop := fun b H => ∃ F' M', Ex F F' ∧ G K F' M' H ∧ Q b M'
def LA (K : PySem.W.Frag) (F : Hp) (Q : List D → MH → Prop) : List V → Hp → Prop := fun vs H => ∃ F' M' ys, Ex F F' ∧ G K F' M' H ∧ RpL K F' vs ys ∧ Q ys M'
def LS (K : PySem.W.Frag) (F : Hp) (Q : DSt → MH → Prop) : L2.St → Hp → Prop := fun σ H => ∃ F' M' σ', Ex F F' ∧ G K F' M' H ∧ RpS K F' σ σ' ∧ Q σ' M'
def LE (K : PySem.W.Frag) (F : Hp) (D : DEnds) : Ends := { nx := LS K F D.nx, rt := LQ K F D.rt, bk := LS K F D.bk, ct := LS K F D.ct }
/-- an exception as it lies: its own dict stands still -/
def ErOk (K : PySem.W.Frag) (F : Hp) (cls : Value) (d : Option Addr) (er : Er) : Prop :=
  clsV K er.cls = cls ∧ ((d = none ∧ er.ns = [] ∧ er.fs = []) ∨ ∃ dd fs, d = some dd ∧ F dd = some (.xd fs) ∧ fs.map (·.1) = er.ns ∧ RpL K F (fs.map (·.2)) er.fs)
def LX (K : PySem.W.Frag) (F0 : Hp) (E : EK) : WX := fun cls d σ H => ∃ F M σ' er, Ex F0 F ∧ G K F M H ∧ RpS K F σ σ' ∧ ErOk K F cls d er ∧ E er σ' M
def TkD (X : Cx) (F0 : Hp) (E : EK) : Prop := L2N.Takes X (LX X.K F0 E)

/-- the law's run: the program, the world, what the top has written -/
structure Wl where
  P : Program
  w : World
  K : PySem.W.Frag
  mg : Str → Option Value
  base : Heap
/-- what a text's place is, closed: its names by slot, its scope, the room for calls, which names its stores may name -/
structure Sx where
  N : List Str
  sc : Scope
  k : Nat
  calm : Bool
  own : Str → Bool
  dfn : Bool
  /-- of a def that makes lambdas: its name -/
  lam : Option Str := none
  /-- of a def that calls the lambda that it got: the place and the name of it -/
  act : Option (Nat × Str) := none
/-- room for calls; whether an exception is being handled is told by calm -/
structure RoomH (k : Nat) (A : Around) : Prop where
  dp : A.depth + 3 * k + 5 < recursionLimit
  un : A.units + 16 * k + 200 < cLine
theorem RoomH.units {k : Nat} {A : Around} (r : RoomH k A) : A.units + 64 < cLine := by have := r.un; omega
theorem RoomH.mono {j k : Nat} {A : Around} (r : RoomH k A) (h : j ≤ k) : RoomH j A := ⟨by have := r.dp; omega, by have := r.un; omega⟩
def wE (X : Cx) (e : Expr) : TE := fun σ H Q => ∀ pins s, Inv X pins σ H s → wpAny (model X.prog X.w) X.A (eval e X.env) (EP X pins σ Q) X.xe s
/-- the lambda is called by its name -/
def ActP (i : Nat) (a : Str) (f : Addr) (tl : LamT) (X : Cx) : Prop := ∀ F0 E, TkD X F0 E → ∀ F M H σ σ' Q, Ex F0 F → G X.K F M H → RpS X.K F σ σ' → σ'[i]? = some (some (.ref f)) → tl M Q (fun er M' => E er σ' M') → ∀ p1 p2, wE X (.Call (.Name a p1) [] [] p2) σ H (LQ X.K F Q)
structure Fit (Ω : Wl) (τ : Sx) (X : Cx) : Prop where
  P : X.prog = Ω.P
  w : X.w = Ω.w
  K : X.K = Ω.K
  mg : X.mg = Ω.mg
  base : X.base = Ω.base
  N : X.N = τ.N
  sc : X.env.scope = τ.sc
  room : RoomH τ.k X.A
  hd : τ.calm = true → X.A.handled = none
  calm : τ.calm = true → X.calm = true
  nd : τ.N.Nodup
  fn : ∀ x, τ.own x = true → L2.Loc τ.sc x → X.fn x = true ∨ X.env.scope.names.lookup x = some .local
  po : PassesOwn (model X.prog X.w) X.A X.env X.xe
  gd : X.A.guards = some []
  wd : Ω.w = Wd.w
  st : τ.dfn = true → X.stack = X.env :: X.outer ∧ X.env.frame = some X.env.locals
  lm : ∀ x, τ.lam = some x → X.env.code = .ref (Wd.lc x).1 ∧ X.env.qual = x ++ ".<locals>."
  ax : ∀ i a, τ.act = some (i, a) → ActP i a Fb.ag Fb.atl X ∧ ∀ pn xe, ActP i a Fb.ag Fb.atl (X.tr pn xe)

theorem Fit.roomC {Ω : Wl} {τ : Sx} {X : Cx} (ft : Fit Ω τ X) (hc : τ.calm = true) : Room τ.k X.A := ⟨ft.hd hc, ft.room.dp, ft.room.un⟩
theorem pe_wE {X : Cx} {e : Expr} : PE X e (wE X e) := ⟨fun pins s _ _ _ I h => h pins s I⟩
theorem wE_of {X : Cx} {e : Expr} {t : TE} (h : PE X e t) {σ : L2.St} {H : Hp} {Q : VK} (q : t σ H Q) : wE X e σ H Q := fun pins s I => h.run pins s σ H Q I q
theorem wE_mono {X : Cx} {e : Expr} {σ : L2.St} {H : Hp} {Q Q' : VK} (h : wE X e σ H Q) (k : ∀ v H', Q v H' → Q' v H') : wE X e σ H Q' := fun pins s I =>
  thn (h pins s I) fun _ _ ⟨v, H', I', r, q⟩ => ⟨v, H', I', r, k v H' q⟩
def wT (X : Cx) (e : Expr) : TT := fun σ H Q => ∀ pins s, Inv X pins σ H s → wpAny (model X.prog X.w) X.A (isTrue e X.env (eval e X.env)) (TP X pins σ Q) X.xe s
theorem pt_wT {X : Cx} {e : Expr} : PT X e (wT X e) := ⟨fun pins s _ _ _ I h => h pins s I⟩
theorem wT_of {X : Cx} {e : Expr} {t : TT} (h : PT X e t) {σ : L2.St} {H : Hp} {Q : Bool → Hp → Prop} (q : t σ H Q) : wT X e σ H Q := fun pins s I => h.run pins s σ H Q I q
theorem wT_mono {X : Cx} {e : Expr} {σ : L2.St} {H : Hp} {Q Q' : Bool → Hp → Prop} (h : wT X e σ H Q) (k : ∀ v H', Q v H' → Q' v H') : wT X e σ H Q' := fun pins s I =>
  thn (h pins s I) fun _ _ ⟨H', I', q⟩ => ⟨H', I', k _ H' q⟩
def wA (X : Cx) (es : List Expr) : TA := fun σ H Q => ∀ pos pins s, Inv X pins σ H s → wpAny (model X.prog X.w) X.A (spliced (backTo pos (starEach es X.env))) (AP X pins σ Q) X.xe s
theorem pa_wA {X : Cx} {es : List Expr} : PA X es (wA X es) := ⟨fun pos pins s _ _ _ I h => h pos pins s I⟩
theorem wA_of {X : Cx} {es : List Expr} {t : TA} (h : PA X es t) {σ : L2.St} {H : Hp} {Q : List V → Hp → Prop} (q : t σ H Q) : wA X es σ H Q := fun pos pins s I => h.run pos pins s σ H Q I q
theorem wA_mono {X : Cx} {es : List Expr} {σ : L2.St} {H : Hp} {Q Q' : List V → Hp → Prop} (h : wA X es σ H Q) (k : ∀ v H', Q v H' → Q' v H') : wA X es σ H Q' := fun pos pins s I =>
  thn (h pos pins s I) fun _ _ ⟨v, H', I', r, q⟩ => ⟨v, H', I', r, k v H' q⟩
def wS (X : Cx) (st : Stmt) : TS := fun D σ H => ∀ pins s, Inv X pins σ H s → wpAny (model X.prog X.w) X.A (exec st X.env) (SP X pins D) X.xe s
theorem ps_wS {X : Cx} {st : Stmt} : PS X st (wS X st) := ⟨fun pins s _ _ _ I h => h pins s I⟩
theorem wS_of {X : Cx} {st : Stmt} {t : TS} (h : PS X st t) {σ : L2.St} {H : Hp} {D : Ends} (q : t D σ H) : wS X st D σ H := fun pins s I => h.run pins s σ H D I q
def wSs (X : Cx) (st : List Stmt) : TS := fun D σ H => ∀ pins s, Inv X pins σ H s → wpAny (model X.prog X.w) X.A (execs st X.env) (SP X pins D) X.xe s
theorem pss_wSs {X : Cx} {st : List Stmt} : PSs X st (wSs X st) := ⟨fun pins s _ _ _ I h => h pins s I⟩
theorem wSs_of {X : Cx} {st : List Stmt} {t : TS} (h : PSs X st t) {σ : L2.St} {H : Hp} {D : Ends} (q : t D σ H) : wSs X st D σ H := fun pins s I => h.run pins s σ H D I q
structure Ends.Le (D D' : Ends) : Prop where
  nx : ∀ σ H, D.nx σ H → D'.nx σ H
  rt : ∀ v H, D.rt v H → D'.rt v H
  bk : ∀ σ H, D.bk σ H → D'.bk σ H
  ct : ∀ σ H, D.ct σ H → D'.ct σ H
theorem SP.mono {X : Cx} {pins : List (Addr × Obj)} {D D' : Ends} (l : Ends.Le D D') : ∀ (f : Flow) (s : Shared), SP X pins D f s → SP X pins D' f s
  | .next, _, ⟨σ', H', I, q⟩ => ⟨σ', H', I, l.nx _ _ q⟩
  | .brk, _, ⟨σ', H', I, q⟩ => ⟨σ', H', I, l.bk _ _ q⟩
  | .cont, _, ⟨σ', H', I, q⟩ => ⟨σ', H', I, l.ct _ _ q⟩
  | .ret _, _, ⟨v, σ', H', I, r, q⟩ => ⟨v, σ', H', I, r, l.rt _ _ q⟩
theorem wS_mono {X : Cx} {st : Stmt} {σ : L2.St} {H : Hp} {D D' : Ends} (h : wS X st D σ H) (l : Ends.Le D D') : wS X st D' σ H := fun pins s I => thn (h pins s I) (SP.mono l)
theorem wSs_mono {X : Cx} {st : List Stmt} {σ : L2.St} {H : Hp} {D D' : Ends} (h : wSs X st D σ H) (l : Ends.Le D D') : wSs X st D' σ H := fun pins s I => thn (h pins s I) (SP.mono l)

section
variable {K : PySem.W.Frag} {F F' : Hp}
theorem LQ.back (e : Ex F F') {Q : DQ} {v : V} {H : Hp} : LQ K F' Q v H → LQ K F Q v H := fun ⟨F1, M1, y, e1, g, r, q⟩ => ⟨F1, M1, y, e.trans e1, g, r, q⟩
theorem LB.back (e : Ex F F') {Q : Bool → MH → Prop} {b : Bool} {H : Hp} : LB K F' Q b H → LB K F Q b H := fun ⟨F1, M1, e1, g, q⟩ => ⟨F1, M1, e.trans e1, g, q⟩
theorem LA.back (e : Ex F F') {Q : List D → MH → Prop} {v : List V} {H : Hp} : LA K F' Q v H → LA K F Q v H := fun ⟨F1, M1, y, e1, g, r, q⟩ => ⟨F1, M1, y, e.trans e1, g, r, q⟩
theorem LS.back (e : Ex F F') {Q : DSt → MH → Prop} {σ : L2.St} {H : Hp} : LS K F' Q σ H → LS K F Q σ H := fun ⟨F1, M1, y, e1, g, r, q⟩ => ⟨F1, M1, y, e.trans e1, g, r, q⟩
theorem LE.back (e : Ex F F') {D : DEnds} : Ends.Le (LE K F' D) (LE K F D) := ⟨fun _ _ => LS.back e, fun _ _ => LQ.back e, fun _ _ => LS.back e, fun _ _ => LS.back e⟩
theorem LQ.here {M : MH} {H : Hp} {v : V} {y : D} {Q : DQ} (g : G K F M H) (r : Rp K F v y) (q : Q y M) : LQ K F Q v H := ⟨F, M, y, Ex.refl F, g, r, q⟩
end

/-- so that a judgement is not seen through -/
structure Hd (p : Prop) : Prop where
  run : p
/-- an expression reads as d -/
def DP (Ω : Wl) (τ : Sx) (e : Expr) (d : DE) : Prop := Hd (∀ X, Fit Ω τ X → ∀ F0 E, TkD X F0 E → ∀ F M H σ σ' Q, Ex F0 F → G X.K F M H → RpS X.K F σ σ' → d σ' M Q E → wE X e σ H (LQ X.K F Q))
def DPT (Ω : Wl) (τ : Sx) (e : Expr) (d : DT) : Prop := Hd (∀ X, Fit Ω τ X → ∀ F0 E, TkD X F0 E → ∀ F M H σ σ' Q, Ex F0 F → G X.K F M H → RpS X.K F σ σ' → d σ' M Q E → wT X e σ H (LB X.K F Q))
def DPA (Ω : Wl) (τ : Sx) (es : List Expr) (d : DA) : Prop := Hd (∀ X, Fit Ω τ X → ∀ F0 E, TkD X F0 E → ∀ F M H σ σ' Q, Ex F0 F → G X.K F M H → RpS X.K F σ σ' → d σ' M Q E → wA X es σ H (LA X.K F Q))
def DPS (Ω : Wl) (τ : Sx) (st : Stmt) (d : DS) : Prop := Hd (∀ X, Fit Ω τ X → ∀ F0 E, TkD X F0 E → ∀ F M H σ σ' D, Ex F0 F → G X.K F M H → RpS X.K F σ σ' → d D E σ' M → wS X st (LE X.K F D) σ H)
def DPSs (Ω : Wl) (τ : Sx) (st : List Stmt) (d : DS) : Prop := Hd (∀ X, Fit Ω τ X → ∀ F0 E, TkD X F0 E → ∀ F M H σ σ' D, Ex F0 F → G X.K F M H → RpS X.K F σ σ' → d D E σ' M → wSs X st (LE X.K F D) σ H)
end DL

/-! The deep layer, part ab: tuples that are known to have no dict: made, cut, joined, asked. -/
namespace DL
variable [DL.Wd] [DL.Fb]
open PySem PySem.Spec PyProof.Rows L2
section
variable {X : Cx} {pins : List (Addr × Obj)} {σ : L2.St} {H : Hp} {s : Shared}
theorem tob_new {h : Heap} {its : Array Value} : (h.push (tob its)).get? h.objs.size = some (tob its) := Heap.get?_push_size _ rfl
/-- a new tuple -/
theorem tob_laid {its : List Value} {vs : List V} (I : Inv X pins σ H s) (r : Vals vs its) (hz : vs.length ≤ sizeLine) : Inv X pins σ (upd H s.heap.objs.size (.frz (tob its.toArray) (.tup vs))) { s with heap := s.heap.push (tob its.toArray) } := by
  refine I.laid (t' := s.toks) (fun b u e => Heap.get?_push_of_some _ e) (Nat.le_refl _) ?_
  exact ⟨tob_new, hz, its, r, tob its.toArray, tob_new, rfl, 0, rfl⟩
def tupN (Q : VK) (H : Hp) (vs : List V) : Prop := ∀ p its, H p = none → Q (.ref p) (upd H p (.frz (tob its) (.tup vs)))
theorem tob_ep {its : List Value} {vs : List V} {Q : VK} (I : Inv X pins σ H s) (r : Vals vs its) (hz : vs.length ≤ sizeLine) (q : tupN Q H vs) : EP X pins σ Q (.ref s.heap.objs.size) { s with heap := s.heap.push (tob its.toArray) } :=
  ⟨.ref _, _, tob_laid I r hz, rfl, q _ _ (I.hok.fresh (Nat.le_refl _))⟩
/-- a display -/
def tTupF (ta : TA) : TE := fun σ H Q => ta σ H fun vs H1 => vs.length ≤ sizeLine ∧ tupN Q H1 vs
theorem pe_tupF {es : List Expr} {x1 : Nat} {pos : Pos} {ta : TA} (ha : PA X es ta) : PE X (.Tuple es x1 pos) (tTupF ta) := by
  refine ⟨fun pins s σ H Q I h => wpAny_Tuple_spliced (thn (ha.run pos pins s σ H _ I h) ?_)⟩
  rintro us s1 ⟨vs, H1, I1, r1, hz, q⟩
  exact ⟨by rw [← r1.length]; exact hz, tob_ep I1 r1 hz q⟩
/-- t + u -/
def rCatF (K : PySem.W.Frag) : R2 := fun x y H Q => ∃ a b xs ys, x = .ref a ∧ y = .ref b ∧ SqT K H a xs ∧ SqT K H b ys ∧ xs.length + ys.length ≤ sizeLine ∧ (xs = [] → Q (.ref b) H) ∧ (ys = [] → Q (.ref a) H) ∧ tupN Q H (xs ++ ys)
theorem op_catF : OpR X (binaryOp .Add) (rCatF X.K) := by
  rintro pins s σ H x y v u Q I rx ry ⟨a, b, xs, ys, rfl, rfl, ha, hb, hz, q0, q1, q2⟩
  obtain rfl : v = Value.ref a := rx
  obtain rfl : u = Value.ref b := ry
  obtain ⟨is1, r1, p1, _⟩ := I.tuple ha
  obtain ⟨is2, r2, p2, _⟩ := I.tuple hb
  cases xs with
  | nil => cases r1; exact cat_tup0 p1 p2 ⟨.ref b, H, I, rfl, q0 rfl⟩
  | cons x0 xr =>
    refine HT.cat_tup p1 p2 (fun z => ?_) (fun z => ⟨.ref a, H, I, rfl, q1 (r2.nil_iff.mp z)⟩) (fun z => ?_) (by rw [← r1.length, ← r2.length]; exact hz)
    · have := r1.nil_iff.mp z; cases this
    · exact tob_ep I (r1.append r2) (by rw [List.length_append]; exact hz) q2
/-- t[lo:hi] -/
def rSlF (K : PySem.W.Frag) : V → Option Int → Option Int → Hp → VK → Prop := fun x lo hi H Q => ∃ a xs, x = .ref a ∧ SqT K H a xs ∧ (HT.sIx xs.length 0 lo = 0 ∧ HT.sIx xs.length xs.length hi = xs.length → Q (.ref a) H) ∧ tupN Q H (cutV xs lo hi)
theorem sl_tupF : SlR X (rSlF X.K) := by
  rintro pins s σ H x v vl vu lo hi sl Q I rx hs pl pu ⟨a, xs, rfl, hx, q1, q2⟩
  obtain rfl : v = Value.ref a := rx
  obtain ⟨its, r1, ht, hz⟩ := I.tuple hx
  have hl : its.toArray.size = xs.length := by rw [List.size_toArray]; exact r1.length.symm
  refine ⟨"tuple", _, PyProof.Rows.slot_tuple_getitem.lookup, ht.typeIs, ?_⟩
  by_cases hw : HT.sIx xs.length 0 lo = 0 ∧ HT.sIx xs.length xs.length hi = xs.length
  · exact getItem_tuple_whole ht hs pl pu (by rw [hl]; exact hw) ⟨.ref a, H, I, rfl, q1 hw⟩
  · refine HT.getItem_tuple_cut ht hs pl pu (by rw [hl]; exact hw) ?_ (by rw [hl]; exact hz)
    rw [hl]
    exact tob_ep I ((r1.drop _).take _) (Nat.le_trans (cutV_length xs lo hi) hz) q2
/-- isinstance(x, c), x also a tuple -/
def rIsiF (K : PySem.W.Frag) : List V → Hp → VK → Prop := fun xs H Q => ∃ (x c : V) (t u : Value) (b : Bool), xs = [x, c] ∧ ClsV c u ∧ (TyX K H x t ∨ ∃ a ys, x = .ref a ∧ SqT K H a ys ∧ t = .type "tuple") ∧ PySem.W.kitOne K t u = some b ∧ Q (.bl b) H
/-- o.m(..) of a tuple that has no dict -/
def tBMF (r : V → List V → Hp → VK → Prop) (to : TE) (t : TA) : TE := fun σ H Q => to σ H fun x H1 => (∃ a vs, x = .ref a ∧ TupF H1 a vs) ∧ t σ H1 fun vs H2 => r x vs H2 Q
end
end DL

/-! The deep layer, part b: names, operators, comparisons, tests, displays, subscripts. -/
namespace DL
variable [DL.Wd] [DL.Fb]
open PySem PySem.Spec PyProof.Rows L2
section
variable {Ω : Wl} {τ : Sx} {X : Cx} {a b c e : Expr} {es rest : List Expr} {da db dc de : DE} {ta tb : DT} {tl tr : DA} {pos p : Pos} {x : Str}

/-! ### names -/
def dVar (i : Nat) : DE := fun σ M Q _ => match σ[i]? with
  | some (some d) => Q d M
  | _ => False
def dC (d : D) : DE := fun _ M Q _ => Q d M
/-- a scope: which slots are seen (vs) and may be stored (ls), which names are the module's (gs) -/
structure ScOk (N : List Str) (vs : List Nat) (gs : List Str) (sc : Scope) : Prop where
  vis : ∀ i ∈ vs, ∀ x, N[i]? = some x → Vis sc x
  gl : ∀ x ∈ gs, sc.names.lookup x = some .globalImplicit
def scOkB (N : List Str) (vs : List Nat) (gs : List Str) (sc : Scope) : Bool :=
  (vs.all fun i => match N[i]? with
    | some x => match sc.names.lookup x with
      | some .local => true
      | some .cell => true
      | some .free => true
      | _ => false
    | none => true) && gs.all fun x => match sc.names.lookup x with
      | some .globalImplicit => true
      | _ => false
theorem scOk_of {N : List Str} {vs : List Nat} {gs : List Str} {sc : Scope} (h : scOkB N vs gs sc = true) : ScOk N vs gs sc := by
  unfold scOkB at h
  rw [Bool.and_eq_true, List.all_eq_true, List.all_eq_true] at h
  refine ⟨fun i hi x hx => ?_, fun x hx => ?_⟩
  · have q := h.1 i hi
    simp only [hx] at q
    unfold Vis
    split at q
    · exact .inl (by assumption)
    · exact .inr (.inl (by assumption))
    · exact .inr (.inr (by assumption))
    · cases q
  · have q := h.2 x hx
    split at q
    · assumption
    · cases q
variable {vs : List Nat} {gs : List Str}
theorem dp_var (S : ScOk τ.N vs gs τ.sc) (i : Nat) (hN : τ.N[i]? = some x := by rfl) (hi : i ∈ vs := by decide) (hd : (x == ("__debug__" : Str)) = false := by decide) (hcd : (x == ("__classdict__" : Str)) = false := by decide) : DP Ω τ (.Name x pos) (dVar i) := by
  refine ⟨?_⟩
  intro X ft F0 E tk F M H σ σ' Q e0 g r h
  refine wE_of (pe_var (i := i) (by rw [ft.N]; exact hN) (by rw [ft.sc]; exact S.vis i hi x hN) hd hcd) ?_
  unfold dVar at h
  split at h
  · rename_i d hs
    obtain ⟨v, h1, h2⟩ := r.get hs
    exact ⟨v, h1, .here g h2 h⟩
  · exact h.elim
theorem fit_gl (ft : Fit Ω τ X) (S : ScOk τ.N vs gs τ.sc) (hg : x ∈ gs) : Gl X x := by
  unfold Gl
  show X.env.scope.names.lookup x = _
  rw [ft.sc]; exact S.gl x hg
/-- a name of the module that holds a constant -/
theorem dp_glob {d : D} {v : V} {u : Value} (S : ScOk τ.N vs gs τ.sc) (hm : Ω.mg x = some u) (rv : RelV v u) (hr : ∀ F, Rp Ω.K F v d) (hg : x ∈ gs := by decide) (hd : (x == ("__debug__" : Str)) = false := by decide) : DP Ω τ (.Name x pos) (dC d) := by
  refine ⟨?_⟩
  intro X ft F0 E tk F M H σ σ' Q e0 g r h
  exact wE_of (pe_glob (fit_gl ft S hg) (by rw [ft.mg]; exact hm) rv hd) (.here g (by rw [ft.K]; exact hr F) h)
theorem dp_int {i j pos} : DP Ω τ (.Constant (.int i) j pos) (dC (.int i)) := Hd.mk fun X ft F0 E tk F M H σ σ' Q e0 g r h => wE_of pe_int (.here g (.int _) h)
theorem dp_bl {b j pos} : DP Ω τ (.Constant (.bool b) j pos) (dC (.bl b)) := Hd.mk fun X ft F0 E tk F M H σ σ' Q e0 g r h => wE_of pe_bl (.here g (.bl _) h)
theorem dp_non {j pos} : DP Ω τ (.Constant .none j pos) (dC .non) := Hd.mk fun X ft F0 E tk F M H σ σ' Q e0 g r h => wE_of pe_non (.here g .non h)
theorem dp_str {x j pos} : DP Ω τ (.Constant (.str x) j pos) (dC (.str x)) := Hd.mk fun X ft F0 E tk F M H σ σ' Q e0 g r h => wE_of pe_str (.here g (.str _) h)

/-! ### two parts in a row -/
theorem go2 (ha : DP Ω τ a da) (hb : DP Ω τ b db) (ft : Fit Ω τ X) {F0 : Hp} {E : EK} (tk : TkD X F0 E) {F : Hp} {M : MH} {H : Hp} {σ : L2.St} {σ' : DSt} {R : D → D → MH → Prop} (e0 : Ex F0 F) (g : G X.K F M H) (r : RpS X.K F σ σ')
    (h : da σ' M (fun x M1 => db σ' M1 (fun y M2 => R x y M2) E) E) {T : V → V → Hp → Prop} (hT : ∀ F' M' H' x y x' y', Ex F F' → G X.K F' M' H' → Rp X.K F' x x' → Rp X.K F' y y' → R x' y' M' → T x y H') :
    wE X a σ H fun x H1 => wE X b σ H1 fun y H2 => T x y H2 :=
  wE_mono (ha.run X ft F0 E tk F M H σ σ' _ e0 g r h) fun x H1 ⟨F1, M1, x', e1, g1, r1, q1⟩ =>
    wE_mono (hb.run X ft F0 E tk F1 M1 H1 σ σ' _ (e0.trans e1) g1 (r.mono e1) q1) fun y H2 ⟨F2, M2, y', e2, g2, r2, q2⟩ => hT F2 M2 H2 x y x' y' (e1.trans e2) g2 (r1.mono e2) r2 q2

abbrev Op2 := D → D → MH → DQ → Prop
abbrev Op1 := D → MH → DQ → Prop
def wOp (X : Cx) (f : Value → Value → Sem Value) : R2 := fun x y H Q => ∀ pins s σ v u, Inv X pins σ H s → RelV x v → RelV y u → wpAny (model X.prog X.w) X.A (f v u) (EP X pins σ Q) X.xe s
theorem opR_w {f : Value → Value → Sem Value} : OpR X f (wOp X f) := fun pins s σ _ _ _ v u _ I rx ry h => h pins s σ v u I rx ry
theorem wOp_of {f : Value → Value → Sem Value} {r : R2} (o : OpR X f r) {x y : V} {H : Hp} {Q : VK} (h : r x y H Q) : wOp X f x y H Q := fun pins s σ v u I rx ry => o pins s σ H x y v u Q I rx ry h
theorem wOp_mono {f : Value → Value → Sem Value} {x y : V} {H : Hp} {Q Q' : VK} (h : wOp X f x y H Q) (k : ∀ v H', Q v H' → Q' v H') : wOp X f x y H Q' := fun pins s σ v u I rx ry =>
  thn (h pins s σ v u I rx ry) fun _ _ ⟨v', H', I', r, q⟩ => ⟨v', H', I', r, k v' H' q⟩
/-- an operator, by data -/
def OpD (X : Cx) (f : Value → Value → Sem Value) (o : Op2) : Prop := ∀ F M H x y x' y' Q, G X.K F M H → Rp X.K F x x' → Rp X.K F y y' → o x' y' M Q → wOp X f x y H (LQ X.K F Q)
def dOp (o : Op2) (da db : DE) : DE := fun σ M Q E => da σ M (fun x M1 => db σ M1 (fun y M2 => o x y M2 Q) E) E
theorem dp_bin {op : Operator} {o : Op2} (ho : ∀ X, Fit Ω τ X → OpD X (binaryOp op) o) (ha : DP Ω τ a da) (hb : DP Ω τ b db) : DP Ω τ (.BinOp a op b pos) (dOp o da db) := Hd.mk fun X ft F0 E tk F M H σ σ' Q e0 g r h =>
  wE_of (pe_op opR_w pe_wE pe_wE) (go2 ha hb ft tk e0 g r h fun F' M' H' x y x' y' e' g' rx ry q => wOp_mono (ho X ft F' M' H' x y x' y' Q g' rx ry q) fun _ _ => LQ.back e')
theorem dp_cmp {op : CmpOp} {o : Op2} (ho : ∀ X, Fit Ω τ X → OpD X (compareOp op) o) (ha : DP Ω τ a da) (hb : DP Ω τ b db) (hm : behindInMarks op b = false) : DP Ω τ (.Compare a [op] [b] pos) (dOp o da db) := Hd.mk fun X ft F0 E tk F M H σ σ' Q e0 g r h =>
  wE_of (pe_cmpR opR_w pe_wE pe_wE hm) (go2 ha hb ft tk e0 g r h fun F' M' H' x y x' y' e' g' rx ry q => wOp_mono (ho X ft F' M' H' x y x' y' Q g' rx ry q) fun _ _ => LQ.back e')
/-- a value as a test -/
def dTest (d : DE) : DT := fun σ M Q E => d σ M (fun x M1 => match x with
  | .bl b => Q b M1
  | _ => False) E
theorem LQ.test {K : PySem.W.Frag} {F : Hp} {Q : Bool → MH → Prop} {v : V} {H : Hp} (h : LQ K F (fun x M1 => match x with
  | .bl b => Q b M1
  | _ => False) v H) : ∃ k, v = .bl k ∧ LB K F Q k H := by
  obtain ⟨F', M', y, e, g, r, q⟩ := h
  cases y <;> first | exact q.elim | skip
  rename_i b
  cases r
  exact ⟨b, rfl, F', M', e, g, q⟩
theorem dpt_cmp {op : CmpOp} {o : Op2} (ho : ∀ X, Fit Ω τ X → OpD X (compareOp op) o) (ha : DP Ω τ a da) (hb : DP Ω τ b db) (hm : behindInMarks op b = false) : DPT Ω τ (.Compare a [op] [b] pos) (dTest (dOp o da db)) := Hd.mk fun X ft F0 E tk F M H σ σ' Q e0 g r h =>
  wT_of (pt_cmpR opR_w pe_wE pe_wE hm) (go2 ha hb ft tk e0 g r h fun F' M' H' x y x' y' e' g' rx ry q => wOp_mono (ho X ft F' M' H' x y x' y' _ g' rx ry q) fun _ _ z => by
    obtain ⟨k, h1, h2⟩ := LQ.test z
    exact ⟨k, h1, h2.back e'⟩)
theorem dpt_val (h : DP Ω τ e de) (he : ∀ env whole, isTrue e env whole = (do let v ← whole; standAt e.pos; holding [v] (truthy v)) := by intro _ _; rfl) : DPT Ω τ e (dTest de) := Hd.mk fun X ft F0 E tk F M H σ σ' Q e0 g r hd =>
  wT_of (pt_val pe_wE (he X.env)) (wE_mono (h.run X ft F0 E tk F M H σ σ' _ e0 g r hd) fun v H1 z => LQ.test z)

/-! ### chains: a < b < c, each middle one asked once -/
def dChain (o o' : Op2) (da db dc : DE) : DE := fun σ M Q E => da σ M (fun x M1 => db σ M1 (fun y M2 => o x y M2 fun z M3 => match z with
  | .bl true => dc σ M3 (fun w M4 => o' y w M4 Q) E
  | .bl false => Q (.bl false) M3
  | _ => False) E) E

/-! ### tests -/
def dAnd (ta tb : DT) : DT := fun σ M Q E => ta σ M (fun b M1 => (b = true → tb σ M1 Q E) ∧ (b = false → Q false M1)) E
def dOr (ta tb : DT) : DT := fun σ M Q E => ta σ M (fun b M1 => (b = true → Q true M1) ∧ (b = false → tb σ M1 Q E)) E
def dNot (ta : DT) : DT := fun σ M Q E => ta σ M (fun b M1 => Q (!b) M1) E
def wW (X : Cx) (e : Expr) : TT := fun σ H Q => ∀ wh pins s, Inv X pins σ H s → wpAny (model X.prog X.w) X.A (isTrue e X.env wh) (TP X pins σ Q) X.xe s
theorem pw_wW {X : Cx} {e : Expr} : PW X e (wW X e) := ⟨fun wh pins s _ _ _ I h => h wh pins s I⟩
theorem wW_of {X : Cx} {e : Expr} {t : TT} (h : PW X e t) {σ : L2.St} {H : Hp} {Q : Bool → Hp → Prop} (q : t σ H Q) : wW X e σ H Q := fun wh pins s I => h.run wh pins s σ H Q I q
theorem wW_mono {X : Cx} {e : Expr} {σ : L2.St} {H : Hp} {Q Q' : Bool → Hp → Prop} (h : wW X e σ H Q) (k : ∀ v H', Q v H' → Q' v H') : wW X e σ H Q' := fun wh pins s I =>
  thn (h wh pins s I) fun _ _ ⟨H', I', q⟩ => ⟨H', I', k _ H' q⟩
/-- a test whatever its whole is -/
def DPW (Ω : Wl) (τ : Sx) (e : Expr) (d : DT) : Prop := Hd (∀ X, Fit Ω τ X → ∀ F0 E, TkD X F0 E → ∀ F M H σ σ' Q, Ex F0 F → G X.K F M H → RpS X.K F σ σ' → d σ' M Q E → wW X e σ H (LB X.K F Q))
theorem DPW.pt (h : DPW Ω τ e ta) : DPT Ω τ e ta := Hd.mk fun X ft F0 E tk F M H σ σ' Q e0 g r hd pins s I => h.run X ft F0 E tk F M H σ σ' Q e0 g r hd _ pins s I
theorem dpw_or1 (ha : DPT Ω τ a ta) : DPW Ω τ (.BoolOp .Or [a] pos) ta := Hd.mk fun X ft F0 E tk F M H σ σ' Q e0 g r h => wW_of (pw_or1 pt_wT) (ha.run X ft F0 E tk F M H σ σ' Q e0 g r h)
theorem dpw_or (ha : DPT Ω τ a ta) (hb : DPW Ω τ (.BoolOp .Or (b :: rest) pos) tb) : DPW Ω τ (.BoolOp .Or (a :: b :: rest) pos) (dOr ta tb) := Hd.mk fun X ft F0 E tk F M H σ σ' Q e0 g r h => by
  refine wW_of (pw_or pt_wT pw_wW) (wT_mono (ha.run X ft F0 E tk F M H σ σ' _ e0 g r h) ?_)
  rintro k H1 ⟨F1, M1, e1, g1, q1, q2⟩
  cases k with
  | true => exact iteT ⟨F1, M1, e1, g1, q1 rfl⟩
  | false => exact iteF (wW_mono (hb.run X ft F0 E tk F1 M1 H1 σ σ' Q (e0.trans e1) g1 (r.mono e1) (q2 rfl)) fun _ _ => LB.back e1)
theorem dpt_not (ha : DPT Ω τ a ta) : DPT Ω τ (.UnaryOp .Not a pos) (dNot ta) := Hd.mk fun X ft F0 E tk F M H σ σ' Q e0 g r h =>
  wT_of (pt_not pt_wT) (wT_mono (ha.run X ft F0 E tk F M H σ σ' _ e0 g r h) fun k H1 ⟨F1, M1, e1, g1, q1⟩ => ⟨F1, M1, e1, g1, q1⟩)
/-! as values -/
def asV (t : DT) : DE := fun σ M Q E => t σ M (fun b M1 => Q (.bl b) M1) E
def dAndV (da db : DE) : DE := fun σ M Q E => da σ M (fun x M1 => match x with
  | .bl b => (b = true → db σ M1 Q E) ∧ (b = false → Q (.bl false) M1)
  | _ => False) E
def dOrV (da db : DE) : DE := fun σ M Q E => da σ M (fun x M1 => match x with
  | .bl b => (b = true → Q (.bl true) M1) ∧ (b = false → db σ M1 Q E)
  | _ => False) E
def dNotV (da : DE) : DE := fun σ M Q E => da σ M (fun x M1 => match x with
  | .bl b => Q (.bl (!b)) M1
  | _ => False) E
theorem dp_one {op : BoolOp} (ha : DP Ω τ a da) : DP Ω τ (.BoolOp op [a] pos) da := Hd.mk fun X ft F0 E tk F M H σ σ' Q e0 g r h => wE_of (pe_one pe_wE) (ha.run X ft F0 E tk F M H σ σ' Q e0 g r h)
theorem dp_and (ha : DP Ω τ a da) (hb : DP Ω τ (.BoolOp .And (b :: rest) pos) db) : DP Ω τ (.BoolOp .And (a :: b :: rest) pos) (dAndV da db) := Hd.mk fun X ft F0 E tk F M H σ σ' Q e0 g r h => by
  refine wE_of (pe_and pe_wE pe_wE) (wE_mono (ha.run X ft F0 E tk F M H σ σ' _ e0 g r h) ?_)
  rintro v H1 ⟨F1, M1, y, e1, g1, r1, q1⟩
  cases y <;> first | exact q1.elim | skip
  rename_i k
  cases r1
  refine ⟨k, rfl, ?_⟩
  cases k with
  | true => exact iteT (wE_mono (hb.run X ft F0 E tk F1 M1 H1 σ σ' Q (e0.trans e1) g1 (r.mono e1) (q1.1 rfl)) fun _ _ => LQ.back e1)
  | false => exact iteF ⟨F1, M1, _, e1, g1, .bl false, q1.2 rfl⟩
theorem dp_not (ha : DP Ω τ a da) : DP Ω τ (.UnaryOp .Not a pos) (dNotV da) := Hd.mk fun X ft F0 E tk F M H σ σ' Q e0 g r h => by
  refine wE_of (pe_not pe_wE) (wE_mono (ha.run X ft F0 E tk F M H σ σ' _ e0 g r h) ?_)
  rintro v H1 ⟨F1, M1, y, e1, g1, r1, q1⟩
  cases y <;> first | exact q1.elim | skip
  rename_i k
  cases r1
  exact ⟨k, rfl, F1, M1, _, e1, g1, .bl _, q1⟩
def dIf (t : DT) (da db : DE) : DE := fun σ M Q E => t σ M (fun b M1 => (b = true → da σ M1 Q E) ∧ (b = false → db σ M1 Q E)) E
/-! ### argument lists, displays -/
section
variable {env : Env}
theorem star_const {k j q} : starEach (.Constant k j q :: es) env = (false, eval (.Constant k j q) env) :: starEach es env := by rfl
theorem star_name {y q} : starEach (.Name y q :: es) env = (false, eval (.Name y q) env) :: starEach es env := by rfl
theorem star_bin {u v o q} : starEach (.BinOp u o v q :: es) env = (false, eval (.BinOp u o v q) env) :: starEach es env := by rfl
theorem star_call {u v o q} : starEach (.Call u v o q :: es) env = (false, eval (.Call u v o q) env) :: starEach es env := by rfl
theorem star_attr {u v q} : starEach (.Attribute u v q :: es) env = (false, eval (.Attribute u v q) env) :: starEach es env := by rfl
theorem star_sub {u v q} : starEach (.Subscript u v q :: es) env = (false, eval (.Subscript u v q) env) :: starEach es env := by rfl
theorem star_list {u q} : starEach (.List u q :: es) env = (false, eval (.List u q) env) :: starEach es env := by rfl
theorem star_tup {u k q} : starEach (.Tuple u k q :: es) env = (false, eval (.Tuple u k q) env) :: starEach es env := by rfl
end
def dNil : DA := fun _ M Q _ => Q [] M
def dCons (da : DE) (tr : DA) : DA := fun σ M Q E => da σ M (fun x M1 => tr σ M1 (fun xs M2 => Q (x :: xs) M2) E) E
theorem dpa_nil : DPA Ω τ [] dNil := Hd.mk fun X ft F0 E tk F M H σ σ' Q e0 g r h => wA_of pa_nil ⟨F, M, [], Ex.refl F, g, .nil, h⟩
theorem dpa_cons (ha : DP Ω τ e de) (hr : DPA Ω τ es tr) (hs : ∀ env, starEach (e :: es) env = (false, eval e env) :: starEach es env := by intro _; first | with_reducible exact star_const | with_reducible exact star_name | with_reducible exact star_bin | with_reducible exact star_call | with_reducible exact star_attr | with_reducible exact star_sub | with_reducible exact star_list | with_reducible exact star_tup | rfl) : DPA Ω τ (e :: es) (dCons de tr) := Hd.mk fun X ft F0 E tk F M H σ σ' Q e0 g r h => by
  refine wA_of (pa_cons pe_wE pa_wA (hs X.env)) (wE_mono (ha.run X ft F0 E tk F M H σ σ' _ e0 g r h) ?_)
  rintro v H1 ⟨F1, M1, y, e1, g1, r1, q1⟩
  refine wA_mono (hr.run X ft F0 E tk F1 M1 H1 σ σ' _ (e0.trans e1) g1 (r.mono e1) q1) ?_
  rintro ws H2 ⟨F2, M2, ys, e2, g2, r2, q2⟩
  exact ⟨F2, M2, y :: ys, e1.trans e2, g2, .cons (r1.mono e2) r2, q2⟩
/-- *e in a display: a tuple, a list that stands still, or one that may change -/
def seqD : D → MH → (List D → Prop) → Prop
  | .tup xs, _, R => R xs
  | .wtp xs, _, R => R xs
  | .lst xs, _, R => R xs
  | .scr ns, _, R => R (ns.map D.int)
  | .ref a, M, R => ∃ xs, M a = some (.lst xs) ∧ R xs
  | _, _, _ => False
theorem rpl_ints {K : PySem.W.Frag} {F : Hp} : ∀ ns : List Int, RpL K F (ns.map V.int) (ns.map D.int)
  | [] => .nil
  | n :: ns => .cons (.int n) (rpl_ints ns)
theorem seqD_ok {K : PySem.W.Frag} {F : Hp} {M : MH} {H : Hp} {v : V} {d : D} {R : List D → Prop} (g : G K F M H) (r : Rp K F v d) (h : seqD d M R) : ∃ p ws xs, v = .ref p ∧ (SqT K H p ws ∨ SqL K H p ws) ∧ RpL K F ws xs ∧ R xs := by
  cases d <;> first | exact h.elim | skip
  case tup xs =>
    cases r with | tup hs hr => exact ⟨_, _, _, rfl, .inl (SqT.fz (hs.mono g.ex)), hr, h⟩
  case wtp xs =>
    cases r with | wtp hs hr => exact ⟨_, _, _, rfl, .inl (g.ex.st hs), hr, h⟩
  case lst xs =>
    cases r with | lst hs hr => exact ⟨_, _, _, rfl, .inr (SqL.of (g.ex _ _ hs)), hr, h⟩
  case ref a =>
    cases r
    obtain ⟨xs, h1, h2⟩ := h
    obtain ⟨h3, ws, h4, h5⟩ := g.mo _ _ h1
    exact ⟨_, _, _, rfl, .inr (SqL.of h4), h5, h2⟩
  case scr ns =>
    cases r with | scr hs => exact ⟨_, _, _, rfl, .inr (g.ex.sl hs), rpl_ints ns, h⟩
def dStar (da : DE) (tr : DA) : DA := fun σ M Q E => da σ M (fun x M1 => seqD x M1 fun xs => tr σ M1 (fun ys M2 => Q (xs ++ ys) M2) E) E
theorem rp_tupN {K : PySem.W.Frag} {F H : Hp} {M : MH} {p : Addr} {its : Array Value} {vs : List V} {ds : List D} {Q : DQ} (g : G K F M H) (h : H p = none) (r : RpL K F vs ds) (q : Q (.tup ds) M) : LQ K F Q (.ref p) (upd H p (.frz (tob its) (.tup vs))) := by
  obtain ⟨g1, e1⟩ := g.new h (.frz (tob its) (.tup vs))
  exact ⟨_, M, .tup ds, e1, g1, .tup ⟨its, upd_same⟩ (r.mono e1), q⟩
theorem rp_lstN {K : PySem.W.Frag} {F H : Hp} {M : MH} {p : Addr} {vs : List V} {ds : List D} {Q : DQ} (g : G K F M H) (h : H p = none) (r : RpL K F vs ds) (q : Q (.lst ds) M) : LQ K F Q (.ref p) (upd H p (.lst vs)) := by
  obtain ⟨g1, e1⟩ := g.new h (.lst vs)
  exact ⟨_, M, .lst ds, e1, g1, .lst upd_same (r.mono e1), q⟩
theorem rp_lstM {K : PySem.W.Frag} {F H : Hp} {M : MH} {p : Addr} {vs : List V} {ds : List D} {Q : DQ} (g : G K F M H) (h : H p = none) (r : RpL K F vs ds) (q : ∀ p, M p = none → Q (.ref p) (M.put p (.lst ds))) : LQ K F Q (.ref p) (upd H p (.lst vs)) :=
  ⟨F, M.put p (.lst ds), .ref p, Ex.refl F, g.newM h (o := .lst vs) (u := .lst ds) ⟨vs, upd_same, r⟩, .ref p, q p (g.fresh h).2⟩
def lenOk (n : Nat) : Prop := n ≤ 100000
theorem lenOk.sz {n : Nat} (h : lenOk n) : n ≤ sizeLine := Nat.le_trans h (by decide)
theorem lenOk.lt {n : Nat} (h : lenOk n) : n < sizeLine := Nat.lt_of_le_of_lt h (by decide)
def dTup (t : DA) : DE := fun σ M Q E => t σ M (fun xs M1 => lenOk xs.length ∧ Q (.tup xs) M1) E
/-- a list that will not change -/
def dLst (t : DA) : DE := fun σ M Q E => t σ M (fun xs M1 => lenOk xs.length ∧ Q (.lst xs) M1) E
/-- a list that may change -/
def dNew (t : DA) : DE := fun σ M Q E => t σ M (fun xs M1 => lenOk xs.length ∧ ∀ p, M1 p = none → Q (.ref p) (M1.put p (.lst xs))) E
theorem dp_tup {x1} (h : DPA Ω τ es tl) : DP Ω τ (.Tuple es x1 pos) (dTup tl) := Hd.mk fun X ft F0 E tk F M H σ σ' Q e0 g r hd =>
  wE_of (pe_tupF pa_wA) (wA_mono (h.run X ft F0 E tk F M H σ σ' _ e0 g r hd) fun vs H1 ⟨F1, M1, ys, e1, g1, r1, q1⟩ => ⟨by rw [r1.length]; exact q1.1.sz, fun p _ hp => (rp_tupN g1 hp r1 q1.2).back e1⟩)
theorem dp_lst (h : DPA Ω τ es tl) : DP Ω τ (.List es pos) (dLst tl) := Hd.mk fun X ft F0 E tk F M H σ σ' Q e0 g r hd =>
  wE_of (pe_lst pa_wA) (wA_mono (h.run X ft F0 E tk F M H σ σ' _ e0 g r hd) fun vs H1 ⟨F1, M1, ys, e1, g1, r1, q1⟩ => ⟨by rw [r1.length]; exact q1.1.sz, fun p hp => (rp_lstN g1 hp r1 q1.2).back e1⟩)
theorem dp_new (h : DPA Ω τ es tl) : DP Ω τ (.List es pos) (dNew tl) := Hd.mk fun X ft F0 E tk F M H σ σ' Q e0 g r hd =>
  wE_of (pe_lst pa_wA) (wA_mono (h.run X ft F0 E tk F M H σ σ' _ e0 g r hd) fun vs H1 ⟨F1, M1, ys, e1, g1, r1, q1⟩ => ⟨by rw [r1.length]; exact q1.1.sz, fun p hp => (rp_lstM g1 hp r1 q1.2).back e1⟩)
end
end DL

/-! The deep layer, part c: data that are compared, the operators by data. -/
namespace DL
variable [DL.Wd] [DL.Fb]
open PySem PySem.Spec PyProof.Rows L2

mutual
def D.py : D → PyData
  | .non => .none
  | .bl b => .bool b
  | .int i => .int i
  | .str x => .str x
  | .tup xs => .tuple (D.pyL xs)
  | .lst xs => .list (D.pyL xs)
  | .scr ns => .list (ns.map PyData.int)
  | _ => .none
def D.pyL : List D → List PyData
  | [] => []
  | x :: xs => D.py x :: D.pyL xs
end
/-- pure data of n levels at most -/
def okN : Nat → D → Prop
  | _, .non => True
  | _, .bl _ => True
  | _, .int _ => True
  | _, .scr _ => False
  | _, .str x => PyData.strOk x = true
  | n + 1, .tup xs => ∀ x ∈ xs, okN n x
  | n + 1, .lst xs => ∀ x ∈ xs, okN n x
  | _, _ => False
mutual
def eqD : D → D → Bool
  | .non, .non => true
  | .bl a, .bl b => a == b
  | .bl a, .int j => (if a then 1 else 0) == j
  | .int i, .bl b => i == (if b then 1 else 0)
  | .int i, .int j => i == j
  | .str x, .str y => x == y
  | .lst xs, .lst ys => eqDL xs ys
  | .tup xs, .tup ys => eqDL xs ys
  | _, _ => false
def eqDL : List D → List D → Bool
  | [], [] => true
  | x :: xs, y :: ys => eqD x y && eqDL xs ys
  | _, _ => false
end
theorem okN.cases {n : Nat} {d : D} (h : okN n d) : d = .non ∨ (∃ b, d = .bl b) ∨ (∃ i, d = .int i) ∨ (∃ x, d = .str x ∧ PyData.strOk x = true) ∨ (∃ m xs, n = m + 1 ∧ d = .tup xs ∧ ∀ x ∈ xs, okN m x) ∨ (∃ m xs, n = m + 1 ∧ d = .lst xs ∧ ∀ x ∈ xs, okN m x) := by
  cases d with
  | non => exact .inl rfl
  | bl b => exact .inr (.inl ⟨b, rfl⟩)
  | int i => exact .inr (.inr (.inl ⟨i, rfl⟩))
  | str x => exact .inr (.inr (.inr (.inl ⟨x, rfl, by cases n <;> simpa [okN] using h⟩)))
  | tup xs =>
    cases n with
    | zero => simp [okN] at h
    | succ m => exact .inr (.inr (.inr (.inr (.inl ⟨m, xs, rfl, rfl, by simpa [okN] using h⟩))))
  | lst xs =>
    cases n with
    | zero => simp [okN] at h
    | succ m => exact .inr (.inr (.inr (.inr (.inr ⟨m, xs, rfl, rfl, by simpa [okN] using h⟩))))
  | _ => cases n <;> simp [okN] at h
theorem okN_lay : ∀ (n : Nat) (d : D), okN n d → d.py.canLay0 = true ∧ d.py.depth ≤ n := by
  intro n
  induction n with
  | zero =>
    intro d h
    rcases h.cases with rfl | ⟨b, rfl⟩ | ⟨i, rfl⟩ | ⟨x, rfl, hx⟩ | ⟨m, xs, hm, _⟩ | ⟨m, xs, hm, _⟩
    · simp [D.py, PyData.canLay0, PyData.depth]
    · simp [D.py, PyData.canLay0, PyData.depth]
    · simp [D.py, PyData.canLay0, PyData.depth]
    · simp [D.py, PyData.canLay0, PyData.depth, hx]
    · cases hm
    · cases hm
  | succ n ih =>
    have all : ∀ xs : List D, (∀ x ∈ xs, okN n x) → PyData.canLayAll0 (D.pyL xs) = true ∧ PyData.depthAll (D.pyL xs) ≤ n := by
      intro xs
      induction xs with
      | nil => intro _; simp [D.pyL, PyData.canLayAll0, PyData.depthAll]
      | cons x xs ihx =>
        intro h
        obtain ⟨h1, h2⟩ := ih x (h x List.mem_cons_self)
        obtain ⟨h3, h4⟩ := ihx fun y hy => h y (List.mem_cons_of_mem _ hy)
        simp only [D.pyL, PyData.canLayAll0, PyData.depthAll, h1, h3, Bool.and_self, true_and]
        omega
    intro d h
    rcases h.cases with rfl | ⟨b, rfl⟩ | ⟨i, rfl⟩ | ⟨x, rfl, hx⟩ | ⟨m, xs, hm, rfl, hx⟩ | ⟨m, xs, hm, rfl, hx⟩
    · simp [D.py, PyData.canLay0, PyData.depth]
    · simp [D.py, PyData.canLay0, PyData.depth]
    · simp [D.py, PyData.canLay0, PyData.depth]
    · simp [D.py, PyData.canLay0, PyData.depth, hx]
    · cases hm
      obtain ⟨h1, h2⟩ := all xs hx
      simp only [D.py, PyData.canLay0, PyData.depth, h1, true_and]; omega
    · cases hm
      obtain ⟨h1, h2⟩ := all xs hx
      simp only [D.py, PyData.canLay0, PyData.depth, h1, true_and]; omega
theorem okN_shaped {d : D} (h : okN 50 d) : SeqAt.shaped d.py = true := by
  obtain ⟨h1, h2⟩ := okN_lay 50 d h
  unfold SeqAt.shaped
  rw [h1, decide_eq_true (by omega : d.py.depth ≤ 64)]; rfl
section
variable {K : PySem.W.Frag} {F H : Hp}
theorem rp_dp (e : Ex F H) : ∀ (n : Nat) (d : D) (v : V), okN n d → Rp K F v d → Dp K H v d.py := by
  intro n
  induction n with
  | zero =>
    intro d v h r
    rcases h.cases with rfl | ⟨b, rfl⟩ | ⟨i, rfl⟩ | ⟨x, rfl, hx⟩ | ⟨m, xs, hm, _⟩ | ⟨m, xs, hm, _⟩
    · cases r; simp only [D.py]; exact .non
    · cases r; simp only [D.py]; exact .bl b
    · cases r; simp only [D.py]; exact .int i
    · cases r; simp only [D.py]; exact .str x
    · cases hm
    · cases hm
  | succ n ih =>
    have all : ∀ (xs : List D) (vs : List V), (∀ x ∈ xs, okN n x) → RpL K F vs xs → DpAll K H vs (D.pyL xs) := by
      intro xs
      induction xs with
      | nil => intro vs _ r; cases r; simp only [D.pyL]; exact .nil
      | cons x xs ihx =>
        intro vs h r
        cases r with | cons h1 h2 =>
        simp only [D.pyL]
        exact .cons (ih x _ (h x List.mem_cons_self) h1) (ihx _ (fun y hy => h y (List.mem_cons_of_mem _ hy)) h2)
    intro d v h r
    rcases h.cases with rfl | ⟨b, rfl⟩ | ⟨i, rfl⟩ | ⟨x, rfl, hx⟩ | ⟨m, xs, hm, rfl, hx⟩ | ⟨m, xs, hm, rfl, hx⟩
    · cases r; simp only [D.py]; exact .non
    · cases r; simp only [D.py]; exact .bl b
    · cases r; simp only [D.py]; exact .int i
    · cases r; simp only [D.py]; exact .str x
    · cases hm
      cases r with | tup hs hr =>
      simp only [D.py]
      exact .tup (SqT.fz (hs.mono e)) (all xs _ hx hr)
    · cases hm
      cases r with | lst hs hr =>
      simp only [D.py]
      exact .lst (SqL.of (e _ _ hs)) (all xs _ hx hr)
end
theorem eqD_py : ∀ (n : Nat) (x y : D), okN n x → okN n y → PyData.eqv x.py y.py = eqD x y := by
  intro n
  induction n with
  | zero =>
    intro x y hx hy
    rcases hx.cases with rfl | ⟨b, rfl⟩ | ⟨i, rfl⟩ | ⟨z, rfl, _⟩ | ⟨m, xs, hm, _⟩ | ⟨m, xs, hm, _⟩ <;>
    rcases hy.cases with rfl | ⟨b', rfl⟩ | ⟨i', rfl⟩ | ⟨z', rfl, _⟩ | ⟨m', xs', hm', _⟩ | ⟨m', xs', hm', _⟩ <;>
    first | (cases hm; done) | (cases hm'; done) | (simp only [D.py, PyData.eqv, eqD])
  | succ n ih =>
    have all : ∀ (xs ys : List D), (∀ x ∈ xs, okN n x) → (∀ x ∈ ys, okN n x) → PyData.eqvAll (D.pyL xs) (D.pyL ys) = eqDL xs ys := by
      intro xs
      induction xs with
      | nil => intro ys _ _; cases ys <;> simp only [D.pyL, PyData.eqvAll, eqDL]
      | cons x xs ihx =>
        intro ys h1 h2
        cases ys with
        | nil => simp only [D.pyL, PyData.eqvAll, eqDL]
        | cons y ys =>
          simp only [D.pyL, PyData.eqvAll, eqDL]
          rw [ih x y (h1 x List.mem_cons_self) (h2 y List.mem_cons_self), ihx ys (fun z hz => h1 z (List.mem_cons_of_mem _ hz)) (fun z hz => h2 z (List.mem_cons_of_mem _ hz))]
    intro x y hx hy
    rcases hx.cases with rfl | ⟨b, rfl⟩ | ⟨i, rfl⟩ | ⟨z, rfl, _⟩ | ⟨m, xs, hm, rfl, h1⟩ | ⟨m, xs, hm, rfl, h1⟩ <;>
    rcases hy.cases with rfl | ⟨b', rfl⟩ | ⟨i', rfl⟩ | ⟨z', rfl, _⟩ | ⟨m', xs', hm', rfl, h2⟩ | ⟨m', xs', hm', rfl, h2⟩ <;>
    first
      | (cases hm; cases hm'; simp only [D.py, PyData.eqv, eqD]; exact all _ _ h1 h2)
      | (simp only [D.py, PyData.eqv, eqD])

/-! ### the operators -/
section
variable {Ω : Wl} {τ : Sx} {X : Cx}
/-- what stands still, or what a changing list holds now -/
def datD : D → MH → (D → Prop) → Prop
  | .ref a, M, R => ∃ xs, M a = some (.lst xs) ∧ R (.lst xs)
  | d, _, R => R d
theorem datD_ok {K : PySem.W.Frag} {F : Hp} {M : MH} {H : Hp} {v : V} {d : D} {R : D → Prop} (g : G K F M H) (r : Rp K F v d) (h : datD d M R) : ∃ n F', (n = 0 ∨ n = 1) ∧ Ex F' H ∧ ∃ d', Rp K F' v d' ∧ R d' := by
  cases d
  case ref a =>
    obtain ⟨xs, h1, h2⟩ := h
    cases r
    obtain ⟨h3, ws, h4, h5⟩ := g.mo _ _ h1
    have ex : Ex F (upd F a (.lst ws)) := Ex.new h3
    refine ⟨1, upd F a (.lst ws), .inr rfl, fun b o q => ?_, .lst xs, .lst upd_same (h5.mono ex), h2⟩
    by_cases hb : b = a
    · subst hb; rw [upd_same] at q; cases q; exact h4
    · rw [upd_ne hb] at q; exact g.ex _ _ q
  all_goals exact ⟨0, F, .inl rfl, g.ex, _, r, h⟩
def eqOp : Op2 := fun x y M Q => match x, y with
  | .int i, .int j => Q (.bl (decide (i = j))) M
  | .str a, .str b => Q (.bl (decide (a = b))) M
  | x, y => datD x M fun x => datD y M fun y => okN 50 x ∧ okN 50 y ∧ Q (.bl (eqD x y)) M
def neOp : Op2 := fun x y M Q => match x, y with
  | .int i, .int j => Q (.bl (!decide (i = j))) M
  | .str a, .str b => Q (.bl (!decide (a = b))) M
  | x, y => datD x M fun x => datD y M fun y => okN 50 x ∧ okN 50 y ∧ Q (.bl (!eqD x y)) M
theorem decV_int {i j : Int} : decide (V.int i = V.int j) = decide (i = j) := by simp
theorem decV_str {i j : Str} : decide (V.str i = V.str j) = decide (i = j) := by simp
theorem opD_eq (ft : Fit Ω τ X) : OpD X (compareOp .Eq) eqOp := by
  intro F M H x y x' y' Q g rx ry h
  unfold eqOp at h
  split at h
  · cases rx; cases ry
    refine wOp_of op_eq ⟨rfl, ?_⟩
    rw [decV_int]
    exact .here g (.bl _) h
  · cases rx; cases ry
    refine wOp_of op_eq ⟨rfl, ?_⟩
    rw [decV_str]
    exact .here g (.bl _) h
  · obtain ⟨_, F1, _, e1, d1, r1, h⟩ := datD_ok g rx h
    obtain ⟨_, F2, _, e2, d2, r2, h1, h2, q⟩ := datD_ok g ry h
    refine wOp_of (op_eqD ft.room.units) ⟨_, _, rp_dp e1 50 _ _ h1 r1, rp_dp e2 50 _ _ h2 r2, okN_shaped h1, okN_shaped h2, ?_⟩
    rw [eqD_py 50 _ _ h1 h2]
    exact .here g (.bl _) q
theorem opD_ne (ft : Fit Ω τ X) : OpD X (compareOp .NotEq) neOp := by
  intro F M H x y x' y' Q g rx ry h
  unfold neOp at h
  split at h
  · cases rx; cases ry
    refine wOp_of op_ne ⟨rfl, ?_⟩
    rw [decV_int]
    exact .here g (.bl _) h
  · cases rx; cases ry
    refine wOp_of op_ne ⟨rfl, ?_⟩
    rw [decV_str]
    exact .here g (.bl _) h
  · obtain ⟨_, F1, _, e1, d1, r1, h⟩ := datD_ok g rx h
    obtain ⟨_, F2, _, e2, d2, r2, h1, h2, q⟩ := datD_ok g ry h
    refine wOp_of (op_neD ft.room.units) ⟨_, _, rp_dp e1 50 _ _ h1 r1, rp_dp e2 50 _ _ h2 r2, okN_shaped h1, okN_shaped h2, ?_⟩
    rw [eqD_py 50 _ _ h1 h2]
    exact .here g (.bl _) q

def i2 (f : Int → Int → D) : Op2 := fun x y M Q => match x, y with
  | .int i, .int j => Q (f i j) M
  | _, _ => False
theorem opD_i2 {f : Value → Value → Sem Value} {o : Int → Int → V} {o' : Int → Int → D} (h : OpR X f (rI0 o)) (hr : ∀ F i j, Rp X.K F (o i j) (o' i j)) : OpD X f (i2 o') := by
  intro F M H x y x' y' Q g rx ry q
  cases x' <;> first | exact q.elim | skip
  cases y' <;> first | exact q.elim | skip
  cases rx; cases ry
  exact wOp_of h ⟨_, _, rfl, rfl, .here g (hr _ _ _) q⟩
def ltOp : Op2 := fun x y M Q => match x, y with
  | .int i, .int j => Q (.bl (decide (i < j))) M
  | _, _ => False
theorem opD_lt (ft : Fit Ω τ X) : OpD X (compareOp .Lt) (i2 fun i j => .bl (decide (i < j))) := opD_i2 op_lt fun _ _ _ => .bl _
/-- a list that stands still or changes -/
def lstD : D → MH → (List D → Prop) → Prop
  | .lst xs, _, R => R xs
  | .ref a, M, R => ∃ xs, M a = some (.lst xs) ∧ R xs
  | _, _, _ => False
theorem lstD_ok {K : PySem.W.Frag} {F : Hp} {M : MH} {H : Hp} {v : V} {d : D} {R : List D → Prop} (g : G K F M H) (r : Rp K F v d) (h : lstD d M R) : ∃ p ws xs, v = .ref p ∧ H p = some (.lst ws) ∧ RpL K F ws xs ∧ R xs := by
  cases d <;> first | exact h.elim | skip
  case lst xs =>
    cases r with | lst hs hr => exact ⟨_, _, _, rfl, g.ex _ _ hs, hr, h⟩
  case ref a =>
    cases r
    obtain ⟨xs, h1, h2⟩ := h
    obtain ⟨h3, ws, h4, h5⟩ := g.mo _ _ h1
    exact ⟨_, _, _, rfl, h4, h5, h2⟩
def addOp : Op2 := fun x y M Q => match x, y with
  | .int i, .int j => Q (.int (i + j)) M
  | .str x, .str y => lenOk (x.length + y.length) ∧ Q (.str (x ++ y)) M
  | .tup xs, .tup ys => lenOk (xs.length + ys.length) ∧ Q (.tup (xs ++ ys)) M
  | x, y => lstD x M fun xs => lstD y M fun ys => lenOk (xs.length + ys.length) ∧ Q (.lst (xs ++ ys)) M
theorem opD_add (ft : Fit Ω τ X) : OpD X (binaryOp .Add) addOp := by
  intro F M H x y x' y' Q g rx ry h
  have lists : (lstD x' M fun xs => lstD y' M fun ys => lenOk (xs.length + ys.length) ∧ Q (.lst (xs ++ ys)) M) → wOp X (binaryOp .Add) x y H (LQ X.K F Q) := fun h => by
    obtain ⟨p, ws, xs, rfl, h1, h2, h⟩ := lstD_ok g rx h
    obtain ⟨q, us, ys, rfl, h3, h4, hl, hq⟩ := lstD_ok g ry h
    exact wOp_of op_cat ⟨p, q, ws, us, rfl, rfl, h1, h3, by rw [h2.length, h4.length]; exact hl.sz, fun p hp => rp_lstN g hp (h2.append h4) hq⟩
  unfold addOp at h
  split at h
  · cases rx; cases ry
    exact wOp_of op_add ⟨_, _, rfl, rfl, .here g (.int _) h⟩
  · cases rx; cases ry
    exact wOp_of op_add_str ⟨_, _, rfl, rfl, h.1.sz, .here g (.str _) h.2⟩
  · cases rx with | tup hs hr =>
    cases ry with | tup hs2 hr2 =>
    rename_i a1 v1 a2 v2
    refine wOp_of op_catF ⟨_, _, _, _, rfl, rfl, SqT.fz (hs.mono g.ex), SqT.fz (hs2.mono g.ex), by rw [hr.length, hr2.length]; exact h.1.sz, fun e => ?_, fun e => ?_, fun p _ hp => rp_tupN g hp (hr.append hr2) h.2⟩
    · subst e
      cases hr
      exact .here g (.tup hs2 hr2) h.2
    · subst e
      cases hr2
      refine .here g (.tup hs hr) ?_
      have q := h.2
      rw [List.append_nil] at q
      exact q
  · exact lists h
def mulOp : Op2 := fun x y M Q => match x, y with
  | .int i, .int j => (CMul i j ∨ CMulW i j) ∧ Q (.int (i * j)) M
  | .str x, .int j => (0 ≤ j ∧ j ≤ 1000 ∧ x.length ≤ 1000) ∧ Q (.str ⟨(List.replicate j.toNat x.cps).foldl (· ++ ·) #[]⟩) M
  | x, .int j => lstD x M fun xs => (0 ≤ j ∧ j ≤ 1000 ∧ xs.length ≤ 1000) ∧ Q (.lst (List.replicate j.toNat xs).flatten) M
  | _, _ => False
theorem RpL.rep {K : PySem.W.Frag} {F : Hp} {vs : List V} {ds : List D} (r : RpL K F vs ds) : ∀ n : Nat, RpL K F (List.replicate n vs).flatten (List.replicate n ds).flatten
  | 0 => .nil
  | n + 1 => by
    rw [List.replicate_succ, List.replicate_succ, List.flatten_cons, List.flatten_cons]
    exact r.append (r.rep n)
theorem small_mul {n : Nat} {j : Int} (h0 : 0 ≤ j) (h1 : j ≤ 1000) (h2 : n ≤ 1000) : n * j.toNat ≤ 1000000 := by
  have e : j.toNat ≤ 1000 := by omega
  exact Nat.le_trans (Nat.mul_le_mul h2 e) (by decide)
theorem opD_mul (ft : Fit Ω τ X) : OpD X (binaryOp .Mult) mulOp := by
  intro F M H x y x' y' Q g rx ry h
  unfold mulOp at h
  split at h
  · cases rx; cases ry
    rcases h.1 with c | c
    · exact wOp_of op_mul ⟨_, _, rfl, rfl, c, .here g (.int _) h.2⟩
    · exact wOp_of op_mulW ⟨_, _, rfl, rfl, c, .here g (.int _) h.2⟩
  · rename_i z j
    cases rx; cases ry
    obtain ⟨⟨h0, h1, h2⟩, hq⟩ := h
    intro pins s σ v u I rv ru
    obtain ⟨t, rfl⟩ := rv
    obtain ⟨t', rfl⟩ := ru
    have fin : ∀ s', Inv X pins σ H s' → ∀ t, EP X pins σ (LQ X.K F Q) (.str ⟨(List.replicate j.toNat z.cps).foldl (· ++ ·) #[]⟩ t) s' := fun s' I' t => ⟨.str _, H, I', ⟨t, rfl⟩, .here g (.str _) hq⟩
    refine PySem.P.mul_str (by rw [decide_eq_false (by omega : ¬ j < -(2 ^ 63)), decide_eq_false (by omega : ¬ j ≥ 2 ^ 63)]; rfl) (fun h3 _ h4 => ?_) (fun h3 _ => ?_) ?_
    · have hz : ((z.length : Nat) : Int) ≤ 1000 := by omega
      have : (9223372036854775807 : Int) / j ≥ 1000 := by
        refine (Int.le_ediv_iff_mul_le (by omega)).mpr ?_
        omega
      have h4' : ((z.length : Nat) : Int) > (9223372036854775807 : Int) / j := h4
      omega
    · have := small_mul h0 h1 h2
      show decide (_ > _) = false
      refine decide_eq_false ?_
      have : sizeLine ≥ 1000000 := by decide
      show ¬ (z.length * j.toNat > sizeLine)
      omega
    · by_cases c : j < 1
      · rw [if_pos c]
        refine ⟨by decide, ?_⟩
        have e : j.toNat = 0 := by omega
        have f := fin { s with toks := s.toks + 1 } (I.tok _) s.toks
        rw [e] at f
        exact f
      · rw [if_neg c]
        by_cases c2 : (j == 1 || z.length == 0) = true
        · rw [if_pos c2]
          have e : (⟨(List.replicate j.toNat z.cps).foldl (· ++ ·) #[]⟩ : Str) = z := by
            rw [Bool.or_eq_true] at c2
            rcases c2 with c2 | c2
            · have e : j.toNat = 1 := by
                have := beq_iff_eq.mp c2
                omega
              rw [e]
              show (⟨#[] ++ z.cps⟩ : Str) = z
              rw [Array.empty_append]
            · have e0 : z.cps.size = 0 := beq_iff_eq.mp c2
              have e1 : z.cps = #[] := Array.size_eq_zero_iff.mp e0
              have e2 : ∀ (n : Nat) (acc : Array Nat), (List.replicate n z.cps).foldl (· ++ ·) acc = acc := fun n => by
                induction n with
                | zero => intro acc; rfl
                | succ n ih => intro acc; rw [List.replicate_succ, List.foldl_cons, ih, e1, Array.append_empty]
              rw [e2]
              show (⟨#[]⟩ : Str) = z
              rw [← e1]
          have f := fin s I t
          rw [e] at f
          exact f
        · rw [if_neg c2]
          refine ⟨?_, fin _ (I.tok _) _⟩
          have hz : ∀ (n : Nat) (acc : Array Nat), ((List.replicate n z.cps).foldl (· ++ ·) acc).size = acc.size + n * z.cps.size := fun n => by
            induction n with
            | zero => intro acc; simp
            | succ n ih => intro acc; rw [List.replicate_succ, List.foldl_cons, ih, Array.size_append, Nat.succ_mul]; omega
          have h5 := small_mul h0 h1 h2
          have h6 : z.length = z.cps.size := rfl
          show ((List.replicate j.toNat z.cps).foldl (· ++ ·) #[]).size ≤ sizeLine
          rw [hz, ← h6, Nat.mul_comm]
          have : sizeLine ≥ 1000000 := by decide
          show 0 + _ ≤ _
          omega
  · rename_i z j hns hni
    cases ry
    obtain ⟨p, ws, xs, rfl, h1, h2, ⟨h3, h4, h5⟩, hq⟩ := lstD_ok g rx h
    refine wOp_of op_rep ⟨_, _, _, rfl, rfl, h1, by omega, by omega, ?_, fun p hp => rp_lstN g hp (h2.rep _) hq⟩
    rw [h2.length]
    exact Nat.le_trans (small_mul h3 h4 h5) (by decide)
  · exact h.elim
def divOp : Op2 := fun x y M Q => match x, y with
  | .int i, .int j => (0 < j ∧ j.natAbs.log2 < 9000) ∧ Q (.int (i / j)) M
  | _, _ => False
def modOp : Op2 := fun x y M Q => match x, y with
  | .int i, .int j => 0 < j ∧ Q (.int (i % j)) M
  | _, _ => False
theorem opD_mod (ft : Fit Ω τ X) : OpD X (binaryOp .Mod) modOp := by
  intro F M H x y x' y' Q g rx ry h
  unfold modOp at h
  split at h
  · cases rx; cases ry
    exact wOp_of op_mod ⟨_, _, rfl, rfl, h.1, .here g (.int _) h.2⟩
  · exact h.elim
def powOp : Op2 := fun x y M Q => match x, y with
  | .int i, .int j => CPow i j ∧ Q (.int (i ^ j.toNat)) M
  | _, _ => False
theorem opD_pow (ft : Fit Ω τ X) : OpD X (binaryOp .Pow) powOp := by
  intro F M H x y x' y' Q g rx ry h
  unfold powOp at h
  split at h
  · cases rx; cases ry
    exact wOp_of op_pow ⟨_, _, rfl, rfl, h.1, .here g (.int _) h.2⟩
  · exact h.elim
/-- is None, is not None; is True .. -/
def isOp : Op2 := fun x y M Q => match x, y with
  | .non, .non => Q (.bl true) M
  | .bl a, .bl b => Q (.bl (decide (a = b))) M
  | _, .non => Q (.bl false) M
  | _, _ => False
def isntOp : Op2 := fun x y M Q => match x, y with
  | .non, .non => Q (.bl false) M
  | .bl a, .bl b => Q (.bl (!decide (a = b))) M
  | _, .non => Q (.bl true) M
  | _, _ => False
end
end DL

/-! The deep layer, part d: statements, targets, what a for walks, loops. -/
namespace DL
variable [DL.Wd] [DL.Fb]
open PySem PySem.Spec PyProof.Rows L2
section
variable {Ω : Wl} {τ : Sx} {X : Cx} {a b c e tg iter : Expr} {es rest : List Expr} {da db dc de : DE} {ta tb : DT} {tl tr : DA} {pos p p2 : Pos} {x : Str} {st : Stmt} {sts sts2 : List Stmt} {ds ds2 : DS} {vs : List Nat} {gs : List Str}

/-! ### blocks and small statements -/
def dNext : DS := fun D _ σ M => D.nx σ M
def dSeq (t u : DS) : DS := fun D E σ M => t { D with nx := fun σ M => u D E σ M } E σ M
def dDrop (d : DE) : DS := fun D E σ M => d σ M (fun _ M1 => D.nx σ M1) E
def dRet (d : DE) : DS := fun D E σ M => d σ M D.rt E
def dRetN : DS := fun D _ _ M => D.rt .non M
def dIfS (c : DT) (t u : DS) : DS := fun D E σ M => c σ M (fun b M1 => (b = true → t D E σ M1) ∧ (b = false → u D E σ M1)) E
def dBreak : DS := fun D _ σ M => D.bk σ M
def dCont : DS := fun D _ σ M => D.ct σ M
def dNever : DS := fun _ _ _ _ => False
theorem wSs_LE {F F' : Hp} {D : DEnds} {σ : L2.St} {H : Hp} (e : Ex F F') (h : wSs X sts (LE X.K F' D) σ H) : wSs X sts (LE X.K F D) σ H := wSs_mono h (LE.back e)
theorem dpss_nil : DPSs Ω τ [] dNext := Hd.mk fun X ft F0 E tk F M H σ σ' D e0 g r h => wSs_of pss_nil ⟨F, M, σ', Ex.refl F, g, r, h⟩
theorem dpss_cons (h1 : DPS Ω τ st ds) (h2 : DPSs Ω τ sts ds2) : DPSs Ω τ (st :: sts) (dSeq ds ds2) := Hd.mk fun X ft F0 E tk F M H σ σ' D e0 g r h => by
  refine wSs_of (pss_cons ps_wS pss_wSs) (wS_mono (h1.run X ft F0 E tk F M H σ σ' _ e0 g r h) ⟨?_, fun _ _ z => z, fun _ _ z => z, fun _ _ z => z⟩)
  rintro σ1 H1 ⟨F1, M1, σ1', e1, g1, r1, q⟩
  exact wSs_LE e1 (h2.run X ft F0 E tk F1 M1 H1 σ1 σ1' D (e0.trans e1) g1 r1 q)
theorem dpss_one (h1 : DPS Ω τ st ds) : DPSs Ω τ [st] ds := Hd.mk fun X ft F0 E tk F M H σ σ' D e0 g r h => wSs_of (pss_one ps_wS) (h1.run X ft F0 E tk F M H σ σ' D e0 g r h)
theorem dps_expr (he : DP Ω τ e de) (hs : ∀ env, swapsWith e none pos.line env = pure false := by intro _; rfl) : DPS Ω τ (.Expr e pos) (dDrop de) := Hd.mk fun X ft F0 E tk F M H σ σ' D e0 g r h =>
  wS_of (ps_expr pe_wE (hs _)) (wE_mono (he.run X ft F0 E tk F M H σ σ' _ e0 g r h) fun v H1 ⟨F1, M1, y, e1, g1, _, q⟩ => ⟨F1, M1, σ', e1, g1, r.mono e1, q⟩)
theorem dps_ret (he : DP Ω τ e de) : DPS Ω τ (.Return (some e) pos) (dRet de) := Hd.mk fun X ft F0 E tk F M H σ σ' D e0 g r h =>
  wS_of (ps_ret pe_wE) (he.run X ft F0 E tk F M H σ σ' _ e0 g r h)
theorem dps_if {aa bb : List Stmt} (hc : DPT Ω τ c ta) (ha : DPSs Ω τ aa ds) (hb : DPSs Ω τ bb ds2) : DPS Ω τ (.If c aa bb pos) (dIfS ta ds ds2) := Hd.mk fun X ft F0 E tk F M H σ σ' D e0 g r h => by
  refine wS_of (ps_if pt_wT pss_wSs pss_wSs) (wT_mono (hc.run X ft F0 E tk F M H σ σ' _ e0 g r h) ?_)
  rintro k H1 ⟨F1, M1, e1, g1, q1, q2⟩
  cases k with
  | true => exact iteT (wSs_LE e1 (ha.run X ft F0 E tk F1 M1 H1 σ σ' D (e0.trans e1) g1 (r.mono e1) (q1 rfl)))
  | false => exact iteF (wSs_LE e1 (hb.run X ft F0 E tk F1 M1 H1 σ σ' D (e0.trans e1) g1 (r.mono e1) (q2 rfl)))
/-- a list that changed is from now on one that stands still -/
def dFrz (d : DE) : DE := fun σ M Q E => d σ M (fun x M1 => match x with
  | .ref a => ∃ xs, M1 a = some (.lst xs) ∧ Q (.lst xs) (M1.del a)
  | x => Q x M1) E
theorem MH.del_put {M : MH} {a : Addr} {o : MO} (h : M a = none) : (M.put a o).del a = M := by
  funext b
  unfold MH.del MH.put
  by_cases hb : b = a
  · subst hb; rw [if_pos rfl, h]
  · rw [if_neg hb, if_neg hb]

/-! ### targets -/
abbrev DG := D → DSt → MH → (DSt → MH → Prop) → EK → Prop
abbrev DGs := List D → DSt → MH → (DSt → MH → Prop) → EK → Prop
def wG (X : Cx) (tg : Expr) : TG := fun v σ H Q => ∀ pins s u, Inv X pins σ H s → RelV v u → wpAny (model X.prog X.w) X.A (assign tg X.env u) (fun _ s' => ∃ σ' H', Inv X pins σ' H' s' ∧ Q σ' H') X.xe s
theorem pg_wG : PG X tg (wG X tg) := ⟨fun pins s _ _ _ u _ I r h => h pins s u I r⟩
theorem wG_of {t : TG} (h : PG X tg t) {v : V} {σ : L2.St} {H : Hp} {Q : L2.St → Hp → Prop} (q : t v σ H Q) : wG X tg v σ H Q := fun pins s u I r => h.run pins s σ H v u Q I r q
theorem wG_mono {v : V} {σ : L2.St} {H : Hp} {Q Q' : L2.St → Hp → Prop} (h : wG X tg v σ H Q) (k : ∀ σ H, Q σ H → Q' σ H) : wG X tg v σ H Q' := fun pins s u I r =>
  thn (h pins s u I r) fun _ _ ⟨σ', H', I', q⟩ => ⟨σ', H', I', k _ _ q⟩
def wGs (X : Cx) (tgs : List Expr) : TGs := fun vs σ H Q => ∀ pins s us, Inv X pins σ H s → Vals vs us → wpAny (model X.prog X.w) X.A (assignInOrder ((assignEach tgs X.env).map (·.2)) us) (fun _ s' => ∃ σ' H', Inv X pins σ' H' s' ∧ Q σ' H') X.xe s
/-- only the slots is are stored to -/
def Kept (is : List Nat) (σ σ2 : L2.St) : Prop := σ2.length = σ.length ∧ ∀ j : Nat, j ∉ is → σ2[j]? = σ[j]?
theorem Kept.refl {is : List Nat} {σ : L2.St} : Kept is σ σ := ⟨rfl, fun _ _ => rfl⟩
theorem Kept.trans {is js : List Nat} {σ σ2 σ3 : L2.St} (a : Kept is σ σ2) (b : Kept js σ2 σ3) : Kept (is ++ js) σ σ3 :=
  ⟨b.1.trans a.1, fun j h => (b.2 j fun z => h (List.mem_append_right _ z)).trans (a.2 j fun z => h (List.mem_append_left _ z))⟩
theorem Kept.one {i : Nat} {σ : L2.St} {v : Option V} : Kept [i] σ (σ.set i v) := ⟨List.length_set, fun j h => List.getElem?_set_ne (fun z => h (by simp [z]))⟩
def LK (K : PySem.W.Frag) (F : Hp) (is : List Nat) (σ : L2.St) (Q : DSt → MH → Prop) : L2.St → Hp → Prop := fun σ2 H2 => Kept is σ σ2 ∧ LS K F Q σ2 H2
def DPG (Ω : Wl) (τ : Sx) (is : List Nat) (tg : Expr) (gd : DG) : Prop := Hd (∀ X, Fit Ω τ X → ∀ F0 E, TkD X F0 E → ∀ F M H σ σ' v d Q, Ex F0 F → G X.K F M H → RpS X.K F σ σ' → Rp X.K F v d → gd d σ' M Q E → wG X tg v σ H (LK X.K F is σ Q))
def DPGs (Ω : Wl) (τ : Sx) (is : List Nat) (tgs : List Expr) (gd : DGs) : Prop := Hd (∀ X, Fit Ω τ X → ∀ F0 E, TkD X F0 E → ∀ F M H σ σ' v d Q, Ex F0 F → G X.K F M H → RpS X.K F σ σ' → RpL X.K F v d → gd d σ' M Q E → wGs X tgs v σ H (LK X.K F is σ Q))
def dgName (i : Nat) : DG := fun d σ M Q _ => Q (σ.set i (some d)) M
/-- which slots may be stored -/
structure StOk (N : List Str) (ls : List Nat) (sc : Scope) (own : Str → Bool) : Prop where
  loc : ∀ i ∈ ls, ∀ x, N[i]? = some x → L2.Loc sc x ∧ own x = true
def stOkB (N : List Str) (ls : List Nat) (sc : Scope) (own : Str → Bool) : Bool := ls.all fun i => match N[i]? with
  | some x => own x && match sc.names.lookup x with
    | some .local => true
    | some .cell => true
    | _ => false
  | none => true
theorem stOk_of {N : List Str} {ls : List Nat} {sc : Scope} {own : Str → Bool} (h : stOkB N ls sc own = true) : StOk N ls sc own := by
  unfold stOkB at h
  rw [List.all_eq_true] at h
  refine ⟨fun i hi x hx => ?_⟩
  have q := h i hi
  simp only [hx, Bool.and_eq_true] at q
  obtain ⟨q0, q⟩ := q
  refine ⟨?_, q0⟩
  unfold L2.Loc
  split at q
  · exact .inl (by assumption)
  · exact .inr (by assumption)
  · cases q
theorem fit_loc (ft : Fit Ω τ X) {ls : List Nat} (L : StOk τ.N ls τ.sc τ.own) {i : Nat} (hN : τ.N[i]? = some x) (hi : i ∈ ls) : L2.Loc X.env.scope x := by
  have q := (L.loc i hi x hN).1
  rw [← ft.sc] at q
  exact q
theorem dpg_name {ls : List Nat} (L : StOk τ.N ls τ.sc τ.own) (i : Nat) (hN : τ.N[i]? = some x := by rfl) (hi : i ∈ ls := by decide) : DPG Ω τ [i] (.Name x pos) (dgName i) := Hd.mk fun X ft F0 E tk F M H σ σ' v d Q e0 g r rv h =>
  wG_of (pg_name (i := i) (by rw [ft.N]; exact ft.nd) (by rw [ft.N]; exact hN) (fit_loc ft L hN hi) (ft.fn x (L.loc i hi x hN).2 (L.loc i hi x hN).1)) ⟨.one, F, M, _, Ex.refl F, g, r.set1 i rv, h⟩
def dgNil : DGs := fun vs σ M Q _ => vs = [] ∧ Q σ M
def dgCons (t : DG) (u : DGs) : DGs := fun vs σ M Q E => match vs with
  | v :: r => t v σ M (fun σ' M' => u r σ' M' Q E) E
  | [] => False
def dgTup (n : Nat) (t : DGs) : DG := fun v σ M Q E => match v with
  | .tup xs => xs.length = n ∧ t xs σ M Q E
  | .lst xs => xs.length = n ∧ t xs σ M Q E
  | .wtp xs => xs.length = n ∧ t xs σ M Q E
  | _ => False
/-- o[i] = v of a list that may change -/
def dgSub (da db : DE) : DG := fun v σ M Q E => da σ M (fun o M1 => db σ M1 (fun i M2 => match o, i with
  | .ref a, .int k => ∃ xs, M2 a = some (.lst xs) ∧ ∃ j, ixN xs.length k = some j ∧ Q σ (M2.put a (.lst (xs.set j v)))
  | _, _ => False) E) E
def dAsg (d : DE) (gd : DG) : DS := fun D E σ M => d σ M (fun x M1 => gd x σ M1 D.nx E) E
/-- name = value -/
def dSet (i : Nat) (d : DE) : DS := fun D E σ M => d σ M (fun x M1 => D.nx (σ.set i (some x)) M1) E
theorem dps_set {ls : List Nat} {p' : Pos} (L : StOk τ.N ls τ.sc τ.own) (i : Nat) (he : DP Ω τ e de) (hN : τ.N[i]? = some x := by rfl) (hi : i ∈ ls := by decide) (hs : ∀ env, swapsWith e (some (.Name x p')) pos.line env = pure false := by intro _; rfl) : DPS Ω τ (.Assign [.Name x p'] e pos) (dSet i de) := Hd.mk fun X ft F0 E tk F M H σ σ' D e0 g r h => by
  refine wS_of (ps_set (i := i) (by rw [ft.N]; exact ft.nd) (by rw [ft.N]; exact hN) (fit_loc ft L hN hi) pe_wE (hs _) (ft.fn x (L.loc i hi x hN).2 (L.loc i hi x hN).1)) (wE_mono (he.run X ft F0 E tk F M H σ σ' _ e0 g r h) ?_)
  rintro v H1 ⟨F1, M1, y, e1, g1, r1, q⟩
  exact ⟨F1, M1, _, e1, g1, (r.mono e1).set1 i r1, q⟩
/-- a, b = x, y -/
def dPar (i j : Nat) (t : DA) : DS := fun D E σ M => t σ M (fun vs M1 => match vs with
  | [v, w] => D.nx ((σ.set i (some v)).set j (some w)) M1
  | _ => False) E
theorem dps_par {ls : List Nat} {y : Str} {px py pt : Pos} {kt k2 pt2} (L : StOk τ.N ls τ.sc τ.own) (i j : Nat) (ha : DPA Ω τ [a, b] tl) (hN : τ.N[i]? = some x := by rfl) (hM : τ.N[j]? = some y := by rfl) (hij : i ≠ j := by decide) (hx : τ.sc.names.lookup x = some .local := by rfl) (hy : τ.sc.names.lookup y = some .local := by rfl) (hc : τ.calm = true := by rfl)
    (hw : ∀ env : Env, env.scope = τ.sc → swappedStores [.Tuple [.Name x px, .Name y py] kt pt] (.Tuple [a, b] k2 pt2) env = pure (some [x, y]))
    (hs : ∀ env, swapsWithSole [.Tuple [.Name x px, .Name y py] kt pt] (.Tuple [a, b] k2 pt2) pos.line env = pure false := by intro _; rfl) :
    DPS Ω τ (.Assign [.Tuple [.Name x px, .Name y py] kt pt] (.Tuple [a, b] k2 pt2) pos) (dPar i j tl) := Hd.mk fun X ft F0 E tk F M H σ σ' D e0 g r h => by
  refine wS_of (ps_par (i := i) (j := j) (ft.calm hc) (by rw [ft.N]; exact ft.nd) (by rw [ft.N]; exact hN) (by rw [ft.N]; exact hM) hij (by rw [ft.sc]; exact hx) (by rw [ft.sc]; exact hy) pa_wA (hw _ ft.sc) (hs _)) (wA_mono (ha.run X ft F0 E tk F M H σ σ' _ e0 g r h) ?_)
  rintro vs H1 ⟨F1, M1, ys, e1, g1, r1, q⟩
  match ys, r1, q with
  | [y1, y2], .cons q1 (.cons q2 .nil), q => exact ⟨_, _, rfl, F1, M1, _, e1, g1, ((r.mono e1).set1 i q1).set1 j q2, q⟩
/-- name += e, ints -/
def dAugI (i : Nat) (f : Int → Int → Int) (d : DE) : DS := fun D E σ M => match σ[i]? with
  | some (some (.int k)) => d σ M (fun y M1 => match y with
    | .int l => D.nx (σ.set i (some (.int (f k l)))) M1
    | _ => False) E
  | _ => False
/-! ### what a for walks -/
/-- an iterator that gives xs, one by one, while F stands -/
structure WkD (K : PySem.W.Frag) (F : Hp) (J : It) (xs : List D) : Prop where
  go : ∀ i H, Ex F H → i < xs.length → J.go i H
  yld : ∀ i F1 M H v H' d, Ex F F1 → G K F1 M H → xs[i]? = some d → J.yld i H v H' → ∃ F2, Ex F1 F2 ∧ G K F2 M H' ∧ Rp K F2 v d
  stop : ∀ i H, Ex F H → xs.length ≤ i → J.stop i H
abbrev DI := DSt → MH → (List D → MH → Prop) → EK → Prop
def wI (X : Cx) (tg e : Expr) : TI := fun σ H R => ∀ pins s, Inv X pins σ H s → wpAny (model X.prog X.w) X.A (eval e X.env) (fun v s1 => wpAny (model X.prog X.w) X.A (pyIter v) (PIE X pins σ tg R) X.xe s1) X.xe s
theorem pi_wI : PI X tg iter (wI X tg iter) := ⟨fun pins s _ _ _ I h => h pins s I⟩
theorem wI_of {t : TI} (h : PI X tg iter t) {σ : L2.St} {H : Hp} {R : It → Hp → Prop} (q : t σ H R) : wI X tg iter σ H R := fun pins s I => h.run pins s σ H R I q
theorem wI_mono {σ : L2.St} {H : Hp} {R R' : It → Hp → Prop} (h : wI X tg iter σ H R) (k : ∀ J H, R J H → R' J H) : wI X tg iter σ H R' := fun pins s I =>
  thn (h pins s I) fun _ _ z => thn z fun _ _ ⟨it, fp, tn, J, H', h1, h2, h3, h4, h5, h6⟩ => ⟨it, fp, tn, J, H', h1, h2, h3, h4, h5, k _ _ h6⟩
def LI (K : PySem.W.Frag) (F : Hp) (R : List D → MH → Prop) : It → Hp → Prop := fun J H => ∃ F' M' xs, Ex F F' ∧ G K F' M' H ∧ WkD K F' J xs ∧ R xs M'
def DPI (Ω : Wl) (τ : Sx) (tg e : Expr) (di : DI) : Prop := Hd (∀ X, Fit Ω τ X → ∀ F0 E, TkD X F0 E → ∀ F M H σ σ' R, Ex F0 F → G X.K F M H → RpS X.K F σ σ' → di σ' M R E → wI X tg e σ H (LI X.K F R))
/-- a sequence that stands still: tuple, list, the script -/
def dSeqI (d : DE) : DI := fun σ M R E => d σ M (fun x M1 => match x with
  | .tup xs => R xs M1
  | .wtp xs => R xs M1
  | .lst xs => R xs M1
  | .scr ns => R (ns.map D.int) M1
  | _ => False) E
end
end DL

/-! The deep layer, part e: what a for walks: sequences, ranges, enumerate, zip; for, while. -/
namespace PySem
section
variable {prog : Program} {w : World} {A : Around} {E : Value → Shared → Prop} {s : Shared}
end
end PySem
namespace DL
variable [DL.Wd] [DL.Fb]
open PySem PySem.Spec PyProof.Rows L2

/-! ### enumerate over a tuple -/
def IteT (K : PySem.W.Frag) (a : Addr) : It :=
  ⟨fun i H => ∃ (xs : List V) (x : V), SqT K H a xs ∧ xs[i]? = some x, fun i H v H' => ∃ T x, v = .ref T ∧ H T = none ∧ H' = upd H T (.tup [.int (i : Nat), x]) ∧ ∀ xs, SqT K H a xs → xs[i]? = some x, fun i H => ∃ xs : List V, SqT K H a xs ∧ xs.length ≤ i⟩
section
variable {Ω : Wl} {τ : Sx} {X : Cx} {a b c e tg iter : Expr} {es rest : List Expr} {da db dc de : DE} {ta tb : DT} {tl tr : DA} {pos p p2 tpos : Pos} {x : Str} {st : Stmt} {sts sts2 : List Stmt} {ds ds2 : DS} {vs : List Nat} {gs : List Str} {elts : List Expr} {kk : Nat}
theorem wkL {K : PySem.W.Frag} {F : Hp} {q : Addr} {ws : List V} {xs : List D} (h : F q = some (.lst ws)) (r : RpL K F ws xs) : WkD K F (Itl K q) xs where
  go := fun i H e hi => by
    have hw : i < ws.length := by rw [r.length]; exact hi
    exact ⟨ws, ws[i], SqL.of (e _ _ h), List.getElem?_eq_getElem hw⟩
  yld := fun i F1 M H v H' d e g hd hy => by
    obtain ⟨rfl, hy⟩ := hy
    have hv := hy ws (SqL.of (g.ex _ _ (e _ _ h)))
    obtain ⟨d', h1, h2⟩ := r.getV hv
    rw [hd] at h1; cases h1
    exact ⟨F1, Ex.refl F1, g, h2.mono e⟩
  stop := fun i H e hi => ⟨ws, SqL.of (e _ _ h), by rw [r.length]; exact hi⟩
theorem wkS {K : PySem.W.Frag} {F : Hp} {q : Addr} {ns : List Int} (h : SqL K F q (ns.map V.int)) : WkD K F (Itl K q) (ns.map D.int) where
  go := fun i H e hi => by
    have hw : i < (ns.map V.int).length := by simpa using hi
    exact ⟨_, _, e.sl h, List.getElem?_eq_getElem hw⟩
  yld := fun i F1 M H v H' d e g hd hy => by
    obtain ⟨rfl, hy⟩ := hy
    have hv := hy _ (g.ex.sl (e.sl h))
    obtain ⟨d', h1, h2⟩ := (rpl_ints (K := K) (F := F1) ns).getV hv
    rw [hd] at h1; cases h1
    exact ⟨F1, Ex.refl F1, g, h2⟩
  stop := fun i H e hi => ⟨_, e.sl h, by simpa using hi⟩
theorem wkT {K : PySem.W.Frag} {F : Hp} {q : Addr} {ws : List V} {xs : List D} (h : SqT K F q ws) (r : RpL K F ws xs) : WkD K F (Itt K q) xs where
  go := fun i H e hi => by
    have hw : i < ws.length := by rw [r.length]; exact hi
    exact ⟨ws, ws[i], e.st h, List.getElem?_eq_getElem hw⟩
  yld := fun i F1 M H v H' d e g hd hy => by
    obtain ⟨rfl, hy⟩ := hy
    have hv := hy ws (g.ex.st (e.st h))
    obtain ⟨d', h1, h2⟩ := r.getV hv
    rw [hd] at h1; cases h1
    exact ⟨F1, Ex.refl F1, g, h2.mono e⟩
  stop := fun i H e hi => ⟨ws, e.st h, by rw [r.length]; exact hi⟩
/-- the first steps of pi_list, pi_tup, at a value -/
theorem pie_list {pins : List (Addr × Obj)} {s : Shared} {σ : L2.St} {H : Hp} {R : It → Hp → Prop} {q : Addr} {xs : List V} (I : Inv X pins σ H s) (hq : SqL X.K H q xs) (h : R (Itl X.K q) H) : wpAny (model X.prog X.w) X.A (pyIter (.ref q)) (PIE X pins σ tg R) X.xe s := by
  obtain ⟨its, rv, p, hz⟩ := I.list hq
  refine wpAny_pyIter_list p.isList ?_
  refine ⟨s.heap.objs.size, [s.heap.objs.size], _, _, H, rfl, I.kept (t' := s.toks) fun b o e => Heap.get?_push_of_some _ e, turn_list q _, ⟨_, Heap.get?_push_size _ rfl, rfl, rfl⟩, fun b hb => ?_, h⟩
  have e : b = s.heap.objs.size := by simpa using hb
  subst e
  exact I.fpOk (Nat.le_refl _) (I.hok.fresh (Nat.le_refl _))
theorem pie_tup {pins : List (Addr × Obj)} {s : Shared} {σ : L2.St} {H : Hp} {R : It → Hp → Prop} {q : Addr} {xs : List V} (I : Inv X pins σ H s) (hq : SqT X.K H q xs) (h : R (Itt X.K q) H) : wpAny (model X.prog X.w) X.A (pyIter (.ref q)) (PIE X pins σ tg R) X.xe s := by
  obtain ⟨its, rv, p, hz⟩ := I.tuple hq
  refine wpAny_pyIter_tuple (show s.heap.IsTuple q its.toArray from p) ?_
  refine ⟨s.heap.objs.size, [s.heap.objs.size], _, _, H, rfl, I.kept (t' := s.toks) fun b o e => Heap.get?_push_of_some _ e, turn_tuple q _, ⟨_, Heap.get?_push_size _ rfl, rfl, rfl⟩, fun b hb => ?_, h⟩
  have e : b = s.heap.objs.size := by simpa using hb
  subst e
  exact I.fpOk (Nat.le_refl _) (I.hok.fresh (Nat.le_refl _))
theorem dpi_seq (h : DP Ω τ iter de) : DPI Ω τ tg iter (dSeqI de) := Hd.mk fun X ft F0 E tk F M H σ σ' R e0 g r hd pins s I => by
  refine thn (h.run X ft F0 E tk F M H σ σ' _ e0 g r hd pins s I) ?_
  rintro u s1 ⟨v, H1, I1, rv, F1, M1, y, e1, g1, r1, q⟩
  cases y <;> first | exact q.elim | skip
  case tup xs =>
    cases r1 with | tup hs hr =>
    cases rv
    exact pie_tup I1 (SqT.fz (hs.mono g1.ex)) ⟨F1, M1, xs, e1, g1, wkT (SqT.fz hs) hr, q⟩
  case lst xs =>
    cases r1 with | lst hs hr =>
    cases rv
    exact pie_list I1 (SqL.of (g1.ex _ _ hs)) ⟨F1, M1, xs, e1, g1, wkL hs hr, q⟩
  case scr ns =>
    cases r1 with | scr hs =>
    cases rv
    exact pie_list I1 (g1.ex.sl hs) ⟨F1, M1, _, e1, g1, wkS hs, q⟩
  case wtp xs =>
    cases r1 with | wtp hs hr =>
    cases rv
    exact pie_tup I1 (g1.ex.st hs) ⟨F1, M1, xs, e1, g1, wkT hs hr, q⟩
/-! ranges -/
def rangeD (lo : Int) (n : Nat) : List D := (List.range n).map fun i => .int (lo + (i : Nat))
theorem rangeD_length (lo : Int) (n : Nat) : (rangeD lo n).length = n := by simp [rangeD]
theorem rangeD_get {lo : Int} {n i : Nat} (h : i < n) : (rangeD lo n)[i]? = some (.int (lo + (i : Nat))) := by
  unfold rangeD
  rw [List.getElem?_map, List.getElem?_range h]; rfl
theorem wkR {K : PySem.W.Frag} {F : Hp} {lo : Int} {n : Nat} : WkD K F (Itr lo n) (rangeD lo n) where
  go := fun i H e hi => by rw [rangeD_length] at hi; exact hi
  yld := fun i F1 M H v H' d e g hd hy => by
    obtain ⟨rfl, rfl⟩ := hy
    have hi : i < n := by
      have := (List.getElem?_eq_some_iff.mp hd).1
      rwa [rangeD_length] at this
    rw [rangeD_get hi] at hd
    cases hd
    exact ⟨F1, Ex.refl F1, g, .int _⟩
  stop := fun i H e hi => by rw [rangeD_length] at hi; exact hi
def dRng1 (t : DA) : DI := fun σ M R E => t σ M (fun vs M1 => match vs with
  | [.int n] => (-4611686018427387904 ≤ n ∧ n < 4611686018427387904) ∧ R (rangeD 0 n.toNat) M1
  | _ => False) E
def dRng2 (t : DA) : DI := fun σ M R E => t σ M (fun vs M1 => match vs with
  | [.int lo, .int n] => (-4611686018427387904 ≤ lo ∧ lo < 4611686018427387904 ∧ -4611686018427387904 ≤ n ∧ n < 4611686018427387904) ∧ R (rangeD lo (n - lo).toNat) M1
  | _ => False) E
theorem dpi_range1 (S : ScOk τ.N vs gs τ.sc) (hm : Ω.mg "range" = none) (ha : DPA Ω τ [a] tl) (hg : ("range" : Str) ∈ gs := by decide) (hs : ∀ env, starEach [a] env = [(false, eval a env)] := by intro _; rfl) : DPI Ω τ tg (.Call (.Name "range" p) [a] [] pos) (dRng1 tl) := Hd.mk fun X ft F0 E tk F M H σ σ' R e0 g r hd => by
  refine wI_of (pi_range1 (fit_gl ft S hg) (by rw [ft.mg]; exact hm) pa_wA (hs _)) (wA_mono (ha.run X ft F0 E tk F M H σ σ' _ e0 g r hd) ?_)
  rintro ws H1 ⟨F1, M1, ys, e1, g1, r1, q⟩
  match ys, r1, q with
  | [.int n], .cons (.int _) .nil, ⟨⟨h1, h2⟩, q⟩ => exact ⟨n, rfl, h1, h2, F1, M1, _, e1, g1, wkR, q⟩
/-! enumerate -/
def enumD (xs : List D) : List D := xs.zipIdx.map fun p => .wtp [.int (p.2 : Nat), p.1]
theorem enumD_length (xs : List D) : (enumD xs).length = xs.length := by simp [enumD]
def dEnum (t : DA) : DI := fun σ M R E => t σ M (fun vs M1 => match vs with
  | [.lst xs] => R (enumD xs) M1
  | [.tup xs] => R (enumD xs) M1
  | _ => False) E
/-! ### for, while -/

/-- W tells what holds where r are left -/
def ForGo (gd : DG) (body : DS) (En : DEnds) (E : EK) (xs : List D) (σ : DSt) (M1 : MH) : Prop := ∃ W : List D → DSt → MH → Prop, W xs σ M1 ∧ (∀ σ M, W [] σ M → En.nx σ M) ∧
  ∀ x r σ M, W (x :: r) σ M → gd x σ M (fun σ2 M2 => body { En with nx := W r, ct := W r, bk := En.nx } E σ2 M2) E
def dFor (di : DI) (gd : DG) (body : DS) : DS := fun En E σ M => di σ M (fun xs M1 => ForGo gd body En E xs σ M1) E
theorem dps_for {is : List Nat} {di : DI} {gd : DG} (hi : DPI Ω τ tg iter di) (hg : DPG Ω τ is tg gd) (hb : DPSs Ω τ sts ds) (hc : τ.calm = true := by rfl) (hs : ∀ env x, foldedSetIterable iter env x = pure x := by intro _ _; rfl) : DPS Ω τ (.For tg iter sts [] pos) (dFor di gd ds) := Hd.mk fun X ft F0 E tk F M H σ σ' D e0 g r h => by
  refine wS_of (ps_for ft.po (ft.calm hc) pi_wI pg_wG pss_wSs (hs _)) (wI_mono (hi.run X ft F0 E tk F M H σ σ' _ e0 g r h) ?_)
  rintro J H1 ⟨F1, M1, xs, e1, g1, wk, W, w0, wn, ws⟩
  refine ⟨fun i m σ H => m = xs.length - i ∧ i ≤ xs.length ∧ LS X.K F1 (W (xs.drop i)) σ H, ⟨_, rfl, Nat.zero_le _, F1, M1, σ', Ex.refl F1, g1, r.mono e1, w0⟩, ?_⟩
  rintro i m σ2 H2 ⟨rfl, hi2, F2, M2, σ2', e2, g2, r2, w2⟩
  by_cases hlt : i < xs.length
  · refine .inr ⟨wk.go i H2 (e2.trans g2.ex) hlt, LS X.K F1 (W (xs.drop (i + 1))), fun σ3 H3 q => ⟨_, by omega, rfl, hlt, q⟩, fun v H3 hy => ?_⟩
    have hd : xs[i]? = some xs[i] := List.getElem?_eq_getElem hlt
    obtain ⟨F3, e3, g3, r3⟩ := wk.yld i F2 M2 H2 v H3 _ e2 g2 hd hy
    rw [List.drop_eq_getElem_cons hlt] at w2
    have e03 : Ex F0 F3 := ((e0.trans e1).trans e2).trans e3
    refine wG_mono (hg.run X ft F0 E tk F3 M2 H3 σ2 σ2' v _ _ e03 g3 (r2.mono e3) r3 (ws _ _ _ _ w2)) ?_
    rintro σ4 H4 ⟨_, F4, M4, σ4', e4, g4, r4, q⟩
    have e14 : Ex F1 F4 := (e2.trans e3).trans e4
    refine wSs_mono (hb.run X ft F0 E tk F4 M4 H4 σ4 σ4' _ (e03.trans e4) g4 r4 q) ⟨?_, ?_, ?_, ?_⟩
    · exact fun σ5 H5 z => z.back e14
    · exact fun v5 H5 z => LQ.back (e1.trans e14) z
    · exact fun σ5 H5 z => LS.back (e1.trans e14) z
    · exact fun σ5 H5 z => z.back e14
  · have e : i = xs.length := by omega
    subst e
    refine .inl ⟨wk.stop _ H2 (e2.trans g2.ex) (Nat.le_refl _), F2, M2, σ2', e1.trans e2, g2, r2, wn _ _ ?_⟩
    rw [List.drop_length] at w2
    exact w2
/-- W tells what holds between the turns, m falls -/
def dWhile (c : DT) (body : DS) : DS := fun D E σ M => ∃ W : Nat → DSt → MH → Prop, (∃ m, W m σ M) ∧ ∀ m σ M, W m σ M → c σ M (fun b M1 => (b = true → body { D with nx := fun σ M => ∃ m', m' < m ∧ W m' σ M, ct := fun σ M => ∃ m', m' < m ∧ W m' σ M, bk := D.nx } E σ M1) ∧ (b = false → D.nx σ M1)) E
end
end DL

/-! The deep layer, part f: chains of comparisons, comprehensions. -/
namespace DL
variable [DL.Wd] [DL.Fb]
open PySem PySem.Spec PyProof.Rows L2
section
variable {Ω : Wl} {τ : Sx} {X : Cx} {a b c e tg iter elt : Expr} {es rest ifs : List Expr} {da db dc de : DE} {ta tb dt : DT} {tl tr : DA} {pos p p2 tpos : Pos} {x : Str}

/-! ### a < b <= c .. -/
abbrev DH := D → DSt → MH → (Bool → MH → Prop) → EK → Prop
def DPC (Ω : Wl) (τ : Sx) (ops : List CmpOp) (es : List Expr) (d : DH) : Prop := Hd (∀ pos X, Fit Ω τ X → ∀ F0 E, TkD X F0 E → ∀ F M H σ σ' x x' Q, Ex F0 F → G X.K F M H → RpS X.K F σ σ' → Rp X.K F x x' → d x' σ' M Q E → ∀ pins s u, Inv X pins σ H s → RelV x u →
  wpAny (model X.prog X.w) X.A (compareChain pos u ops (evalEach es X.env)) (EP X pins σ (LQ X.K F fun y M => match y with
    | .bl b => Q b M
    | _ => False)) X.xe s ∧ wpAny (model X.prog X.w) X.A (testChain pos u ops (evalEach es X.env)) (TP X pins σ (LB X.K F Q)) X.xe s)
def dLast (o : Op2) (db : DE) : DH := fun x σ M Q E => db σ M (fun y M1 => o x y M1 fun z M2 => match z with
  | .bl b => Q b M2
  | _ => False) E
def dLink (o : Op2) (db : DE) (r : DH) : DH := fun x σ M Q E => db σ M (fun y M1 => o x y M1 fun z M2 => match z with
  | .bl b => (b = true → r y σ M2 Q E) ∧ (b = false → Q false M2)
  | _ => False) E
theorem dpc_last {op : CmpOp} {o : Op2} (ho : ∀ X, Fit Ω τ X → OpD X (compareOp op) o) (hb : DP Ω τ b db) : DPC Ω τ [op] [b] (dLast o db) := by
  refine ⟨?_⟩
  intro pos X ft F0 E tk F M H σ σ' x x' Q e0 g r rx h pins s u I ru
  have key : wpAny (model X.prog X.w) X.A (eval b X.env) (fun v s1 => wpAny (model X.prog X.w) X.A (compareOp op u v) (EP X pins σ (LQ X.K F fun y M => match y with
    | .bl b => Q b M
    | _ => False)) X.xe s1) X.xe s := by
    refine thn (hb.run X ft F0 E tk F M H σ σ' _ e0 g r h pins s I) ?_
    rintro v s1 ⟨y, H1, I1, rv, F1, M1, y', e1, g1, r1, q⟩
    exact wOp_mono (ho X ft F1 M1 H1 x y x' y' _ g1 (rx.mono e1) r1 q) (fun _ _ => LQ.back e1) pins s1 σ u v I1 ru rv
  refine ⟨chain_last key, test_last (thn key fun v s1 h1 => thn h1 ?_)⟩
  rintro w s2 ⟨z, H2, I2, rw', q2⟩
  obtain ⟨k, rfl, q3⟩ := LQ.test q2
  cases rw'
  exact wpAny_truthy_bool ⟨H2, I2, q3⟩
theorem dpc_link {op op' : CmpOp} {ops : List CmpOp} {o : Op2} {d : DH} (ho : ∀ X, Fit Ω τ X → OpD X (compareOp op) o) (hb : DP Ω τ b db) (hr : DPC Ω τ (op' :: ops) (c :: es) d) : DPC Ω τ (op :: op' :: ops) (b :: c :: es) (dLink o db d) := by
  refine ⟨?_⟩
  intro pos X ft F0 E tk F M H σ σ' x x' Q e0 g r rx h pins s u I ru
  have key : wpAny (model X.prog X.w) X.A (eval b X.env) (fun v s1 => wpAny (model X.prog X.w) X.A (compareOp op u v) (fun c' s2 => ∃ k, c' = .bool k ∧ ∃ F1 M1 H2 y y', Ex F F1 ∧ G X.K F1 M1 H2 ∧ Inv X pins σ H2 s2 ∧ RelV y v ∧ Rp X.K F1 y y' ∧ (k = true → d y' σ' M1 Q E) ∧ (k = false → Q false M1)) X.xe s1) X.xe s := by
    refine thn (hb.run X ft F0 E tk F M H σ σ' _ e0 g r h pins s I) ?_
    rintro v s1 ⟨y, H1, I1, rv, F1, M1, y', e1, g1, r1, q⟩
    refine thn (ho X ft F1 M1 H1 x y x' y' _ g1 (rx.mono e1) r1 q pins s1 σ u v I1 ru rv) ?_
    rintro w s2 ⟨z, H2, I2, rw', F2, M2, z', e2, g2, rz, q2⟩
    cases z' <;> first | exact q2.elim | skip
    rename_i k
    cases rz
    cases rw'
    exact ⟨k, rfl, F2, M2, H2, y, y', e1.trans e2, g2, I2, rv, r1.mono e2, q2.1, q2.2⟩
  refine ⟨chain_link (thn key fun v s1 h1 => thn h1 ?_), test_link (thn key fun v s1 h1 => thn h1 ?_)⟩
  · rintro c' s2 ⟨k, rfl, F1, M1, H2, y, y', e1, g1, I2, rv, ry, q1, q2⟩
    refine wpAny_truthy_bool ?_
    cases k with
    | true => exact thn (hr.run pos X ft F0 E tk F1 M1 H2 σ σ' y y' Q (e0.trans e1) g1 (r.mono e1) ry (q1 rfl) pins s2 v I2 rv).1 fun _ _ ⟨v', H', I', r', q⟩ => ⟨v', H', I', r', LQ.back e1 q⟩
    | false => exact ⟨.bl false, H2, I2, rfl, F1, M1, .bl false, e1, g1, .bl false, q2 rfl⟩
  · rintro c' s2 ⟨k, rfl, F1, M1, H2, y, y', e1, g1, I2, rv, ry, q1, q2⟩
    refine wpAny_truthy_bool ?_
    cases k with
    | true => exact thn (hr.run pos X ft F0 E tk F1 M1 H2 σ σ' y y' Q (e0.trans e1) g1 (r.mono e1) ry (q1 rfl) pins s2 v I2 rv).2 fun _ _ ⟨H', I', q⟩ => ⟨H', I', LB.back e1 q⟩
    | false => exact ⟨H2, I2, F1, M1, e1, g1, q2 rfl⟩
def dCh (da : DE) (d : DH) : DT := fun σ M Q E => da σ M (fun x M1 => d x σ M1 Q E) E
theorem dp_chain {op op' : CmpOp} {ops : List CmpOp} {d : DH} (ha : DP Ω τ a da) (hr : DPC Ω τ (op :: op' :: ops) (b :: c :: es) d) (hm : lastMarks (op :: op' :: ops) (b :: c :: es) = false := by with_unfolding_all rfl) :
    DP Ω τ (.Compare a (op :: op' :: ops) (b :: c :: es) pos) (asV (dCh da d)) := Hd.mk fun X ft F0 E tk F M H σ σ' Q e0 g r h pins s I => by
  refine Compare_chain (thn (ha.run X ft F0 E tk F M H σ σ' _ e0 g r h pins s I) ?_) hm
  rintro u s1 ⟨x, H1, I1, ru, F1, M1, x', e1, g1, r1, q⟩
  refine thn (hr.run pos X ft F0 E tk F1 M1 H1 σ σ' x x' _ (e0.trans e1) g1 (r.mono e1) r1 q pins s1 u I1 ru).1 ?_
  rintro w s2 ⟨v', H', I', r', F2, M2, y, e2, g2, r2, q2⟩
  cases y <;> first | exact q2.elim | skip
  exact ⟨v', H', I', r', F2, M2, _, e1.trans e2, g2, r2, q2⟩
/-! ### comprehensions -/
def noE : EK := fun _ _ _ => False
theorem tk_no {X : Cx} {F0 : Hp} : TkD X F0 noE := fun u s' x => by
  obtain ⟨a, B, sI, pins, σ, H, cls, d, e, I, nb, up, sky, na, os, ag, F, M, σ', er, _, _, _, _, h⟩ := x
  exact h.elim
/-- the static place of a comprehension's block -/
def Sx.blk (τ : Sx) (scope : Scope) : Sx := { τ with sc := relS scope τ.sc, own := fun x => (scope.names.lookup x == some .cell) || (scope.names.lookup x == some .local), dfn := false, act := none }
theorem fit_blk (ft : Fit Ω τ X) (s : Shared) (H : Hp) (scope : Scope) (C : Addr) (cl : List (Str × Addr)) (fp : List Addr) : Fit Ω (τ.blk scope) (X.blk s H scope (compEnvC scope cl C X.env) fp) where
  P := ft.P
  w := ft.w
  K := ft.K
  mg := ft.mg
  base := ft.base
  N := ft.N
  sc := by
    show relabel scope X.env = relS scope τ.sc
    rw [← ft.sc]; rfl
  room := ft.room
  wd := ft.wd
  hd := ft.hd
  st := fun z => absurd (show false = true from z) Bool.false_ne_true
  calm := ft.calm
  nd := ft.nd
  fn := fun x ho _ => by
    have ho' : ((scope.names.lookup x == some NameKind.cell) || (scope.names.lookup x == some NameKind.local)) = true := ho
    rw [Bool.or_eq_true] at ho'
    rcases ho' with h | h
    · exact .inl h
    · refine .inr ?_
      have hl : scope.names.lookup x = some .local := by
        cases q : scope.names.lookup x with
        | none => rw [q] at h; cases h
        | some k => rw [q] at h; cases k <;> first | rfl | cases h
      show (relS scope X.env.scope).names.lookup x = some .local
      exact lookup_relS_keep (by decide) hl
  po := PassesOwn.never
  gd := ft.gd
  lm := ft.lm
  ax := fun _ _ z => by cases z
def wTs (X : Cx) (ifs : List Expr) : TT := fun σ H Q => ∀ pins s, Inv X pins σ H s → wpAny (model X.prog X.w) X.A (forIn ifs true fun c r => if r = true then do let ok ← isTrue c X.env (eval c X.env); pure (ForInStep.yield ok) else pure (ForInStep.yield r)) (TP X pins σ Q) X.xe s
def DPTs (Ω : Wl) (τ : Sx) (ifs : List Expr) (d : DT) : Prop := Hd (∀ X, Fit Ω τ X → ∀ F0 E, TkD X F0 E → ∀ F M H σ σ' Q, Ex F0 F → G X.K F M H → RpS X.K F σ σ' → d σ' M Q E → wTs X ifs σ H (LB X.K F Q))
def dYes : DT := fun _ M Q _ => Q true M
theorem dpts_nil : DPTs Ω τ [] dYes := Hd.mk fun X ft F0 E tk F M H σ σ' Q e0 g r h pins s I => pts_nil.run pins s σ H _ I ⟨F, M, Ex.refl F, g, h⟩
theorem dpts_one (h : DPT Ω τ c ta) : DPTs Ω τ [c] ta := Hd.mk fun X ft F0 E tk F M H σ σ' Q e0 g r hd pins s I => (pts_one pt_wT).run pins s σ H _ I (h.run X ft F0 E tk F M H σ σ' Q e0 g r hd)
def wipeD (σ : DSt) : List Nat → DSt
  | [] => σ
  | v :: vs => (wipeD σ vs).set v none
theorem RpS.setN {K : PySem.W.Frag} {F : Hp} {σ : L2.St} {σ' : DSt} (r : RpS K F σ σ') (i : Nat) : RpS K F (σ.set i none) (σ'.set i none) := r.set i (v := none) (d := none) trivial
theorem RpS.wipe {K : PySem.W.Frag} {F : Hp} {σ : L2.St} {σ' : DSt} (r : RpS K F σ σ') : ∀ vs : List Nat, RpS K F (wipe σ vs) (wipeD σ' vs)
  | [] => r
  | v :: vs => (RpS.wipe r vs).setN v
theorem wipe_get (σ : L2.St) (j : Nat) : ∀ vs : List Nat, (wipe σ vs)[j]? = if j ∈ vs then (if j < σ.length then some none else none) else σ[j]?
  | [] => by simp [wipe]
  | v :: vs => by
    unfold wipe
    rw [List.getElem?_set, wipe_length, wipe_get σ j vs]
    by_cases h : v = j
    · subst h; simp
    · rw [if_neg h]
      have : (j ∈ v :: vs) ↔ j ∈ vs := by simp [Ne.symm h]
      simp only [this]
theorem wipe_kept {σ σ2 : L2.St} {vs is : List Nat} (k : Kept is (wipe σ vs) σ2) (h : ∀ i ∈ is, i ∈ vs) : wipe σ2 vs = wipe σ vs := by
  apply List.ext_getElem?
  intro j
  rw [wipe_get, wipe_get, k.1, wipe_length]
  by_cases hj : j ∈ vs
  · rw [if_pos hj, if_pos hj]
  · rw [if_neg hj, if_neg hj, k.2 j fun z => hj (h j z), wipe_get, if_neg hj]
/-- W tells what holds where r are left; what is made so far is the list at p -/
def LcGo (gd : DG) (dt : DT) (de : DE) (vs : List Nat) (σ : DSt) (Q : DQ) (xs : List D) (M1 : MH) : Prop := ∀ p, M1 p = none → ∃ W : List D → MH → Prop, W xs (M1.put p (.lst [])) ∧ (∀ M2, W [] M2 → ∃ acc, M2 p = some (.lst acc) ∧ Q (.lst acc) (M2.del p)) ∧
  ∀ x r M2, W (x :: r) M2 → gd x (wipeD σ vs) M2 (fun σ2 M3 => dt σ2 M3 (fun k M4 => (k = true → de σ2 M4 (fun y M5 => ∃ acc, M5 p = some (.lst acc) ∧ lenOk (acc.length + 1) ∧ W r (M5.put p (.lst (acc ++ [y])))) noE) ∧ (k = false → W r M4)) noE) noE
def dLc (di : DI) (gd : DG) (dt : DT) (de : DE) (vs : List Nat) : DE := fun σ M Q E => di σ M (fun xs M1 => LcGo gd dt de vs σ Q xs M1) E
theorem g_unput {K : PySem.W.Frag} {F H : Hp} {M : MH} {p : Addr} {acc : List D} (g : G K F M H) (h : M p = some (.lst acc)) {Q : DQ} (q : Q (.lst acc) (M.del p)) : LQ K F Q (.ref p) H := by
  obtain ⟨h3, ws, h4, h5⟩ := g.mo _ _ h
  have ex : Ex F (upd F p (.lst ws)) := Ex.new h3
  refine ⟨upd F p (.lst ws), M.del p, .lst acc, ex, ⟨fun b o q => ?_, fun b o q => ?_, g.kx.still h3 fun ps z => by rw [h4] at z; cases z⟩, .lst upd_same (h5.mono ex), q⟩
  · by_cases hb : b = p
    · subst hb; rw [upd_same] at q; cases q; exact h4
    · rw [upd_ne hb] at q; exact g.ex _ _ q
  · have hb : b ≠ p := fun z => by subst z; unfold MH.del at q; rw [if_pos rfl] at q; cases q
    unfold MH.del at q
    rw [if_neg hb] at q
    obtain ⟨k1, k2⟩ := g.mo b o q
    exact ⟨by rw [upd_ne hb]; exact k1, k2.mono ex rfl⟩
def bG (X : Cx) (scope : Scope) (tg : Expr) : TG := fun v σ H Q => ∀ s H0 C cl fp, wG (X.blk s H0 scope (compEnvC scope cl C X.env) fp) tg v σ H Q
def bT (X : Cx) (scope : Scope) (ifs : List Expr) : TT := fun σ H Q => ∀ s H0 C cl fp, wTs (X.blk s H0 scope (compEnvC scope cl C X.env) fp) ifs σ H Q
def bE (X : Cx) (scope : Scope) (elt : Expr) : TE := fun σ H Q => ∀ s H0 C cl fp, wE (X.blk s H0 scope (compEnvC scope cl C X.env) fp) elt σ H Q
theorem dlc_t {scope : Scope} {is : List Nat} {di : DI} {gd : DG} (own : List (Str × Nat)) (hok : blkC τ.N τ.sc scope own = true) (hi : DPI Ω τ tg iter di) (hg : DPG Ω (τ.blk scope) is tg gd) (ht : DPTs Ω (τ.blk scope) ifs dt) (he : DP Ω (τ.blk scope) elt de)
    (hv : ∀ i ∈ is, i ∈ own.map (·.2) := by decide) (ft : Fit Ω τ X) {F0 : Hp} {E : EK} (tk : TkD X F0 E) {F : Hp} {M : MH} {H : Hp} {σ : L2.St} {σ' : DSt} {Q : DQ} {T : VK} (e0 : Ex F0 F) (g : G X.K F M H) (r : RpS X.K F σ σ') (h : dLc di gd dt de (own.map (·.2)) σ' M Q E) (hT : ∀ v H, LQ X.K F Q v H → T v H) :
    tLc (wI X tg iter) (bG X scope tg) (bT X scope ifs) (bE X scope elt) (own.map (·.2)) σ H T := by
  refine wI_mono (hi.run X ft F0 E tk F M H σ σ' _ e0 g r h) ?_
  rintro J H1 ⟨F1, M1, xs, e1, g1, wk, hp⟩
  intro p hpn
  obtain ⟨hF1, hM1⟩ := g1.fresh hpn
  obtain ⟨W, w0, wn, ws⟩ := hp p hM1
  have g0 : G X.K F1 (M1.put p (.lst [])) (upd H1 p (.lst [])) := g1.newM hpn (o := .lst []) (u := .lst []) ⟨[], upd_same, .nil⟩
  refine ⟨fun i m H => m = xs.length - i ∧ i ≤ xs.length ∧ ∃ F2 M2, Ex F1 F2 ∧ G X.K F2 M2 H ∧ W (xs.drop i) M2, ⟨_, rfl, Nat.zero_le _, F1, _, Ex.refl F1, g0, w0⟩, ?_⟩
  rintro i m H2 ⟨rfl, hi2, F2, M2, e2, g2, w2⟩
  have e02 : Ex F0 F2 := (e0.trans e1).trans e2
  by_cases hlt : i < xs.length
  · refine .inr ⟨wk.go i H2 (e2.trans g2.ex) hlt, fun H => i + 1 ≤ xs.length ∧ ∃ F3 M3, Ex F1 F3 ∧ G X.K F3 M3 H ∧ W (xs.drop (i + 1)) M3, fun H' q => ⟨_, by omega, rfl, q⟩, fun v H3 hy => ?_⟩
    have hd : xs[i]? = some xs[i] := List.getElem?_eq_getElem hlt
    obtain ⟨F3, e3, g3, r3⟩ := wk.yld i F2 M2 H2 v H3 _ e2 g2 hd hy
    rw [List.drop_eq_getElem_cons hlt] at w2
    intro s H0 C cl fp
    have e03 : Ex F0 F3 := e02.trans e3
    have e13 : Ex F1 F3 := e2.trans e3
    refine wG_mono (hg.run _ (fit_blk ft s H0 scope C cl fp) F0 noE tk_no F3 M2 H3 _ _ v _ _ e03 g3 ((r.mono (e1.trans e13)).wipe _) r3 (ws _ _ _ w2)) ?_
    rintro σ4 H4 ⟨k4, F4, M4, σ4', e4, g4, r4, q⟩
    refine ⟨wipe_kept k4 hv, fun s H0 C cl fp => ?_⟩
    have bt := ht.run _ (fit_blk ft s H0 scope C cl fp) F0 noE tk_no F4 M4 H4 σ4 σ4' _ (e03.trans e4) g4 r4 q
    refine fun pins s1 I1 => thn (bt pins s1 I1) ?_
    rintro k s2 ⟨H5, I5, F5, M5, e5, g5, q1, q2⟩
    refine ⟨H5, I5, ?_⟩
    have e15 : Ex F1 F5 := (e13.trans e4).trans e5
    cases k with
    | false => exact iteF ⟨hlt, F5, M5, e15, g5, q2 rfl⟩
    | true =>
      refine iteT fun s H0 C cl fp => ?_
      refine wE_mono (he.run _ (fit_blk ft s H0 scope C cl fp) F0 noE tk_no F5 M5 H5 σ4 σ4' _ ((e0.trans e1).trans e15) g5 (r4.mono e5) (q1 rfl)) ?_
      rintro y H6 ⟨F6, M6, y', e6, g6, r6, acc, h6, hl, q6⟩
      obtain ⟨hF, wsv, h7, h8⟩ := g6.mo _ _ h6
      refine ⟨wsv, h7, by rw [h8.length]; exact Nat.lt_of_lt_of_le (Nat.lt_succ_self _) hl.sz, hlt, F6, _, e15.trans e6, g6.set h6 (o := .lst (wsv ++ [y])) (u := .lst (acc ++ [y'])) ⟨_, upd_same, h8.snoc r6⟩, q6⟩
  · have e : i = xs.length := by omega
    subst e
    rw [List.drop_length] at w2
    obtain ⟨acc, h6, q6⟩ := wn _ w2
    exact .inl ⟨wk.stop _ H2 (e2.trans g2.ex) (Nat.le_refl _), hT _ _ (LQ.back (e1.trans e2) (g_unput g2 h6 q6))⟩

theorem dp_lc {scope : Scope} {is : List Nat} {di : DI} {gd : DG} (own : List (Str × Nat)) (hok : blkC τ.N τ.sc scope own = true) (hi : DPI Ω τ tg iter di) (hg : DPG Ω (τ.blk scope) is tg gd) (ht : DPTs Ω (τ.blk scope) ifs dt) (he : DP Ω (τ.blk scope) elt de)
    (hv : ∀ i ∈ is, i ∈ own.map (·.2) := by decide) (hc : τ.calm = true := by rfl) (hs : ∀ env x, foldedSetIterable iter env x = pure x := by intro _ _; rfl) : DP Ω τ (.ListComp elt [⟨tg, iter, ifs, 0⟩] scope pos) (dLc di gd dt de (own.map (·.2))) := Hd.mk fun X ft F0 E tk F M H σ σ' Q e0 g r h =>
  wE_of (pe_lc (ft.calm hc) (by rw [ft.N]; exact ft.nd) pi_wI (blkOk_by (by rw [ft.N, ft.sc]; exact hok))
    (fun s H0 C cl fp => ⟨fun pins s1 σ1 H1 v u Q1 I1 rv q => q s H0 C cl fp pins s1 u I1 rv⟩) (fun s H0 C cl fp => ⟨fun pins s1 σ1 H1 Q1 I1 q => q s H0 C cl fp pins s1 I1⟩) (fun s H0 C cl fp => ⟨fun pins s1 σ1 H1 Q1 I1 q => q s H0 C cl fp pins s1 I1⟩) (hs _)) (dlc_t own hok hi hg ht he hv ft tk e0 g r h fun _ _ z => z)
/-- name = [..] on one line -/
theorem dps_setLc {ls : List Nat} {y : Str} {py spos : Pos} (L : StOk τ.N ls τ.sc τ.own) (i : Nat) {scope : Scope} {is : List Nat} {di : DI} {gd : DG} (own : List (Str × Nat)) (hok : blkC τ.N τ.sc scope own = true) (hi : DPI Ω τ tg iter di) (hg : DPG Ω (τ.blk scope) is tg gd) (ht : DPTs Ω (τ.blk scope) ifs dt) (he : DP Ω (τ.blk scope) elt de)
    (hv : ∀ i ∈ is, i ∈ own.map (·.2) := by decide) (hN : τ.N[i]? = some y := by rfl) (hy : τ.sc.names.lookup y = some .local := by decide +kernel) (hl : (py.line == pos.line) = true := by rfl)
    (hk : τ.sc.kind = .function := by rfl) (hf : (scope.names.any fun (n, k) => n == y && (k == .local || k == .cell)) = false := by decide +kernel) (hc : τ.calm = true := by rfl) (hs : ∀ env x, foldedSetIterable iter env x = pure x := by intro _ _; rfl) :
    DPS Ω τ (.Assign [.Name y py] (.ListComp elt [⟨tg, iter, ifs, 0⟩] scope pos) spos) (dSet i (dLc di gd dt de (own.map (·.2)))) := Hd.mk fun X ft F0 E tk F M H σ σ' D e0 g r h => by
  refine wS_of (ps_setLc (i := i) (ft.calm hc) (by rw [ft.N]; exact ft.nd) (by rw [ft.N]; exact hN) (by rw [ft.sc]; exact hy) (sw_true (by rw [ft.sc]; exact hk) (by rw [ft.sc]; exact hy) hl hf) pi_wI (blkOk_by (by rw [ft.N, ft.sc]; exact hok))
    (fun s H0 C cl fp => ⟨fun pins s1 σ1 H1 v u Q1 I1 rv q => q s H0 C cl fp pins s1 u I1 rv⟩) (fun s H0 C cl fp => ⟨fun pins s1 σ1 H1 Q1 I1 q => q s H0 C cl fp pins s1 I1⟩) (fun s H0 C cl fp => ⟨fun pins s1 σ1 H1 Q1 I1 q => q s H0 C cl fp pins s1 I1⟩) (hs _))
    (dlc_t own hok hi hg ht he hv ft tk e0 g r h ?_)
  rintro v H1 ⟨F1, M1, d, e1, g1, r1, q⟩
  exact ⟨F1, M1, _, e1, g1, (r.mono e1).set1 i r1, q⟩
end
end DL

/-! The deep layer, part g: defs and their calls, by data. -/
namespace DL
variable [DL.Wd] [DL.Fb]
open PySem PySem.Spec PyProof.Rows L2

/-- a def's promise by data: the arguments, what changes, the wanted end, the wanted exception -/
abbrev DSp := List D → MH → DQ → (Er → MH → Prop) → Prop
def lift (K : PySem.W.Frag) (n : Nat) (sp : DSp) : Sp := fun vs H Q E => ∃ F M ds Qd Ed, G K F M H ∧ RpL K F vs ds ∧ ds.length = n ∧ sp ds M Qd Ed ∧
  (∀ y M' v H' F', Ex F F' → G K F' M' H' → Rp K F' v y → Qd y M' → Q v H') ∧ (∀ er M' cls d H' F', Ex F F' → G K F' M' H' → ErOk K F' cls d er → Ed er M' → E cls d H')
/-- a promise where no guard stands around (a repr asks for that) -/
structure FnG (P : Program) (w : World) (K : PySem.W.Frag) (mg : Str → Option Value) (base : Heap) (CX : CXT) (k : Nat) (f : Addr) (fd : FuncData) (ps : List Str) (sp : Sp) : Prop where
  size : ∀ ws H Q E, sp ws H Q E → ws.length = ps.length
  go : ∀ (A : Around) (out : List Env) (t : Shared) (H : Hp) (ag : Args) (us : List Value) (ws : List V) (Q : VK) (E : XK), Room k A → A.guards = some [] → Env0 P w K mg base A out t H → BindsTo t fd ag (ps.zip us) → Vals ws us → sp ws H Q E →
    codeAny (model P w) A (.call (.ref f) ag) (CR CX out P w H t Q E) t
theorem FnG.mono {P : Program} {w : World} {K : PySem.W.Frag} {mg : Str → Option Value} {base : Heap} {CX : CXT} {j k : Nat} {f : Addr} {fd : FuncData} {ps : List Str} {sp : Sp} (F : FnG P w K mg base CX j f fd ps sp) (h : j ≤ k) : FnG P w K mg base CX k f fd ps sp :=
  ⟨F.size, fun A out t H ag us ws Q E r => F.go A out t H ag us ws Q E (r.mono h)⟩
theorem FnG.imp {P : Program} {w : World} {K : PySem.W.Frag} {mg : Str → Option Value} {base : Heap} {CX : CXT} {k : Nat} {f : Addr} {fd : FuncData} {ps : List Str} {sp sp' : Sp} (F : FnG P w K mg base CX k f fd ps sp) (h : ∀ ws H Q E, sp' ws H Q E → sp ws H Q E) : FnG P w K mg base CX k f fd ps sp' :=
  ⟨fun ws H Q E q => F.size ws H Q E (h _ _ _ _ q), fun A out t H ag us ws Q E r g e b v q => F.go A out t H ag us ws Q E r g e b v (h _ _ _ _ q)⟩
/-- a def by its body -/
theorem fnG_of {CX : CXT} {P : Program} {w : World} {K : PySem.W.Frag} {mg : Str → Option Value} {base : Heap} {k : Nat} {f : Addr} {nm qu : Str} {par : Arguments} {body : List Stmt} {sc : Scope} {d1 d2 d3 d4 d5 d6 cls0 : Value} {an dd : Option Addr}
    {sl : Array (Option Value)} {N ps : List Str} {sp : Sp} (hK : K.lookup f = some ⟨cls0, dd, .func (PySem.W.fnOf nm qu par body sc d1 d2 d3 d4 an d5 d6), sl⟩) (hcode : PySem.W.codeIn K d5 qu = true) (S : FnScope N ps sc)
    (size : ∀ ws H Q E, sp ws H Q E → ws.length = ps.length)
    (hb : ∀ (A : Around) (out : List Env) (t : Shared) (H : Hp) (ws : List V) (Q : VK) (E : XK), A.guards = some [] → Room k (A.deeper (envOfC qu sc t.heap.objs.size f d5)) → sp ws H Q E →
      ∃ r, PSs (cxOf CX P w K mg base N qu sc f d5 A out t H E) body r ∧ r { nx := fun _ H' => Q .non H', rt := Q } (L2.start N ws) H) :
    FnG P w K mg base CX (k + 1) f (PySem.W.fnOf nm qu par body sc d1 d2 d3 d4 an d5 d6) ps sp := by
  refine ⟨size, fun A out t H ag us ws Q E room gd e0 bnd rv hs => ?_⟩
  have inK : K.In t.heap := e0.mod.kin.keeps fun b o z => (e0.bs b o z).1
  have kinds : ∀ y ∈ ps.zip us, sc.names.lookup y.1 = some .local ∨ (sc.names.lookup y.1 = some .cell ∧ ((cellsFrom (t.heap.objs.size + 1) sc.names []).lookup y.1).isSome = true) := by
    rintro ⟨n, v⟩ hy
    exact (S.par n (List.of_mem_zip hy).1).imp id fun q => ⟨q, PySem.W.cellsFrom_some _ _ _ (.inl q)⟩
  refine codeAny_call_function room.depth (inK _ _ hK) rfl S.co S.gen rfl (PySem.W.codeRec_of inK hcode) (bnd _ _ _ _ ?_)
  refine wpAny_newFunctionEnv_cells S.kind kinds fun ev hev t1 x => ?_
  subst hev
  refine ⟨(e0.mod.nolimit.keeps fun b o z => (e0.bs b o z).1).keeps x.toInCall.keep, codeAny_func ?_⟩
  obtain ⟨r, hr, q⟩ := hb A out t H ws Q E gd (room.deeper _) hs
  have I : Inv (cxOf CX P w K mg base N qu sc f d5 A out t H E) [] (L2.start N ws) H t1 := inv_start S room.hd e0 (size _ _ _ _ hs) rv x
  refine wpAny_mono (hr.run [] t1 (L2.start N ws) H _ I q) (fun fl t2 z => ?_) fun _ _ z => z
  cases fl with
  | next => exact let ⟨_, H2, J, q2⟩ := z; ⟨V.non, H2, J.os, J.bare, J.base, J.hok, rfl, q2⟩
  | ret u => exact let ⟨v, _, H2, J, rv2, q2⟩ := z; ⟨v, H2, J.os, J.bare, J.base, J.hok, rv2, q2⟩
  | brk => exact z.elim fun _ z => z.elim fun _ z => z.2.elim
  | cont => exact z.elim fun _ z => z.elim fun _ z => z.2.elim
/-- the callee runs -/
theorem run_fnG {X : Cx} {CX : CXT} {k : Nat} {f : Addr} {fd : FuncData} {ps : List Str} {sp : Sp} {E : L2.St → XK} {pins : List (Addr × Obj)} {σ : L2.St} {H : Hp} {s : Shared} {Q : VK} {us : List Value} {ag : Args} {ws : List V} (F : FnG X.prog X.w X.K X.mg X.base CX k f fd ps sp) (room : Room k X.A) (gd : X.A.guards = some []) (bnd : BindsTo s fd ag (ps.zip us))
    (pass : PassesAt CX X σ (E σ)) (I : Inv X pins σ H s) (rv : Vals ws us) (h : sp ws H Q (E σ)) : codeAny (model X.prog X.w) X.A (.call (.ref f) ag) (fun r s' => match r with
      | .ok (.ret u) => EP X pins σ Q u s'
      | .ok _ => False
      | .error e => X.xe e s') s := by
  refine codeAny_mono (F.go X.A X.stack s H ag us ws Q (E σ) room gd I.env0 bnd rv h) ?_
  rintro (e | fl) t z
  · exact pass pins H s e t I z
  · cases fl <;> first | exact I.after z | exact False.elim z
/-- the def at f with object fd keeps its promise -/
abbrev Okd (Ω : Wl) (f : Addr) (fd : FuncData) (k : Nat) (ps : List Str) (sp : DSp) : Prop := FnG Ω.P Ω.w Ω.K Ω.mg Ω.base (L2N.CX Ω.P Ω.w) k f fd ps (lift Ω.K ps.length sp)
/-- a def of the module, by its name -/
def Cal (Ω : Wl) (x : Str) (k : Nat) (ps : List Str) (sp : DSp) : Prop := ∃ f fd, Okd Ω f fd k ps sp ∧ Ω.mg x = some (.ref f) ∧ PySem.W.keepIn Ω.K (.ref f) = true ∧ Binds Ω.K fd ps []
/-- where a def stands -/
def Std (Ω : Wl) (x : Str) (ps : List Str) (st : Stmt) : Prop := ∃ f fd, Fun Ω.K x x st f fd ∧ Ω.mg x = some (.ref f) ∧ Binds Ω.K fd ps []

def dstart (N : List Str) (ds : List D) : DSt := ds.map some ++ List.replicate (N.length - ds.length) none
theorem rps_none {K : PySem.W.Frag} {F : Hp} : ∀ n : Nat, RpS K F (List.replicate n none) (List.replicate n none)
  | 0 => .nil
  | n + 1 => .cons (show RpO K F none none from trivial) (rps_none n)
theorem rps_start {K : PySem.W.Frag} {F : Hp} {N : List Str} {vs : List V} {ds : List D} (r : RpL K F vs ds) : RpS K F (L2.start N vs) (dstart N ds) := by
  unfold L2.start dstart
  rw [r.length]
  generalize N.length - ds.length = n
  induction vs generalizing ds with
  | nil => cases r; exact rps_none n
  | cons v vs ih => cases r with | cons h r => exact .cons (show RpO K F (some v) (some _) from h) (ih r)

/-- the static place of a def that makes lambdas -/
def Sx.fnL (N : List Str) (sc : Scope) (k : Nat) (lam : Option Str) : Sx := ⟨N, sc, k, true, fun _ => true, true, lam, none⟩
/-- a def's static place -/
def Sx.fn (N : List Str) (sc : Scope) (k : Nat) : Sx := ⟨N, sc, k, true, fun _ => true, true, none, none⟩
/-- less is told of what changes -/
def MH.Le (M' M : MH) : Prop := ∀ a o, M' a = some o → M a = some o
theorem MH.Le.refl {M : MH} : MH.Le M M := fun _ _ h => h
theorem MH.Le.trans {M1 M2 M3 : MH} (a : MH.Le M1 M2) (b : MH.Le M2 M3) : MH.Le M1 M3 := fun x o h => b x o (a x o h)
theorem MH.Le.put {M1 M2 : MH} (h : MH.Le M1 M2) {a : Addr} {o : MO} (ha : M1 a = none) : MH.Le M1 (M2.put a o) := fun x u q => by
  rw [MH.put_ne (fun e => by rw [e, ha] at q; cases q)]; exact h x u q
theorem MH.Le.del {M1 M2 : MH} (h : MH.Le M1 M2) {a : Addr} (ha : M1 a = none) : MH.Le M1 (M2.del a) := fun x u q => by
  unfold MH.del
  rw [if_neg (fun e => by rw [e, ha] at q; cases q)]; exact h x u q
abbrev ends (Q : DQ) : DEnds := { nx := fun _ M => ∃ M', MH.Le M' M ∧ Q .non M', rt := fun v M => ∃ M', MH.Le M' M ∧ Q v M', bk := fun _ _ => False, ct := fun _ _ => False }
section
variable {Ω : Wl} {τ : Sx} {X : Cx} {a b c e o tg iter elt : Expr} {es rest ifs : List Expr} {da db dc de : DE} {ta tb dt : DT} {tl tr : DA} {pos p p2 apos : Pos} {x m : Str} {vs : List Nat} {gs : List Str} {f : Addr} {C : Str} {fd : FuncData} {k : Nat} {ps : List Str} {sp : DSp} {st : Stmt} {N : List Str} {d : DS} {qual : Str}
theorem okd_mkC {cdv kV doc pm ct oc : Value} {an od : Option Addr} {osl : Array (Option Value)} {P : Program} {w : World} {K : PySem.W.Frag} {mg : Str → Option Value} {base : Heap} (lk : K.lookup f = some ⟨oc, od, .func (PySem.W.fnOf x qual (defArgs st) (defBody st) (defScope st) .none kV doc pm an cdv ct), osl⟩) (hcd : PySem.W.codeIn K cdv qual = true) (lam : Option Str) (hlam : ∀ x, lam = some x → cdv = .ref (Wd.lc x).1 ∧ qual = x) (S : FnScope N ps (defScope st)) (hb : DPSs ⟨P, w, K, mg, base⟩ (Sx.fnL N (defScope st) k lam) (defBody st) d)
    (h : ∀ ds M Q E, ds.length = ps.length → sp ds M Q E → d (ends Q) (fun er _ M => E er M) (dstart N ds) M) (hw : w = Wd.w := by rfl) : Okd ⟨P, w, K, mg, base⟩ f (PySem.W.fnOf x qual (defArgs st) (defBody st) (defScope st) .none kV doc pm an cdv ct) (k + 1) ps sp := by
  refine fnG_of lk hcd S (fun vs H Q E h => ?_) fun A outer s H vs Q E gd hr hsp => ?_
  · obtain ⟨F1, M, ds, Qd, Ed, g, r, hl, _⟩ := h
    exact r.length.trans hl
  · obtain ⟨F1, M, ds, Qd, Ed, g, r, hl, hs, hq, he⟩ := hsp
    generalize hX : cxOf (L2N.CX P w) P w K mg base N qual (defScope st) f cdv A outer s H E = X
    have xP : X.prog = P := by rw [← hX]; rfl
    have xw : X.w = w := by rw [← hX]; rfl
    have xK : X.K = K := by rw [← hX]; rfl
    have fit : Fit ⟨P, w, K, mg, base⟩ (Sx.fnL N (defScope st) k lam) X := by
      rw [← hX]
      exact ⟨rfl, rfl, rfl, rfl, rfl, rfl, rfl, ⟨hr.dp, hr.un⟩, fun _ => hr.hd, fun _ => rfl, S.nd, fun _ _ _ => .inl rfl, passes_of rfl, gd, hw, fun _ => ⟨rfl, rfl⟩, fun x z => ⟨(hlam x z).1, congrArg (fun y : Str => y ++ (".<locals>." : Str)) (hlam x z).2⟩, fun _ _ z => by cases z⟩
    have tk : TkD X F1 (fun er _ M => Ed er M) := by
      have t0 : L2N.Takes X (fun cls d _ H => E cls d H) := by
        rw [← hX]
        exact L2N.takes_of rfl rfl rfl rfl
      refine t0.imp fun cls d σ H ⟨F2, M2, σ', er, e2, g2, _, ok, q⟩ => ?_
      rw [xK] at g2 ok
      exact he er M2 cls d H F2 e2 g2 ok q
    refine ⟨_, pss_wSs, wSs_mono (hb.run X fit F1 _ tk F1 M H (L2.start N vs) (dstart N ds) (ends Qd) (Ex.refl F1) (by rw [xK]; exact g) (by rw [xK]; exact rps_start r) (h ds M Qd Ed hl hs)) ⟨?_, ?_, ?_, ?_⟩⟩
    · rintro σ2 H2 ⟨F2, M2, σ', e2, g2, _, q⟩
      rw [xK] at g2
      obtain ⟨M3, le, q⟩ := q
      exact hq .non M3 .non H2 F2 e2 (g2.less le) .non q
    · rintro v H2 ⟨F2, M2, y, e2, g2, rv, q⟩
      rw [xK] at g2 rv
      obtain ⟨M3, le, q⟩ := q
      exact hq y M3 v H2 F2 e2 (g2.less le) rv q
    · rintro σ2 H2 ⟨_, _, _, _, _, _, q⟩
      exact q.elim
    · rintro σ2 H2 ⟨_, _, _, _, _, _, q⟩
      exact q.elim
theorem okd_mk {P : Program} {w : World} {K : PySem.W.Frag} {mg : Str → Option Value} {base : Heap} (F : Fun K x qual st f fd) (S : FnScope N ps (defScope st)) (hb : DPSs ⟨P, w, K, mg, base⟩ (Sx.fn N (defScope st) k) (defBody st) d)
    (h : ∀ ds M Q E, ds.length = ps.length → sp ds M Q E → d (ends Q) (fun er _ M => E er M) (dstart N ds) M) (hw : w = Wd.w := by rfl) : Okd ⟨P, w, K, mg, base⟩ f fd (k + 1) ps sp := by
  obtain ⟨oc, od, kV, doc, pm, an, cdv, ct, osl, rfl, lk, hcd⟩ := F.ex
  exact okd_mkC lk hcd none (fun _ z => by cases z) S hb h hw
/-- a def whose code object is known -/
def FunC (K : PySem.W.Frag) (x qual : Str) (st : Stmt) (f : Addr) (fd : FuncData) (c : Addr) : Prop := (∃ (oc : Value) (od : Option Addr) (kV doc pm : Value) (an : Option Addr) (ct : Value) (osl : Array (Option Value)),
    fd = PySem.W.fnOf x qual (defArgs st) (defBody st) (defScope st) .none kV doc pm an (.ref c) ct ∧ K.lookup f = some ⟨oc, od, .func fd, osl⟩ ∧ PySem.W.codeIn K (.ref c) qual = true) ∧ PySem.W.keepIn K (.ref f) = true
/-- where a def stands that makes lambdas -/
def StdL (Ω : Wl) (x : Str) (ps : List Str) (st : Stmt) : Prop := ∃ f fd, FunC Ω.K x x st f fd (Wd.lc x).1 ∧ Ω.mg x = some (.ref f) ∧ Binds Ω.K fd ps []
theorem cal_mk (h0 : Std Ω x ps st) (S : FnScope N ps (defScope st)) (hb : DPSs Ω (Sx.fn N (defScope st) k) (defBody st) d) (h : ∀ ds M Q E, ds.length = ps.length → sp ds M Q E → d (ends Q) (fun er _ M => E er M) (dstart N ds) M) (hw : Ω.w = Wd.w := by rfl) : Cal Ω x (k + 1) ps sp := by
  obtain ⟨f, fd, F, hm, b⟩ := h0
  exact ⟨f, fd, okd_mk F S hb h hw, hm, F.kp, b⟩
theorem Cal.imp {sp' : DSp} (c : Cal Ω x k ps sp) (h : ∀ ds M Q E, ds.length = ps.length → sp' ds M Q E → sp ds M Q E) : Cal Ω x k ps sp' := by
  obtain ⟨f, fd, F, r⟩ := c
  exact ⟨f, fd, F.imp fun vs H Q E ⟨F1, M, ds, Qd, Ed, g, r, hl, hs, hq, he⟩ => ⟨F1, M, ds, Qd, Ed, g, r, hl, h _ _ _ _ hl hs, hq, he⟩, r⟩
theorem Cal.mono {j : Nat} (c : Cal Ω x j ps sp) (h : j ≤ k) : Cal Ω x k ps sp := by
  obtain ⟨f, fd, F, r⟩ := c
  exact ⟨f, fd, F.mono h, r⟩

/-! ### calls -/
theorem fit_ok (ft : Fit Ω τ X) (F : Okd Ω f fd k ps sp) : FnG X.prog X.w X.K X.mg X.base (L2N.CX X.prog X.w) k f fd ps (lift X.K ps.length sp) := by
  rw [ft.P, ft.w, ft.K, ft.mg, ft.base]; exact F
/-- the call of what was looked up, the arguments laid -/
theorem run_okd (ft : Fit Ω τ X) (F : Okd Ω f fd k ps sp) (hk : k ≤ τ.k ∧ τ.calm = true) (hb : Binds Ω.K fd ps []) {F0 : Hp} {E : EK} (tk : TkD X F0 E) {pins : List (Addr × Obj)} {σ : L2.St} {H : Hp} {s : Shared} {Q : VK} {us : List Value} {ws : List V} (I : Inv X pins σ H s) (rv : Vals ws us)
    (h : lift X.K ps.length sp ws H Q (WE (LX X.K F0 E) σ)) : wpAny (model X.prog X.w) X.A (call (.ref f) us) (EP X pins σ Q) X.xe s := by
  have hl : us.length = ps.length := rv.length.symm.trans ((fit_ok ft F).size _ _ _ _ h)
  have b := hb s us (by rw [← ft.K]; exact I.kIn) (by rw [List.append_nil]; exact hl)
  rw [List.append_nil] at b
  refine wpAny_call (codeAny_mono (run_fnG (E := WE (LX X.K F0 E)) (fit_ok ft F) ((ft.roomC hk.2).mono hk.1) ft.gd b (L2N.passAt tk σ) I rv h) ?_)
  rintro (e | fl) t z
  · exact z
  · cases fl <;> first | exact z | exact False.elim z
/-- the wish of a call is met -/
theorem lift_of {K : PySem.W.Frag} {F0 F M} {H : Hp} {σ : L2.St} {σ' : DSt} {vs : List V} {ds : List D} {Q : DQ} {E : EK} {n : Nat} (e0 : Ex F0 F) (g : G K F M H) (rs : RpS K F σ σ') (r : RpL K F vs ds) (hl : ds.length = n) (h : sp ds M Q fun er M2 => E er σ' M2) :
    lift K n sp vs H (LQ K F Q) (WE (LX K F0 E) σ) :=
  ⟨F, M, ds, Q, _, g, r, hl, h, fun y M' v H' F' e g' rv q => ⟨F', M', y, e, g', rv, q⟩, fun er M' cls d H' F' e g' ok q => ⟨F', M', σ', er, e0.trans e, g', rs.mono e, ok, q⟩⟩
def dCall (n : Nat) (sp : DSp) (t : DA) : DE := fun σ M Q E => t σ M (fun ds M1 => ds.length = n ∧ sp ds M1 Q fun er M2 => E er σ M2) E
theorem dp_call (c : Cal Ω x k ps sp) (S : ScOk τ.N vs gs τ.sc) (ha : DPA Ω τ (e :: es) tl) (hg : x ∈ gs := by decide) (hk : k ≤ τ.k ∧ τ.calm = true := by decide) (hdb : (x == ("__debug__" : Str)) = false := by decide)
    (he : ∀ env, starEach (e :: es) env = (false, eval e env) :: starEach es env := by intro _; rfl) (hpl : ∀ env, (backTo pos (starEach es env)).any (·.1) = false := by intro _; rfl) : DP Ω τ (.Call (.Name x p) (e :: es) [] pos) (dCall ps.length sp tl) := Hd.mk fun X ft F0 E tk F M H σ σ' Q e0 g r h pins s I => by
  obtain ⟨f, fd, F1, hm, hkp, hb⟩ := c
  refine wpAny_Call_Name_kw (ld_glob I (fit_gl ft S hg) (by rw [ft.mg]; exact hm) ?_ hdb)
  refine PySem.W.callWith_K (h₀ := X.base) I.ok.mod.kin (by rw [ft.K]; exact hkp) (thn (ha.run X ft F0 E tk F M H σ σ' _ e0 g r h pos pins s I) ?_) (he _) (hpl _)
  rintro us s1 ⟨vs, H1, I1, rv, F2, M2, ds, e2, g2, r2, hl, q⟩
  refine ⟨I1.kIn, thn (run_okd ft F1 hk hb tk I1 rv (lift_of (e0.trans e2) g2 (r.mono e2) r2 hl q)) ?_⟩
  rintro u s2 ⟨v, H2, I2, rv2, q2⟩
  exact ⟨v, H2, I2, rv2, LQ.back e2 q2⟩
def dCall0 (sp : DSp) : DE := fun σ M Q E => sp [] M Q fun er M2 => E er σ M2
/-! ### instances: fields, methods, properties -/
/-- the instance that a value is: one that stands still, or one that may change -/
def insD (C : Str) : D → MH → (List Str → List D → Prop) → Prop
  | .obj C' ns fs, _, R => C' = C ∧ R ns fs
  | .ref a, M, R => ∃ ns fs, M a = some (.ins C ns fs) ∧ R ns fs
  | _, _, _ => False
def fldOf : List Str → List D → Str → Option D
  | n :: ns, f :: fs, x => if x == n then some f else fldOf ns fs x
  | _, _, _ => none
def dFld (C : Str) (f : Str) (de : DE) : DE := fun σ M Q E => de σ M (fun x M1 => insD C x M1 fun ns fs => ∃ y, fldOf ns fs f = some y ∧ Q y M1) E
/-- a method of a class -/
def CalM (Ω : Wl) (C : Str) (m : Str) (k : Nat) (ps : List Str) (sp : DSp) : Prop := ∃ f fd, Okd Ω f fd k ps sp ∧ Meth Ω.K (clsA Ω.K C) m f ∧ Binds Ω.K fd ps []
def StdM (Ω : Wl) (C : Str) (m qual : Str) (ps : List Str) (st : Stmt) : Prop := ∃ f fd, Fun Ω.K m qual st f fd ∧ Meth Ω.K (clsA Ω.K C) m f ∧ Binds Ω.K fd ps []
def dMeth (C : Str) (m : Str) (n : Nat) (sp : DSp) (de : DE) (t : DA) : DE := fun σ M Q E => de σ M (fun x M1 => insD C x M1 fun ns _ => ns.contains m = false ∧ t σ M1 (fun ds M2 => ds.length + 1 = n ∧ sp (x :: ds) M2 Q fun er M3 => E er σ M3) E) E
def dMeth0 (C : Str) (m : Str) (sp : DSp) (de : DE) : DE := fun σ M Q E => de σ M (fun x M1 => insD C x M1 fun ns _ => ns.contains m = false ∧ sp [x] M1 Q fun er M3 => E er σ M3) E
/-- o.f = e of an instance that may change -/
def putFs : List Str → List D → Str → D → List Str × List D
  | n :: ns, f :: fs, x, y => if n = x then (n :: ns, y :: fs) else let r := putFs ns fs x y; (n :: r.1, f :: r.2)
  | [], _, x, y => ([x], [y])
  | ns, [], _, _ => (ns, [])
def dsFld (C : Str) (f : Str) (dv de : DE) : DS := fun D E σ M => dv σ M (fun y M1 => de σ M1 (fun x M2 => match x with
  | .ref a => ∃ ns fs, M2 a = some (.ins C ns fs) ∧ ns.length < 900 ∧ D.nx σ (M2.put a (.ins C (putFs ns fs f y).1 (putFs ns fs f y).2))
  | _ => False) E) E
/-- an instance that changed is from now on one that stands still -/
def frzO (x : D) (M : MH) (Q : DQ) : Prop := match x with
  | .ref a => ∃ C ns fs, M a = some (.ins C ns fs) ∧ Q (.obj C ns fs) (M.del a)
  | _ => False
def dFrzO (de : DE) : DE := fun σ M Q E => de σ M (fun x M1 => frzO x M1 Q) E
end
end DL

/-! The deep layer, part h: the built-in functions, subscripts, slices, in. -/
namespace DL
variable [DL.Wd] [DL.Fb]
open PySem PySem.Spec PyProof.Rows L2
section
variable {Ω : Wl} {τ : Sx} {X : Cx} {a b c e o tg iter elt : Expr} {es rest ifs : List Expr} {da db dc de : DE} {ta tb dt : DT} {tl tr : DA} {pos p p2 apos : Pos} {x m : Str} {vs : List Nat} {gs : List Str} {id T : String}

/-! ### a built-in function by data -/
abbrev OpB := List D → MH → DQ → Prop
def wC (X : Cx) (f : Value) : List V → Hp → VK → Prop := fun xs H Q => ∀ pins s σ us, Inv X pins σ H s → Vals xs us → wpAny (model X.prog X.w) X.A (call f us) (EP X pins σ Q) X.xe s
theorem callR_w {f : Value} : CallR X f (wC X f) := fun pins s σ H xs us Q I r h => h pins s σ us I r
theorem wC_of {f : Value} {r : List V → Hp → VK → Prop} (o : CallR X f r) {xs : List V} {H : Hp} {Q : VK} (h : r xs H Q) : wC X f xs H Q := fun pins s σ us I r => o pins s σ H xs us Q I r h
theorem wC_mono {f : Value} {xs : List V} {H : Hp} {Q Q' : VK} (h : wC X f xs H Q) (k : ∀ v H', Q v H' → Q' v H') : wC X f xs H Q' := fun pins s σ us I r =>
  thn (h pins s σ us I r) fun _ _ ⟨v', H', I', r, q⟩ => ⟨v', H', I', r, k v' H' q⟩
def CallB (X : Cx) (f : Value) (o : OpB) : Prop := ∀ F M H xs ys Q, G X.K F M H → RpL X.K F xs ys → o ys M Q → wC X f xs H (LQ X.K F Q)
def dCB (o : OpB) (t : DA) : DE := fun σ M Q E => t σ M (fun ys M1 => o ys M1 Q) E
theorem dp_callB {ob : OpB} (S : ScOk τ.N vs gs τ.sc) (hm : Ω.mg x = none) (hc : ∀ X, Fit Ω τ X → CallB X (.builtin id) ob) (hv : bootBuiltins x = some (.builtin id)) (ha : DPA Ω τ (e :: es) tl) (hg : x ∈ gs := by decide) (hn : x ≠ "__name__" := by decide) (hdb : (x == ("__debug__" : Str)) = false := by decide)
    (he : ∀ env, starEach (e :: es) env = (false, eval e env) :: starEach es env := by intro _; rfl) (hpl : ∀ env, (backTo pos (starEach es env)).any (·.1) = false := by intro _; rfl) : DP Ω τ (.Call (.Name x p) (e :: es) [] pos) (dCB ob tl) := Hd.mk fun X ft F0 E tk F M H σ σ' Q e0 g r h => by
  refine wE_of (pe_callB callR_w (fit_gl ft S hg) (by rw [ft.mg]; exact hm) hv pa_wA hn hdb (he _) (hpl _)) (wA_mono (ha.run X ft F0 E tk F M H σ σ' _ e0 g r h) ?_)
  rintro ws H1 ⟨F1, M1, ys, e1, g1, r1, q⟩
  exact wC_mono (hc X ft F1 M1 H1 ws ys Q g1 r1 q) fun _ _ => LQ.back e1
theorem dp_callT {ob : OpB} (S : ScOk τ.N vs gs τ.sc) (hm : Ω.mg x = none) (hc : ∀ X, Fit Ω τ X → CallB X (.type T) ob) (hv : bootBuiltins x = some (.type T)) (ha : DPA Ω τ (e :: es) tl) (hg : x ∈ gs := by decide) (hn : x ≠ "__name__" := by decide) (hdb : (x == ("__debug__" : Str)) = false := by decide)
    (he : ∀ env, starEach (e :: es) env = (false, eval e env) :: starEach es env := by intro _; rfl) (hpl : ∀ env, (backTo pos (starEach es env)).any (·.1) = false := by intro _; rfl) : DP Ω τ (.Call (.Name x p) (e :: es) [] pos) (dCB ob tl) := Hd.mk fun X ft F0 E tk F M H σ σ' Q e0 g r h => by
  refine wE_of (pe_callTy callR_w (fit_gl ft S hg) (by rw [ft.mg]; exact hm) hv pa_wA hn hdb (he _) (hpl _)) (wA_mono (ha.run X ft F0 E tk F M H σ σ' _ e0 g r h) ?_)
  rintro ws H1 ⟨F1, M1, ys, e1, g1, r1, q⟩
  exact wC_mono (hc X ft F1 M1 H1 ws ys Q g1 r1 q) fun _ _ => LQ.back e1

theorem rpl1 {K : PySem.W.Frag} {F : Hp} {ws : List V} {d : D} (r : RpL K F ws [d]) : ∃ v, ws = [v] ∧ Rp K F v d := by
  cases r with | cons h t => cases t; exact ⟨_, rfl, h⟩
/-- one argument -/
def ob1 (f : D → MH → DQ → Prop) : OpB := fun ys M Q => match ys with
  | [d] => f d M Q
  | _ => False
theorem callB1 {f : Value} {o : D → MH → DQ → Prop} (h : ∀ F M H v d Q, G X.K F M H → Rp X.K F v d → o d M Q → wC X f [v] H (LQ X.K F Q)) : CallB X f (ob1 o) := by
  intro F M H ws ys Q g r q
  match ys, r, q with
  | [d], r, q =>
    obtain ⟨v, rfl, h1⟩ := rpl1 r
    exact h F M H v d Q g h1 q
def ob2 (f : D → D → MH → DQ → Prop) : OpB := fun ys M Q => match ys with
  | [d, d'] => f d d' M Q
  | _ => False
/-- an int argument -/
def oI (f : Int → MH → DQ → Prop) : D → MH → DQ → Prop := fun d M Q => match d with
  | .int i => f i M Q
  | _ => False
def lenM : Option MO → Option Nat
  | some (.lst xs) => some xs.length
  | some (.dk ks _) => some ks.length
  | _ => none
def lenO : D → MH → DQ → Prop := fun d M Q => match d with
  | .str z => lenOk z.length ∧ Q (.int z.length) M
  | .ref a => ∃ n : Nat, lenM (M a) = some n ∧ Q (.int n) M
  | d => seqD d M fun xs => Q (.int xs.length) M
theorem cb_len : CallB X (.builtin "len") (ob1 lenO) := callB1 fun F M H v d Q g r q => by
  have key : seqD d M (fun xs => Q (.int xs.length) M) → wC X (.builtin "len") [v] H (LQ X.K F Q) := fun q => by
    obtain ⟨p, ws, xs, rfl, h1, h2, h3⟩ := seqD_ok g r q
    refine wC_of call_len_seq ⟨p, ws, rfl, h1.symm, ?_⟩
    rw [h2.length]
    exact .here g (.int _) h3
  cases d
  case str z => cases r; exact wC_of call_len_str ⟨z, rfl, q.1.sz, .here g (.int _) q.2⟩
  case ref a =>
    obtain ⟨n, h1, q⟩ := q
    cases hM : M a with
    | none => rw [hM] at h1; cases h1
    | some o =>
      rw [hM] at h1
      cases o with
      | lst xs =>
        cases h1
        exact key ⟨xs, hM, q⟩
      | dk ks xs =>
        cases h1
        cases r
        obtain ⟨h2, kvs, h3, rfl, h4⟩ := g.mo _ _ hM
        refine wC_of call_lenD ⟨a, kvs, rfl, h3, ?_⟩
        rw [List.length_map] at q
        exact .here g (.int _) q
      | _ => cases h1
  all_goals exact key q
def intO : D → MH → DQ → Prop := fun d M Q => match d with
  | .int i => Q (.int i) M
  | .bl b => Q (.int (if b then 1 else 0)) M
  | _ => False
theorem cb_int : CallB X (.type "int") (ob1 intO) := callB1 fun F M H v d Q g r q => by
  cases d <;> first | exact q.elim | skip
  · cases r; exact wC_of call_int1 (.inr ⟨_, rfl, .here g (.int _) q⟩)
  · cases r; exact wC_of call_int1 (.inl ⟨_, rfl, .here g (.int _) q⟩)
def ii2 (f : Int → Int → MH → DQ → Prop) : D → D → MH → DQ → Prop := fun d d' M Q => match d, d' with
  | .int i, .int j => f i j M Q
  | _, _ => False
def intsO (f : List Int → MH → DQ → Prop) : D → MH → DQ → Prop := fun d M Q => lstD d M fun xs => ∃ ns : List Int, xs = ns.map D.int ∧ f ns M Q
def blsO (f : List Bool → MH → DQ → Prop) : D → MH → DQ → Prop := fun d M Q => lstD d M fun xs => ∃ ns : List Bool, xs = ns.map D.bl ∧ f ns M Q
def strsO (f : List Str → MH → DQ → Prop) : D → MH → DQ → Prop := fun d M Q => lstD d M fun xs => ∃ ns : List Str, xs = ns.map D.str ∧ f ns M Q
/-- sum, of a list or a tuple of ints -/
def sumO : D → MH → DQ → Prop := fun d M Q => match d with
  | .tup xs => ∃ ns : List Int, xs = ns.map D.int ∧ Q (.int ns.sum) M
  | d => intsO (fun ns M Q => Q (.int ns.sum) M) d M Q
/-- repr of data -/
def showB : D → Bool := fun d => d.py.showable && !d.py.hasDict && decide (d.py.shown.length ≤ 16000000)
def reprO : D → MH → DQ → Prop := fun d M Q => datD d M fun d => okN 50 d ∧ showB d = true ∧ Q (.str d.py.shown) M
theorem cb_repr (ft : Fit Ω τ X) : CallB X (.builtin "repr") (ob1 reprO) := callB1 fun F M H v d Q g r q => by
  obtain ⟨_, F1, _, e1, d1, r1, ok, hb, q⟩ := datD_ok g r q
  have dp := rp_dp e1 50 _ _ ok r1
  unfold showB at hb
  rw [Bool.and_eq_true, Bool.and_eq_true, decide_eq_true_eq] at hb
  obtain ⟨⟨b1, b2⟩, b3⟩ := hb
  have b2' : d1.py.hasDict = false := by simpa using b2
  have hz : d1.py.shown.length ≤ sizeLine := Nat.le_trans b3 (by decide)
  intro pins s σ us I rv
  obtain ⟨u, rfl, ru⟩ := rv.one
  have dep : d1.py.depth ≤ 50 := (okN_lay 50 d1 ok).2
  have fin : ∀ h' t tk, (∀ b o, s.heap.get? b = some o → h'.get? b = some o) → EP X pins σ (LQ X.K F Q) (.str d1.py.shown t) { s with heap := h', toks := tk } := fun h' t tk hk =>
    ⟨.str _, H, I.kept hk, ⟨t, rfl⟩, .here g (.str _) q⟩
  have refs : ∀ a0, u = Value.ref a0 → wpAny (model X.prog X.w) X.A (call (.builtin "repr") [u]) (EP X pins σ (LQ X.K F Q)) X.xe s := fun a0 hu => by
    subst hu
    obtain ⟨as, rd⟩ := Dp.reads I d1.py v _ dp ru
    exact repr_of_reads' rd b1 (PyData.noDict_hsm b2') ft.gd (by have := ft.room.units; omega) (fun _ _ z => z) fin hz
  have keep : ∀ b o, s.heap.get? b = some o → s.heap.get? b = some o := fun _ _ z => z
  cases d1
  case non => cases r1; cases (show u = Value.none from ru); exact PySem.P.repr_of_none (fin s.heap _ _ keep)
  case bl bb =>
    cases r1
    cases (show u = Value.bool bb from ru)
    exact PySem.P.repr_of_bool (by cases bb <;> exact fin s.heap _ _ keep)
  case int i =>
    cases r1
    obtain ⟨t, rfl⟩ := (show ∃ t, u = Value.int i t from ru)
    refine PySem.P.repr_of_int (of_decide_eq_true (by simpa [D.py, PyData.showable] using b1)) ?_
    have z := fin s.heap s.toks (s.toks + 1) keep
    simpa [D.py, PyData.shown] using z
  case str y =>
    cases r1
    obtain ⟨t, rfl⟩ := (show ∃ t, u = Value.str y t from ru)
    refine PySem.P.repr_of_str ?_ (by simpa [D.py, PyData.shown] using hz)
    have z := fin s.heap s.toks (s.toks + 1) keep
    simpa [D.py, PyData.shown] using z
  case tup xs => cases r1 with | tup hs hr => exact refs _ ru
  case lst xs => cases r1 with | lst hs hr => exact refs _ ru
  all_goals exact absurd ok (by simp [okN])
end
end DL

/-! The deep layer, part i: isinstance, in, subscripts, slices, methods of lists, keywords. -/
namespace DL
variable [DL.Wd] [DL.Fb]
open PySem PySem.Spec PyProof.Rows L2
section
variable {Ω : Wl} {τ : Sx} {X : Cx} {a b c e o tg iter elt : Expr} {es rest ifs : List Expr} {da db dc de : DE} {ta tb dt : DT} {tl tr : DA} {pos p p2 apos : Pos} {x m : Str} {vs : List Nat} {gs : List Str} {id T : String}

/-! ### isinstance(e, T), T a built-in type -/
def tyNm : D → Option String
  | .non => some "NoneType"
  | .bl _ => some "bool"
  | .int _ => some "int"
  | .str _ => some "str"
  | .tup _ => some "tuple"
  | .lst _ => some "list"
  | .dk _ _ => some "dict"
  | _ => none
def tyNms : List String := ["NoneType", "bool", "int", "str", "tuple", "list", "dict"]
def tySub (a b : String) : Bool := a == b || (a == "bool" && b == "int")
def dIsi (T : String) (de : DE) : DE := fun σ M Q E => de σ M (fun d M1 => ∃ t, tyNm d = some t ∧ Q (.bl (tySub t T)) M1) E
/-! ### in, not in -/
def inVal : D → D → D
  | .lst xs, x => .bl (xs.any fun z => eqD z x)
  | .tup xs, x => .bl (xs.any fun z => eqD z x)
  | _, _ => .non
def inOk (x y : D) : Prop := match y with
  | .lst xs => okN 50 x ∧ okN 50 (.lst xs)
  | .tup xs => okN 50 x ∧ okN 50 (.tup xs)
  | _ => False
def inAny (neg : Bool) (xs : List D) (x : D) : D := .bl (if neg then !xs.any fun z => eqD z x else xs.any fun z => eqD z x)
def inOp (neg : Bool) : Op2 := fun x y M Q => match y with
  | .str z => match x with
    | .str u => ∃ c, u = ⟨#[c]⟩ ∧ Q (.bl (if neg then !decide (c ∈ z.cps.toList) else decide (c ∈ z.cps.toList))) M
    | _ => False
  | .scr _ => False
  | y => seqD y M fun xs => okN 50 x ∧ okN 50 (.lst xs) ∧ Q (inAny neg xs x) M
/-! ### subscripts -/
theorem rpl_atI {K : PySem.W.Frag} {F : Hp} {ws : List V} {ds : List D} {i : Int} {d : D} (r : RpL K F ws ds) (h : atI ds i = some d) : ∃ v, atI ws i = some v ∧ Rp K F v d := by
  unfold atI at h ⊢
  rw [r.length]
  cases hj : ixN ds.length i with
  | none => rw [hj] at h; cases h
  | some j =>
    rw [hj] at h
    exact r.get h
def ixOp : Op2 := fun x y M Q => match y with
  | .int i => match x with
    | .str z => lenOk z.length ∧ ∃ c, atI z.cps.toList i = some c ∧ Q (.str ⟨#[c]⟩) M
    | x => seqD x M fun xs => ∃ d, atI xs i = some d ∧ Q d M
  | _ => False
theorem dp_ix (ha : DP Ω τ a da) (hb : DP Ω τ b db) (hs : PlainIx b := by intro _ _; rfl) : DP Ω τ (.Subscript a b pos) (dOp ixOp da db) := Hd.mk fun X ft F0 E tk F M H σ σ' Q e0 g r h => by
  refine wE_of (pe_ix ix_seq pe_wE pe_wE hs) (go2 ha hb ft tk e0 g r h ?_)
  intro F' M' H' x y x' y' e' g' rx ry q
  cases y' <;> first | exact q.elim | skip
  cases ry
  rename_i i
  have seq : seqD x' M' (fun xs => ∃ d, atI xs i = some d ∧ Q d M') → rIx X.K x (.int i) H' (LQ X.K F Q) := fun q => by
    obtain ⟨p, ws, xs, rfl, h1, h2, d, h3, h4⟩ := seqD_ok g' rx q
    obtain ⟨v, h5, h6⟩ := rpl_atI h2 h3
    rcases h1 with h1 | h1
    · exact .inr (.inl ⟨p, ws, i, v, rfl, rfl, h1, h5, F', M', d, e', g', h6, h4⟩)
    · exact .inl ⟨p, ws, i, v, rfl, rfl, h1, h5, F', M', d, e', g', h6, h4⟩
  cases x'
  case str z =>
    cases rx
    obtain ⟨hl, c, h1, h2⟩ := q
    exact .inr (.inr ⟨z, i, c, rfl, rfl, hl.sz, h1, F', M', _, e', g', .str _, h2⟩)
  all_goals exact seq q

/-! ### slices -/
def DPO (Ω : Wl) (τ : Sx) (oe : Option Expr) (d : DSt → MH → (Option Int → MH → Prop) → EK → Prop) : Prop := Hd (∀ X, Fit Ω τ X → ∀ F0 E, TkD X F0 E → ∀ F M H σ σ' Q, Ex F0 F → G X.K F M H → RpS X.K F σ σ' → d σ' M Q E →
  ∃ t, PO X oe t ∧ t σ H (fun i H1 => ∃ F1 M1, Ex F F1 ∧ G X.K F1 M1 H1 ∧ Q i M1))
def dNoP : DSt → MH → (Option Int → MH → Prop) → EK → Prop := fun _ M Q _ => Q none M
def dPart (d : DE) : DSt → MH → (Option Int → MH → Prop) → EK → Prop := fun σ M Q E => d σ M (fun x M1 => match x with
  | .int i => Q (some i) M1
  | _ => False) E
theorem dpo_none : DPO Ω τ none dNoP := Hd.mk fun X ft F0 E tk F M H σ σ' Q e0 g r h => ⟨_, po_none, F, M, Ex.refl F, g, h⟩
theorem dpo_some (he : DP Ω τ e de) : DPO Ω τ (some e) (dPart de) := Hd.mk fun X ft F0 E tk F M H σ σ' Q e0 g r h => by
  refine ⟨_, po_some pe_wE, wE_mono (he.run X ft F0 E tk F M H σ σ' _ e0 g r h) ?_⟩
  rintro v H1 ⟨F1, M1, y, e1, g1, r1, q⟩
  cases y <;> first | exact q.elim | skip
  cases r1
  exact ⟨_, rfl, F1, M1, e1, g1, q⟩
/-- the items between lo and hi -/
def cutD {α : Type} (xs : List α) (lo hi : Option Int) : List α := (xs.drop (HT.sIx xs.length 0 lo)).take (HT.sIx xs.length xs.length hi - HT.sIx xs.length 0 lo)
theorem RpL.cut {K : PySem.W.Frag} {F : Hp} {ws : List V} {ds : List D} (r : RpL K F ws ds) (lo hi : Option Int) : RpL K F (cutV ws lo hi) (cutD ds lo hi) := by
  unfold cutV cutD
  rw [r.length]
  exact (r.drop _).take _
def slOp (x : D) (lo hi : Option Int) (M : MH) (Q : DQ) : Prop := match x with
  | .str z => lenOk z.length ∧ Q (.str (Txt.slice z lo hi)) M
  | .tup xs => Q (.tup (cutD xs lo hi)) M
  | .scr ns => Q (.lst ((cutD ns lo hi).map D.int)) M
  | x => lstD x M fun xs => Q (.lst (cutD xs lo hi)) M
end
end DL

/-! The deep layer, part j: slices, methods of lists, keywords. -/
namespace DL
variable [DL.Wd] [DL.Fb]
open PySem PySem.Spec PyProof.Rows L2
section
variable {Ω : Wl} {τ : Sx} {X : Cx} {a b c e o tg iter elt : Expr} {es rest ifs : List Expr} {da db dc de : DE} {ta tb dt : DT} {tl tr tk : DA} {pos p p2 apos : Pos} {x m : Str} {vs : List Nat} {gs : List Str} {id T : String}

def wO (X : Cx) (oe : Option Expr) : TO := fun σ H Q => ∀ pins s, Inv X pins σ H s → wpAny (model X.prog X.w) X.A (evalPart oe X.env) (fun u s' => ∃ i H', Inv X pins σ H' s' ∧ IsPart u i ∧ Q i H') X.xe s
theorem po_wO {oe : Option Expr} : PO X oe (wO X oe) := ⟨fun pins s _ _ _ I h => h pins s I⟩
abbrev DO := DSt → MH → (Option Int → MH → Prop) → EK → Prop
theorem dpo_w {oe : Option Expr} {d : DO} (h : DPO Ω τ oe d) (ft : Fit Ω τ X) {F0 : Hp} {E : EK} (tk : TkD X F0 E) {F : Hp} {M : MH} {H : Hp} {σ : L2.St} {σ' : DSt} {Q : Option Int → MH → Prop} (e0 : Ex F0 F) (g : G X.K F M H) (r : RpS X.K F σ σ') (q : d σ' M Q E) :
    wO X oe σ H fun i H1 => ∃ F1 M1, Ex F F1 ∧ G X.K F1 M1 H1 ∧ Q i M1 := fun pins s I => by
  obtain ⟨t, h1, h2⟩ := h.run X ft F0 E tk F M H σ σ' Q e0 g r q
  exact h1.run pins s σ H _ I h2
theorem wO_mono {oe : Option Expr} {σ : L2.St} {H : Hp} {Q Q' : Option Int → Hp → Prop} (h : wO X oe σ H Q) (k : ∀ i H, Q i H → Q' i H) : wO X oe σ H Q' := fun pins s I =>
  thn (h pins s I) fun _ _ ⟨i, H', I', r, q⟩ => ⟨i, H', I', r, k i H' q⟩
def dSl (de : DE) (dl dh : DO) : DE := fun σ M Q E => de σ M (fun x M1 => dl σ M1 (fun l M2 => dh σ M2 (fun u M3 => slOp x l u M3 Q) E) E) E
theorem cutV_ints (ns : List Int) (lo hi : Option Int) : cutV (ns.map V.int) lo hi = (cutD ns lo hi).map V.int := by
  unfold cutV cutD
  rw [List.length_map, List.map_take, List.map_drop]
theorem dp_slice {lo hi : Option Expr} {dl dh : DO} (he : DP Ω τ e de) (hl : DPO Ω τ lo dl) (hh : DPO Ω τ hi dh) : DP Ω τ (.Subscript e (.Slice lo hi none p2) pos) (dSl de dl dh) := Hd.mk fun X ft F0 E tk F M H σ σ' Q e0 g r h => by
  refine wE_of (pe_slice (sl_list.or (sl_tupF.or C8.sl_txt)) pe_wE po_wO po_wO) (wE_mono (he.run X ft F0 E tk F M H σ σ' _ e0 g r h) ?_)
  rintro v H1 ⟨F1, M1, y, e1, g1, r1, q⟩
  refine wO_mono (dpo_w hl ft tk (e0.trans e1) g1 (r.mono e1) q) ?_
  rintro l H2 ⟨F2, M2, e2, g2, q2⟩
  clear q
  refine wO_mono (dpo_w hh ft tk ((e0.trans e1).trans e2) g2 (r.mono (e1.trans e2)) q2) ?_
  rintro u H3 ⟨F3, M3, e3, g3, q⟩
  clear q2
  have r3 := r1.mono (e2.trans e3)
  have e13 := (e1.trans e2).trans e3
  have lists : lstD y M3 (fun xs => Q (.lst (cutD xs l u)) M3) → rSlL X.K v l u H3 (LQ X.K F Q) := fun q => by
    obtain ⟨p, ws, xs, rfl, h1, h2, h3⟩ := lstD_ok g3 r3 q
    exact ⟨p, ws, rfl, SqL.of h1, fun p hp => (rp_lstN g3 hp (h2.cut l u) h3).back e13⟩
  cases y
  case str z =>
    cases r3
    exact .inr (.inr ⟨z, rfl, q.1.sz, F3, M3, _, e13, g3, .str _, q.2⟩)
  case tup xs =>
    cases r3 with | tup hs hr =>
    refine .inr (.inl ⟨_, _, rfl, SqT.fz (hs.mono g3.ex), fun hw => ?_, fun p _ hp => (rp_tupN g3 hp (hr.cut l u) q).back e13⟩)
    refine ⟨F3, M3, .tup xs, e13, g3, .tup hs hr, ?_⟩
    have q' : Q (.tup (cutD xs l u)) M3 := q
    unfold cutD at q'
    rw [← hr.length, hw.1, hw.2, List.drop_zero, hr.length, Nat.sub_zero, List.take_length] at q'
    exact q'
  case scr ns =>
    cases r3 with | scr hs =>
    refine .inl ⟨_, _, rfl, g3.ex.sl hs, fun p hp => ?_⟩
    rw [cutV_ints]
    exact (rp_lstN g3 hp (rpl_ints _) q).back e13
  all_goals exact .inl (lists q)
/-- xs[::-1] of a list -/
def dRev (de : DE) : DE := fun σ M Q E => de σ M (fun x M1 => match x with
  | .str _ => False
  | x => lstD x M1 fun xs => Q (.lst xs.reverse) M1) E
/-! ### methods of the built-in types by data -/
abbrev OpM := D → List D → MH → DQ → Prop
def wM (X : Cx) (id : String) : V → List V → Hp → VK → Prop := fun x xs H Q => ∀ pins s σ v us, Inv X pins σ H s → RelV x v → Vals xs us → wpAny (model X.prog X.w) X.A (call (.builtin id) (v :: us)) (EP X pins σ Q) X.xe s
theorem mtR_w : MtR X id (wM X id) := fun pins s σ H x xs v us Q I rx r h => h pins s σ v us I rx r
theorem wM_of {r : V → List V → Hp → VK → Prop} (o : MtR X id r) {x : V} {xs : List V} {H : Hp} {Q : VK} (h : r x xs H Q) : wM X id x xs H Q := fun pins s σ v us I rx rv => o pins s σ H x xs v us Q I rx rv h
theorem wM_mono {x : V} {xs : List V} {H : Hp} {Q Q' : VK} (h : wM X id x xs H Q) (k : ∀ v H', Q v H' → Q' v H') : wM X id x xs H Q' := fun pins s σ v us I rx rv =>
  thn (h pins s σ v us I rx rv) fun _ _ ⟨v', H', I', r, q⟩ => ⟨v', H', I', r, k v' H' q⟩
def MethB (X : Cx) (id : String) (ob : OpM) : Prop := ∀ F M H x x' xs ys Q, G X.K F M H → Rp X.K F x x' → RpL X.K F xs ys → ob x' ys M Q → wM X id x xs H (LQ X.K F Q)
/-- of that type now: a text, a list, a tuple, a dict -/
def moTy : Option MO → Option String
  | some (.lst _) => some "list"
  | some (.dk _ _) => some "dict"
  | some (.dt _ _) => none
  | _ => none
def tyD (T : String) (x : D) (M : MH) : Prop := match x with
  | .str _ => T = "str"
  | .lst _ => T = "list"
  | .tup _ => False
  | .ref a => moTy (M a) = some T
  | _ => False
theorem tyD_V {K : PySem.W.Frag} {F : Hp} {M : MH} {H : Hp} {v : V} {d : D} (g : G K F M H) (r : Rp K F v d) (h : tyD T d M) : tyV K T v H := by
  cases d <;> first | exact h.elim | skip
  case str z => cases r; exact h
  case lst xs => cases r with | lst hs hr => exact .inl ⟨h, _, SqL.of (g.ex _ _ hs)⟩
  case ref a =>
    cases r
    have h : moTy (M a) = some T := h
    cases hM : M a with
    | none => rw [hM] at h; cases h
    | some o =>
      rw [hM] at h
      cases o with
      | lst xs =>
        cases h
        obtain ⟨_, ws, h1, _⟩ := g.mo _ _ hM
        exact .inl ⟨rfl, ws, SqL.of h1⟩
      | dk ks xs =>
        cases h
        obtain ⟨_, kvs, h1, _⟩ := g.mo _ _ hM
        exact .inr (.inr (.inl ⟨rfl, .inl ⟨kvs, h1⟩⟩))
      | dt _ _ => cases h
      | ins _ _ _ => cases h
def dBM (T : String) (ob : OpM) (de : DE) (t : DA) : DE := fun σ M Q E => de σ M (fun x M1 => tyD T x M1 ∧ t σ M1 (fun ys M2 => ob x ys M2 Q) E) E
theorem dp_bm {ob : OpM} {cpos : Pos} (pa : PlainAttrs T) (slot : Slot T m id) (hty : typeOf (.builtin id) = pure (.type "method_descriptor")) (hm : ∀ X, Fit Ω τ X → MethB X id ob) (ho : DP Ω τ o de) (ha : DPA Ω τ (e :: es) tl)
    (hbase : ∀ env, attributeBase o m env (eval o env) = eval o env := by intro _; rfl)
    (hfew : ∀ env, ((backTo cpos (starEach (e :: es) env)).all (fun x => !x.1) && (backToKw cpos (keywordEach [] env)).all (fun x => x.1.isSome) && decide ((e :: es).length + ([] : List Keyword).length + (if ([] : List Keyword).isEmpty then 0 else 1) < 30)) = true := by intro _; rfl)
    (hline : (apos.endLine == cpos.line) = true := by rfl) (hs : ∀ env, starEach (e :: es) env = (false, eval e env) :: starEach es env := by intro _; rfl) (hplain : ∀ env, (backTo cpos (starEach es env)).any (·.1) = false := by intro _; rfl) :
    DP Ω τ (.Call (.Attribute o m apos) (e :: es) [] cpos) (dBM T ob de tl) := Hd.mk fun X ft F0 E tk F M H σ σ' Q e0 g r h => by
  refine wE_of (pe_bm pa slot hty mtR_w pe_wE pa_wA (hbase _) (hfew _) hline (hs _) (hplain _)) (wE_mono (ho.run X ft F0 E tk F M H σ σ' _ e0 g r h) ?_)
  rintro v H1 ⟨F1, M1, y, e1, g1, r1, ty, q⟩
  refine ⟨tyD_V g1 r1 ty, wA_mono (ha.run X ft F0 E tk F1 M1 H1 σ σ' _ (e0.trans e1) g1 (r.mono e1) q) ?_⟩
  rintro ws H2 ⟨F2, M2, ys, e2, g2, r2, q2⟩
  exact wM_mono (hm X ft F2 M2 H2 v y ws ys Q g2 (r1.mono e2) r2 q2) fun _ _ => LQ.back (e1.trans e2)
def dBM0 (T : String) (ob : OpM) (de : DE) : DE := fun σ M Q E => de σ M (fun x M1 => tyD T x M1 ∧ ob x [] M1 Q) E
/-- a changing list -/
def refL (f : Addr → List D → List D → MH → DQ → Prop) : OpM := fun x ys M Q => match x with
  | .ref a => ∃ xs, M a = some (.lst xs) ∧ f a xs ys M Q
  | _ => False
theorem mb_refL {f : Addr → List D → List D → MH → DQ → Prop} (h : ∀ F M H a xs ws zs ys Q, G X.K F M H → M a = some (.lst xs) → H a = some (.lst ws) → RpL X.K F ws xs → RpL X.K F zs ys → f a xs ys M Q → wM X id (.ref a) zs H (LQ X.K F Q)) : MethB X id (refL f) := by
  intro F M H x x' zs ys Q g rx rz q
  cases x' <;> first | exact q.elim | skip
  cases rx
  obtain ⟨xs, h1, q⟩ := q
  obtain ⟨h2, ws, h3, h4⟩ := g.mo _ _ h1
  exact h F M H _ xs ws zs ys Q g h1 h3 h4 rz q
theorem g_setL {K : PySem.W.Frag} {F : Hp} {M : MH} {H : Hp} {a : Addr} {xs xs' : List D} {ws' : List V} (g : G K F M H) (h : M a = some (.lst xs)) (r : RpL K F ws' xs') : G K F (M.put a (.lst xs')) (upd H a (.lst ws')) := g.set h ⟨_, upd_same, r⟩
theorem mb_append : MethB X "list.append" (refL fun a xs ys M Q => match ys with
    | [y] => lenOk xs.length ∧ Q .non (M.put a (.lst (xs ++ [y])))
    | _ => False) := mb_refL fun F M H a xs ws zs ys Q g h1 h2 h3 r q => by
  match ys, r, q with
  | [y], r, ⟨hl, q⟩ =>
    obtain ⟨z, rfl, rz⟩ := rpl1 r
    exact wM_of (show MtR X "list.append" rAppend from mt_append) ⟨a, ws, z, rfl, rfl, h2, by rw [h3.length]; exact hl.lt, F, _, _, Ex.refl F, g_setL g h1 (h3.snoc rz), .non, q⟩
/-! ### calls with keywords -/
def wK (X : Cx) (kws : List Keyword) : TA := fun σ H Q => ∀ pos pins s, Inv X pins σ H s → wpAny (model X.prog X.w) X.A (evalAll ((backToKw pos (keywordEach kws X.env)).map (·.2))) (AP X pins σ Q) X.xe s
theorem pk_wK {kws : List Keyword} : PK X kws (wK X kws) := ⟨fun pos pins s _ _ _ I h => h pos pins s I⟩
def DPK (Ω : Wl) (τ : Sx) (kws : List Keyword) (d : DA) : Prop := Hd (∀ X, Fit Ω τ X → ∀ F0 E, TkD X F0 E → ∀ F M H σ σ' Q, Ex F0 F → G X.K F M H → RpS X.K F σ σ' → d σ' M Q E → wK X kws σ H (LA X.K F Q))
theorem wK_mono {kws : List Keyword} {σ : L2.St} {H : Hp} {Q Q' : List V → Hp → Prop} (h : wK X kws σ H Q) (k : ∀ v H', Q v H' → Q' v H') : wK X kws σ H Q' := fun pos pins s I =>
  thn (h pos pins s I) fun _ _ ⟨v, H', I', r, q⟩ => ⟨v, H', I', r, k v H' q⟩
theorem dpk_nil : DPK Ω τ [] dNil := Hd.mk fun X ft F0 E tk F M H σ σ' Q e0 g r h => fun pos pins s I => pk_nil.run pos pins s σ H _ I ⟨F, M, [], Ex.refl F, g, .nil, h⟩
theorem dpk_cons {nm : Option Str} {kpos : Pos} {kws : List Keyword} (ha : DP Ω τ e de) (hr : DPK Ω τ kws tr) : DPK Ω τ (⟨nm, e, kpos⟩ :: kws) (dCons de tr) := Hd.mk fun X ft F0 E tk F M H σ σ' Q e0 g r h => by
  intro pos pins s I
  refine (pk_cons (pe_wE (e := e)) (pk_wK (kws := kws))).run pos pins s σ H _ I (wE_mono (ha.run X ft F0 E tk F M H σ σ' _ e0 g r h) ?_)
  rintro v H1 ⟨F1, M1, y, e1, g1, r1, q1⟩
  refine wK_mono (hr.run X ft F0 E tk F1 M1 H1 σ σ' _ (e0.trans e1) g1 (r.mono e1) q1) ?_
  rintro ws H2 ⟨F2, M2, ys, e2, g2, r2, q2⟩
  exact ⟨F2, M2, y :: ys, e1.trans e2, g2, .cons (r1.mono e2) r2, q2⟩
/-- f by name, for keywords: the def's object also tells how keywords bind -/
def CalK (Ω : Wl) (x : Str) (k : Nat) (ps ks : List Str) (g : List Value → List Value → List Value) (gV : List V → List V → List V) (sp : DSp) : Prop := ∃ f fd, Okd Ω f fd k ps sp ∧ Ω.mg x = some (.ref f) ∧ PySem.W.keepIn Ω.K (.ref f) = true ∧ KBinds Ω.K fd ps ks g gV
end
end DL

/-! The deep layer, part k: keywords, constants of the module, the law's call. -/
namespace DL
variable [DL.Wd] [DL.Fb]
open PySem PySem.Spec PyProof.Rows L2
section
variable {Ω : Wl} {τ : Sx} {X : Cx} {a b c e o tg iter elt : Expr} {es rest ifs : List Expr} {da db dc de : DE} {ta tb dt : DT} {tl tr tk : DA} {pos p p2 apos : Pos} {x m : Str} {vs : List Nat} {gs : List Str} {id T : String} {f C : Addr} {fd : FuncData} {k : Nat} {ps ks : List Str} {sp : DSp} {st : Stmt} {N : List Str} {d : DS} {qual : Str}

/-! ### keywords -/
def pick {α : Type} (ix : List Nat) (l : List α) : List α := ix.filterMap fun i => l[i]?
/-- f by name, n arguments by place, ks by name -/
def CalN (Ω : Wl) (x : Str) (k : Nat) (ps : List Str) (n : Nat) (ks : List Str) (ix : List Nat) (sp : DSp) : Prop := ∃ f fd, Okd Ω f fd k ps sp ∧ Ω.mg x = some (.ref f) ∧ PySem.W.keepIn Ω.K (.ref f) = true ∧
  ∀ (s : Shared) (us ws : List Value), us.length = n → ws.length = ks.length → BindsTo s fd ⟨us, ks.zip ws⟩ (ps.zip (pick ix (us ++ ws)))
def dCallN (ix : List Nat) (n m np : Nat) (sp : DSp) (t u : DA) : DE := fun σ M Q E => t σ M (fun ds M1 => u σ M1 (fun es M2 => ds.length = n ∧ es.length = m ∧ (pick ix (ds ++ es)).length = np ∧ sp (pick ix (ds ++ es)) M2 Q fun er M3 => E er σ M3) E) E
/-! ### constants of the module -/
def Ini (Ω : Wl) (x : Str) (v : V) : Prop := ∃ u, Ω.mg x = some u ∧ RelV v u
theorem dp_gint {i : Int} (S : ScOk τ.N vs gs τ.sc) (h : Ini Ω x (.int i)) (hg : x ∈ gs := by decide) (hd : (x == ("__debug__" : Str)) = false := by decide) : DP Ω τ (.Name x pos) (dC (.int i)) :=
  let ⟨_, h1, h2⟩ := h
  dp_glob S h1 h2 (fun _ => .int i) hg hd
/-! ### comprehensions whose turns change nothing -/
end

/-! ### the law's call -/
omit [DL.Wd] [DL.Fb] in
theorem callG {P : Program} {w : World} {K : PySem.W.Frag} {mg mb : Str → Option Value} {CX : CXT} {k : Nat} {fa l : Addr} {fd : FuncData} {x : Str} {sp : Sp} {t : Shared} {us : List Value} {ns : List Int}
    (inK : K.In t.heap) (hm : t.heap.Ns mainGlobals mg) (hb : t.heap.Ns builtinsNs mb) (hbb : ∀ x : Str, x ≠ "__name__" → mb x = bootBuiltins x) (nl : t.heap.NoLimit) (gn : t.gens = #[])
    (hl : t.heap.get? l = some { cls := .type "list", data := .seq us.toArray }) (inx : IntsAre us ns) (few : ns.length ≤ sizeLine) (room : Room k callerA)
    (F : ∀ base : Heap, K.In base → base.Ns mainGlobals mg → FnG P w K mg base CX k fa fd [x] sp) (bnd : ∀ (s : Shared) (u : Value), BindsTo s fd ⟨[u], []⟩ [(x, u)])
    (want : ∀ H : Hp, Only H → SqL K H l (ns.map V.int) → sp [.ref l] H (fun v _ => v = .bl true) fun _ _ _ => False)
    (noX : ∀ H e s', CX [] H t (fun _ _ _ => False) e s' → False) :
    codeAny (model P w) callerA (.call (.ref fa) ⟨[.ref l], []⟩) (fun r s' => r = .ok (.ret (.bool true)) ∧ OldK t.heap s'.heap ∧ s'.os = t.os ∧ AllBare s'.gens) t := by
  have vv := vals_ints inx
  have ll := inx.length
  have main : ∀ H : Hp, Only H → SqL K H l (ns.map V.int) → HOk P w H t.heap → (∀ b, H b ≠ none → b = l) → (H l ≠ none → K.lookup l = none) →
      codeAny (model P w) callerA (.call (.ref fa) ⟨[.ref l], []⟩) (fun r s' => r = .ok (.ret (.bool true)) ∧ OldK t.heap s'.heap ∧ s'.os = t.os ∧ AllBare s'.gens) t := by
    intro H only sq ok one free
    have dicts : ∀ {b : Addr} {o : Obj} {es : Array DictEntry} {ep : Nat}, t.heap.get? b = some o → o.data = .dict es ep → H b = none := by
      intro b o es ep z zd
      by_cases q : H b = none
      · exact q
      · obtain rfl := one b q
        rw [hl] at z; cases z; cases zd
    have keepNs : ∀ {b : Addr} {m : Str → Option Value}, t.heap.Ns b m → (hidT t.heap H).Ns b m := by
      rintro b m ⟨o, es, ep, z, zd, r⟩
      exact ⟨o, es, ep, hidT_get z (dicts z zd), zd, r⟩
    have inK' : K.In (hidT t.heap H) := fun b o z => hidT_get (inK b o z) (by
      by_cases q : H b = none
      · exact q
      · obtain rfl := one b q
        rw [free q] at z; cases z)
    have md : Mod K mg (hidT t.heap H) := ⟨inK', keepNs hm, ⟨mb, keepNs hb, hbb⟩, nl.elim fun mc z => ⟨mc, keepNs z.1, z.2⟩⟩
    have env : Env0 P w K mg (hidT t.heap H) callerA [] t H := ⟨rfl, md, fun b o z => of_hidT z, Nat.le_of_eq (hidT_size _ _), trivial, fun b z => (List.not_mem_nil z).elim, ok, .of_eq gn⟩
    refine codeAny_mono ((F _ inK' (keepNs hm)).go callerA [] t H ⟨[.ref l], []⟩ [.ref l] [.ref l] _ _ room rfl env (bnd t (.ref l)) (.cons rfl .nil) (want H only sq)) ?_
    rintro (e | fl) s' z
    · exact (noX H e s' z).elim
    · cases fl <;> first | exact False.elim z | skip
      obtain ⟨v, H', os, bare, un, ok', rv, q⟩ := z
      have q' : v = .bl true := q
      subst q'
      obtain rfl : _ = Value.bool true := rv
      refine ⟨rfl, OldK.of_keep fun b o z => ?_, os, bare⟩
      rcases only b with nb | ⟨ob, xs, z2⟩
      · exact un.keep b o z nb (fun q => (List.not_mem_nil q).elim) (fun q => (List.not_mem_nil q).elim)
      · obtain ⟨z3, _⟩ := ok b _ z2
        obtain ⟨z4, _⟩ := ok' b _ (un.frzs b ob _ z2)
        rw [z] at z3; cases z3
        exact z4
  cases hk : K.lookup l with
  | some o =>
    have z := inK l o hk
    rw [hl] at z
    cases z
    exact main (fun _ => none) (fun _ => .inl rfl) (.inr ⟨_, us.toArray, _, hk, rfl, rfl, rfl, by rw [List.size_toArray, ll]; exact few, by simpa using vv⟩) (fun b u z => nomatch (z : (none : Option HO) = some u)) (fun b z => absurd rfl z) fun z => absurd rfl z
  | none =>
    have at_ : ∀ b, (if b = l then some (HO.frz { cls := .type "list", data := .seq us.toArray } (.lst (ns.map V.int))) else none) = none ∨ b = l := fun b => by
      by_cases q : b = l
      · exact .inr q
      · exact .inl (if_neg q)
    refine main (fun b => if b = l then some (.frz { cls := .type "list", data := .seq us.toArray } (.lst (ns.map V.int))) else none) (fun b => (at_ b).imp _root_.id fun q => ⟨_, _, if_pos q⟩) (.inl (.inr ⟨_, if_pos rfl⟩)) ?_ (fun b z => (at_ b).elim (fun q => absurd q z) _root_.id) fun _ => hk
    intro b u z
    rcases at_ b with q | q
    · exact nomatch q.symm.trans z
    · subst q
      cases (if_pos rfl).symm.trans z
      exact ⟨hl, by rw [List.length_map]; exact few, us, _, vv, hl⟩
omit [DL.Wd] [DL.Fb] in
theorem walkG {l : PySem.W.OpenLaw} {n k : Nat} {q : Program} {loose : List Str} {XP : (Str → Option Value) → Heap → Prop} {YP : World → Heap → Prop} {d : DefRec} {K : Params → PySem.W.Frag} {CX : World → CXT} {sp : World → Sp} {x : Str}
    (h1 : l.most = some n) (h2 : n ≤ sizeLine) (h3 : d.params.defaults = []) (room : Room k callerA) (inY : ∀ (w : World) (h : Heap), YP w h → (K w.params).In h)
    (F : ∀ (w : World) (mg : Str → Option Value) (fa : Addr) (h : Heap), (K w.params).In h → h.Ns mainGlobals mg → mg d.name = some (.ref fa) →
      ∃ fd : FuncData, (∀ (s : Shared) (u : Value), BindsTo s fd ⟨[u], []⟩ [(x, u)]) ∧ ∀ base : Heap, (K w.params).In base → base.Ns mainGlobals mg → FnG l.prog w (K w.params) mg base (CX w) k fa fd [x] (sp w))
    (want : ∀ (w : World) (H : Hp) (a : Addr) (ns : List Int), ns.length ≤ n → Only H → SqL (K w.params) H a (ns.map V.int) → sp w [.ref a] H (fun v _ => v = .bl true) fun _ _ _ => False)
    (noX : ∀ (w : World) (H : Hp) (s : Shared) (e : Value) (s' : Shared), CX w [] H s (fun _ _ _ => False) e s' → False) : PySem.W.WalkO q loose XP YP l.row.toRowW d [] (fun f vs => PySem.call f vs) := by
  refine Att.attach_call h1 h3 fun w s₀ t mg mb fa o pm cd doc a us ns G Y ho hd hcd hmg hobj inx few gn => ?_
  obtain ⟨fd, hb, hF⟩ := F w mg fa _ (inY w _ Y) G.T.g hmg
  exact callG (inY w _ Y) G.T.g G.T.b G.T.builtins G.T.nolimit gn hobj inx (Nat.le_trans few h2) room hF hb (fun H hO hS => want w H a ns few hO hS) fun H e s' => noX w H t e s'
/-- the law's promise by data: the script stands still, true is wanted, no exception -/
def spLawD (body : List Int → Prop) : DSp := fun ds _ Q _ => ∃ ns : List Int, ds = [.scr ns] ∧ body ns ∧ ∀ M, Q (.bl true) M
theorem want_lawT {K : PySem.W.Frag} {n : Nat} {sp : DSp} (hfb : ∀ b, Fb.fb b = none) (h : ∀ (ns : List Int) (Q : DQ) (E : Er → MH → Prop), ns.length ≤ n → (∀ M, Q (.bl true) M) → sp [.scr ns] (fun _ => none) Q E) :
    ∀ (H : Hp) (a : Addr) (ns : List Int), ns.length ≤ n → (∀ p ∈ Wd.ts, H p.1 = some (.tbl #[])) → SqL K H a (ns.map V.int) → lift K 1 sp [.ref a] H (fun v _ => v = .bl true) fun _ _ _ => False := by
  intro H a ns hl hO hS
  let F : Hp := fun b => if b ∈ Wd.ts.map (·.1) then none else H b
  have inT : ∀ p ∈ Wd.ts, p.1 ∈ Wd.ts.map (·.1) := fun p hp => List.mem_map.mpr ⟨p, hp, rfl⟩
  have eF : ∀ b u, H b = some u → (∀ ps, u ≠ .tbl ps) → F b = some u := fun b u z nt => by
    show (if b ∈ Wd.ts.map (·.1) then none else H b) = some u
    rw [if_neg, z]
    intro hb
    obtain ⟨p, hp, rfl⟩ := List.mem_map.mp hb
    rw [hO p hp] at z
    cases z
    exact nt _ rfl
  have ex : Ex F H := fun b u z => by
    have z' : (if b ∈ Wd.ts.map (·.1) then none else H b) = some u := z
    split at z'
    · cases z'
    · exact z'
  have sq : SqL K F a (ns.map V.int) := by
    rcases hS with (z | ⟨o, z⟩) | z
    · exact .inl (.inl (eF _ _ z fun ps q => by cases q))
    · exact .inl (.inr ⟨o, eF _ _ z fun ps q => by cases q⟩)
    · exact .inr z
  have kx : Kx F H := ⟨fun p hp => ⟨if_pos (inT p hp), #[], hO p hp, True.intro, fun pos cv z => by
    have z' : codeAmong pos [] = some cv := z
    simp [codeAmong] at z'⟩, fun b u z => by rw [hfb b] at z; cases z⟩
  refine ⟨F, fun _ => none, [.scr ns], fun v _ => v = .bl true, fun _ _ => False, ⟨ex, fun a o q => (nomatch q), kx⟩, .cons (.scr sq) .nil, rfl, h ns _ _ hl fun _ => rfl, ?_, fun _ _ _ _ _ _ _ _ _ q => q.elim⟩
  rintro y M' v H' F' e g rv rfl
  cases rv
  rfl
theorem want_law {K : PySem.W.Frag} {n : Nat} {sp : DSp} (hts : Wd.ts = []) (hfb : ∀ b, Fb.fb b = none) (h : ∀ (ns : List Int) (Q : DQ) (E : Er → MH → Prop), ns.length ≤ n → (∀ M, Q (.bl true) M) → sp [.scr ns] (fun _ => none) Q E) :
    ∀ (H : Hp) (a : Addr) (ns : List Int), ns.length ≤ n → Only H → SqL K H a (ns.map V.int) → lift K 1 sp [.ref a] H (fun v _ => v = .bl true) fun _ _ _ => False :=
  fun H a ns hl _ hS => want_lawT hfb h H a ns hl (fun p hp => by rw [hts] at hp; cases hp) hS
end DL

/-! The deep layer, part l: names for the printer. -/
namespace DL
variable [DL.Wd] [DL.Fb]
open PySem PySem.Spec PyProof.Rows L2
abbrev ltO : Op2 := i2 fun i j => .bl (decide (i < j))
abbrev leO : Op2 := i2 fun i j => .bl (decide (i ≤ j))
abbrev gtO : Op2 := i2 fun i j => .bl (decide (j < i))
abbrev geO : Op2 := i2 fun i j => .bl (decide (j ≤ i))
abbrev subO : Op2 := i2 fun i j => .int (i - j)
abbrev absO : D → MH → DQ → Prop := oI fun i M Q => Q (.int (if i < 0 then -i else i)) M
abbrev maxO : D → D → MH → DQ → Prop := ii2 fun i j M Q => Q (.int (if j > i then j else i)) M
abbrev minO : D → D → MH → DQ → Prop := ii2 fun i j M Q => Q (.int (if j < i then j else i)) M
abbrev dmO : D → D → MH → DQ → Prop := ii2 fun i j M Q => CDiv i j ∧ Q (.wtp [.int (i / j), .int (i % j)]) M
abbrev tupO : D → MH → DQ → Prop := fun d M Q => match d with
    | .tup xs => Q (.tup xs) M
    | d => lstD d M fun xs => Q (.tup xs) M
abbrev lstO : D → MH → DQ → Prop := fun d M Q => seqD d M fun xs => Q (.lst xs) M
abbrev lstMO : D → MH → DQ → Prop := fun d M Q => seqD d M fun xs => ∀ p, M p = none → Q (.ref p) (M.put p (.lst xs))
abbrev maxLO : D → MH → DQ → Prop := intsO fun ns M Q => 0 < ns.length ∧ ∀ m, m ∈ ns → (∀ y, y ∈ ns → y ≤ m) → Q (.int m) M
abbrev minLO : D → MH → DQ → Prop := fun d M Q => match d with
    | .tup xs => ∃ ns : List Int, xs = ns.map D.int ∧ 0 < ns.length ∧ ∀ m, m ∈ ns → (∀ y, y ∈ ns → m ≤ y) → Q (.int m) M
    | d => intsO (fun ns M Q => 0 < ns.length ∧ ∀ m, m ∈ ns → (∀ y, y ∈ ns → m ≤ y) → Q (.int m) M) d M Q
abbrev anyO : D → MH → DQ → Prop := blsO fun bs M Q => Q (.bl (bs.any _root_.id)) M
abbrev allO : D → MH → DQ → Prop := blsO fun bs M Q => Q (.bl (bs.all _root_.id)) M
abbrev strIO : D → MH → DQ → Prop := oI fun i M Q => i.natAbs.log2 < 1920 ∧ Q (.str (toString i)) M
abbrev srtSO : D → MH → DQ → Prop := strsO fun xs M Q => xs.length < 64 ∧ ∀ ys : List Str, ys.Perm xs → sortedS ys = true → Q (.lst (ys.map D.str)) M
abbrev srtIO : D → MH → DQ → Prop := intsO fun xs M Q => xs.length < 64 ∧ ∀ ys : List Int, ys.Perm xs → ys.Pairwise (· ≤ ·) → Q (.lst (ys.map D.int)) M
abbrev appendM : OpM := refL fun a xs ys M Q => match ys with
    | [y] => lenOk xs.length ∧ Q .non (M.put a (.lst (xs ++ [y])))
    | _ => False
abbrev popM : OpM := refL fun a xs ys M Q => match ys with
    | [] => ∃ y, xs[xs.length - 1]? = some y ∧ Q y (M.put a (.lst xs.dropLast))
    | [.int i] => ∃ k y, (-(2 ^ 63) ≤ i ∧ i < 2 ^ 63) ∧ ixN xs.length i = some k ∧ xs[k]? = some y ∧ Q y (M.put a (.lst (xs.eraseIdx k)))
    | _ => False
abbrev extendM : OpM := refL fun a xs ys M Q => match ys with
    | [.lst zs] => lenOk (xs.length + zs.length) ∧ Q .non (M.put a (.lst (xs ++ zs)))
    | _ => False
section
variable {Ω : Wl} {τ : Sx} {X : Cx} {a b c e o tg iter elt : Expr} {es rest ifs : List Expr} {da db dc de : DE} {ta tb dt : DT} {tl tr : DA} {pos p p2 apos : Pos} {x m : Str} {vs : List Nat} {gs : List Str} {id T : String}
/-- xs * n, a list that may change -/
def mulM : Op2 := fun x y M Q => match y with
  | .int j => lstD x M fun xs => (0 ≤ j ∧ j ≤ 1000 ∧ xs.length ≤ 1000) ∧ ∀ p, M p = none → Q (.ref p) (M.put p (.lst (List.replicate j.toNat xs).flatten))
  | _ => False
def addM : Op2 := fun x y M Q => lstD x M fun xs => lstD y M fun ys => lenOk (xs.length + ys.length) ∧ ∀ p, M p = none → Q (.ref p) (M.put p (.lst (xs ++ ys)))
/-! what the built-in types' methods are -/
theorem pa_list : PlainAttrs "list" := PySem.F.plainAttrs_list
theorem sl_list_append : Slot "list" "append" "list.append" := PySem.F.slot_list_append
theorem ty_list_append : typeOf (.builtin "list.append") = pure (.type "method_descriptor") := PySem.F.type_list_append
end
/-! items of short lists -/
section
variable {α : Type} {x y z : α} {r : List α}
theorem at_0 : atI (x :: r) 0 = some x := by
  unfold atI ixN
  rw [if_pos (by omega), if_pos (by rw [List.length_cons]; omega)]; rfl
theorem at_1 : atI (x :: y :: r) 1 = some y := by
  unfold atI ixN
  rw [if_pos (by omega), if_pos (by rw [List.length_cons, List.length_cons]; omega)]; rfl
theorem at_2 : atI (x :: y :: z :: r) 2 = some z := by
  unfold atI ixN
  rw [if_pos (by omega), if_pos (by rw [List.length_cons, List.length_cons, List.length_cons]; omega)]; rfl
theorem ix_30 : ixN 3 0 = some 0 := rfl
theorem ix_31 : ixN 3 1 = some 1 := rfl
theorem ix_32 : ixN 3 2 = some 2 := rfl
theorem atI_nat {xs : List α} {i : Int} {n : Nat} (hi : i = n) (h : n < xs.length) : atI xs i = some xs[n] := by
  subst hi
  unfold atI ixN
  rw [if_pos (by omega), if_pos (by omega)]
  show xs[((n : Int)).toNat]? = _
  rw [Int.toNat_natCast, List.getElem?_eq_getElem h]
theorem atI_some {xs : List α} {i : Int} {n : Nat} {v : α} (hi : i = n) (h : xs[n]? = some v) : atI xs i = some v := by
  obtain ⟨h1, h2⟩ := List.getElem?_eq_some_iff.mp h
  rw [atI_nat hi h1, h2]
end
/-! loops by the place -/
theorem for_list {gd : DG} {body : DS} {En : DEnds} {E : EK} {xs : List D} {σ : DSt} {M : MH} (J : Nat → DSt → MH → Prop) (h0 : J 0 σ M) (hn : ∀ σ M, J xs.length σ M → En.nx σ M)
    (hs : ∀ i σ M (h : i < xs.length), J i σ M → gd xs[i] σ M (fun σ2 M2 => body { En with nx := J (i + 1), ct := J (i + 1), bk := En.nx } E σ2 M2) E) : ForGo gd body En E xs σ M := by
  refine ⟨fun r σ M => ∃ i, i ≤ xs.length ∧ r = xs.drop i ∧ J i σ M, ⟨0, Nat.zero_le _, rfl, h0⟩, ?_, ?_⟩
  · rintro σ M ⟨i, hi, hr, h⟩
    have := congrArg List.length hr
    simp only [List.length_nil, List.length_drop] at this
    have e : i = xs.length := by omega
    subst e
    exact hn _ _ h
  · rintro x r σ M ⟨i, hi, hr, h⟩
    have hlt : i < xs.length := by
      rcases Nat.lt_or_ge i xs.length with h | h
      · exact h
      · rw [List.drop_eq_nil_of_le h] at hr; cases hr
    rw [List.drop_eq_getElem_cons hlt] at hr
    cases hr
    have key := hs i σ M hlt h
    have e : ∀ σ M, (∃ k, k ≤ xs.length ∧ xs.drop (i + 1) = xs.drop k ∧ J k σ M) = J (i + 1) σ M := fun σ M => propext ⟨fun ⟨k, h1, h2, h3⟩ => by
      have := congrArg List.length h2
      simp only [List.length_drop] at this
      have : k = i + 1 := by omega
      subst this; exact h3, fun h => ⟨i + 1, hlt, rfl, h⟩⟩
    simp only [e]
    exact key
theorem for_range {gd : DG} {body : DS} {En : DEnds} {E : EK} {lo : Int} {n : Nat} {σ : DSt} {M : MH} (J : Nat → DSt → MH → Prop) (h0 : J 0 σ M) (hn : ∀ σ M, J n σ M → En.nx σ M)
    (hs : ∀ (i : Nat) σ M, i < n → J i σ M → gd (.int (lo + i)) σ M (fun σ2 M2 => body { En with nx := J (i + 1), ct := J (i + 1), bk := En.nx } E σ2 M2) E) : ForGo gd body En E (rangeD lo n) σ M := by
  refine for_list J h0 (by rw [rangeD_length]; exact hn) fun i σ M h hJ => ?_
  have hi : i < n := by rwa [rangeD_length] at h
  have e : (rangeD lo n)[i] = .int (lo + (i : Nat)) := by
    have := rangeD_get (lo := lo) hi
    rw [List.getElem?_eq_getElem h] at this
    exact Option.some.inj this
  rw [e]
  exact hs i σ M hi hJ
/-! comprehensions by the place -/
theorem lc_idx {gd : DG} {de : DE} {vs : List Nat} {σ : DSt} {Q : DQ} {xs : List D} {M : MH} (val : Nat → D) (hl : lenOk xs.length)
    (h : ∀ p acc i (hi : i < xs.length) (C : DQ), M p = none → C (val i) (M.put p (.lst acc)) → gd xs[i] (wipeD σ vs) (M.put p (.lst acc)) (fun σ2 M3 => de σ2 M3 C noE) noE) (q : Q (.lst ((List.range xs.length).map val)) M) : LcGo gd dYes de vs σ Q xs M := by
  intro p hp
  refine ⟨fun r M2 => ∃ n, n ≤ xs.length ∧ r = xs.drop n ∧ M2 = M.put p (.lst ((List.range n).map val)), ⟨0, Nat.zero_le _, by simp, by simp⟩, ?_, ?_⟩
  · rintro M2 ⟨n, hn, hr, rfl⟩
    have : n = xs.length := by
      have := congrArg List.length hr
      simp at this; omega
    subst this
    refine ⟨_, MH.put_same, ?_⟩
    rw [MH.del_put hp]; exact q
  · rintro x r M2 ⟨n, hn, hr, rfl⟩
    have hlt : n < xs.length := by
      rcases Nat.lt_or_ge n xs.length with h | h
      · exact h
      · rw [List.drop_eq_nil_of_le h] at hr; cases hr
    rw [List.drop_eq_getElem_cons hlt] at hr
    cases hr
    have key := h p ((List.range n).map val) n hlt (fun y M5 => ∃ acc, M5 p = some (.lst acc) ∧ lenOk (acc.length + 1) ∧ ∃ k, k ≤ xs.length ∧ xs.drop (n + 1) = xs.drop k ∧ M5.put p (.lst (acc ++ [y])) = M.put p (.lst ((List.range k).map val))) hp (by
      refine ⟨_, MH.put_same, ?_, n + 1, hlt, rfl, ?_⟩
      · simp only [List.length_map, List.length_range]
        unfold lenOk at hl ⊢; omega
      · rw [MH.put_put, List.range_succ, List.map_append]; rfl)
    show gd xs[n] (wipeD σ vs) _ (fun σ2 M3 => (true = true → de σ2 M3 _ noE) ∧ (true = false → _)) noE
    have e : (fun (σ2 : DSt) (M3 : MH) => (true = true → de σ2 M3 (fun y M5 => ∃ acc, M5 p = some (.lst acc) ∧ lenOk (acc.length + 1) ∧ ∃ k, k ≤ xs.length ∧ xs.drop (n + 1) = xs.drop k ∧ M5.put p (.lst (acc ++ [y])) = M.put p (.lst ((List.range k).map val))) noE) ∧ (true = false → ∃ k, k ≤ xs.length ∧ xs.drop (n + 1) = xs.drop k ∧ M3 = M.put p (.lst ((List.range k).map val)))) = fun σ2 M3 => de σ2 M3 (fun y M5 => ∃ acc, M5 p = some (.lst acc) ∧ lenOk (acc.length + 1) ∧ ∃ k, k ≤ xs.length ∧ xs.drop (n + 1) = xs.drop k ∧ M5.put p (.lst (acc ++ [y])) = M.put p (.lst ((List.range k).map val))) noE := by
      funext σ2 M3
      simp
    rw [e]; exact key
theorem lc_range {gd : DG} {de : DE} {vs : List Nat} {σ : DSt} {Q : DQ} {lo : Int} {n : Nat} {M : MH} (val : Nat → D) (hl : lenOk n)
    (h : ∀ p acc i (C : DQ), i < n → M p = none → C (val i) (M.put p (.lst acc)) → gd (.int (lo + (i : Nat))) (wipeD σ vs) (M.put p (.lst acc)) (fun σ2 M3 => de σ2 M3 C noE) noE) (q : Q (.lst ((List.range n).map val)) M) : LcGo gd dYes de vs σ Q (rangeD lo n) M := by
  refine lc_idx val (by rw [rangeD_length]; exact hl) (fun p acc i hi C hp hC => ?_) (by rw [rangeD_length]; exact q)
  have hi' : i < n := by rwa [rangeD_length] at hi
  have e : (rangeD lo n)[i] = .int (lo + (i : Nat)) := by
    have := rangeD_get (lo := lo) hi'
    rw [List.getElem?_eq_getElem hi] at this
    exact Option.some.inj this
  rw [e]
  exact h p acc i C hi' hp hC
/-! comprehensions whose turns lay new things -/
/-! rows of ints as data -/
/-! what may be shown -/
mutual
def fitsD (k : Nat) : D → Bool
  | .non => true
  | .bl _ => true
  | .int i => decide (i.natAbs.log2 < k)
  | .str x => PyData.strOk x
  | .tup xs => fitsL k xs
  | .lst xs => fitsL k xs
  | _ => false
def fitsL (k : Nat) : List D → Bool
  | [] => true
  | x :: xs => fitsD k x && fitsL k xs
end
mutual
def bulkD : D → Nat
  | .str x => x.cps.size
  | .tup xs => bulkL xs
  | .lst xs => bulkL xs
  | _ => 0
def bulkL : List D → Nat
  | [] => 0
  | x :: xs => bulkD x + 1 + bulkL xs
end
theorem shown_int_len {i : Int} {k : Nat} (hk : k ≤ 1920) (h : i.natAbs.log2 < k) : (PyData.shown (.int i)).length ≤ k + 10 := by
  have e := int_text_length_le (k := k) (by omega) h
  simp only [PyData.shown]
  rw [show ((toString i : String) : Str) = Str.ofString (toString i) from rfl, PySem.ofString_length]
  omega
mutual
theorem fits_show (k : Nat) (hk : k ≤ 1920) : ∀ d : D, fitsD k d = true → d.py.showable = true ∧ d.py.hasDict = false ∧ d.py.leavesShort (k + 10) = true ∧ d.py.bulk = bulkD d
  | .non, _ => by simp [D.py, PyData.showable, PyData.hasDict, PyData.leavesShort, PyData.bulk, bulkD]
  | .bl _, _ => by simp [D.py, PyData.showable, PyData.hasDict, PyData.leavesShort, PyData.bulk, bulkD]
  | .int i, h => by
    have h' : i.natAbs.log2 < k := by simpa [fitsD] using h
    refine ⟨?_, ?_, ?_, ?_⟩
    · simp only [D.py, PyData.showable]; exact decide_eq_true (by omega)
    · simp [D.py, PyData.hasDict]
    · simp only [D.py, PyData.leavesShort]; exact decide_eq_true (shown_int_len hk h')
    · simp [D.py, PyData.bulk, bulkD]
  | .str x, h => by
    have h' : PyData.strOk x = true := by simpa [fitsD] using h
    refine ⟨?_, ?_, ?_, ?_⟩
    · simp [D.py, PyData.showable]
    · simp [D.py, PyData.hasDict]
    · simp only [D.py, PyData.leavesShort, List.all_eq_true, decide_eq_true_eq]
      intro c hc
      have := (Array.all_eq_true_iff_forall_mem.mp h') c (Array.mem_toList_iff.mp hc)
      have : c < 0x110000 := by simpa using this
      omega
    · simp [D.py, PyData.bulk, bulkD]
  | .tup xs, h => by
    obtain ⟨h1, h2, h3, h4⟩ := fitsL_show k hk xs (by simpa [fitsD] using h)
    simp only [D.py, PyData.showable, PyData.hasDict, PyData.leavesShort, PyData.bulk, bulkD]
    exact ⟨h1, h2, h3, h4⟩
  | .lst xs, h => by
    obtain ⟨h1, h2, h3, h4⟩ := fitsL_show k hk xs (by simpa [fitsD] using h)
    simp only [D.py, PyData.showable, PyData.hasDict, PyData.leavesShort, PyData.bulk, bulkD]
    exact ⟨h1, h2, h3, h4⟩
  | .dk _ _, h => by simp [fitsD] at h
  | .dt _ _, h => by simp [fitsD] at h
  | .obj _ _ _, h => by simp [fitsD] at h
  | .ref _, h => by simp [fitsD] at h
  | .scr _, h => by simp [fitsD] at h
  | .wtp _, h => by simp [fitsD] at h
theorem fitsL_show (k : Nat) (hk : k ≤ 1920) : ∀ xs : List D, fitsL k xs = true → PyData.showableAll (D.pyL xs) = true ∧ PyData.hasDictAll (D.pyL xs) = false ∧ PyData.leavesShortAll (k + 10) (D.pyL xs) = true ∧ PyData.bulkAll (D.pyL xs) = bulkL xs
  | [], _ => by simp [D.pyL, PyData.showableAll, PyData.hasDictAll, PyData.leavesShortAll, PyData.bulkAll, bulkL]
  | x :: xs, h => by
    have h' : fitsD k x = true ∧ fitsL k xs = true := by simpa [fitsL] using h
    obtain ⟨h1, h2, h3, h4⟩ := fits_show k hk x h'.1
    obtain ⟨h5, h6, h7, h8⟩ := fitsL_show k hk xs h'.2
    simp only [D.pyL, PyData.showableAll, PyData.hasDictAll, PyData.leavesShortAll, PyData.bulkAll, bulkL, h1, h2, h3, h4, h5, h6, h7, h8]
    simp
end
theorem showB_of {d : D} (k : Nat) (hk : k ≤ 1920) (h : fitsD k d = true) (hb : (k + 12) * bulkD d + (k + 10) ≤ 16000000) : showB d = true := by
  obtain ⟨h1, h2, h3, h4⟩ := fits_show k hk d h
  have := PyData.shown_le_bulk (k + 10) (by omega) d.py h3
  rw [h4, show k + 10 + 2 = k + 12 from rfl] at this
  unfold showB
  rw [h1, h2, decide_eq_true (by omega)]; rfl
end DL

/-! The deep layer, part m: own classes: made, properties, len, ==, !=, str. -/
namespace DL
variable [DL.Wd] [DL.Fb]
open PySem PySem.Spec PyProof.Rows L2
section
variable {Ω : Wl} {τ : Sx} {X : Cx} {a b c e o tg iter elt : Expr} {es rest ifs : List Expr} {da db dc de : DE} {ta tb dt : DT} {tl tr : DA} {pos p p2 apos : Pos} {x m : Str} {vs : List Nat} {gs : List Str} {id T : String} {f : Addr} {C : Str} {fd : FuncData} {k : Nat} {ps ks : List Str} {sp : DSp} {st : Stmt} {N : List Str} {d : DS} {qual : Str}

/-! ### C(..) -/
def CalI (Ω : Wl) (C : Str) (k : Nat) (ps : List Str) (sp : DSp) : Prop := ∃ f fd, Okd Ω f fd k ps sp ∧ Mk Ω.K (clsA Ω.K C) f ∧ Binds Ω.K fd ps [] ∧ Ω.mg C = some (.ref (clsA Ω.K C))
def StdI (Ω : Wl) (C qual : Str) (ps : List Str) (st : Stmt) : Prop := ∃ f fd, Fun Ω.K "__init__" qual st f fd ∧ Mk Ω.K (clsA Ω.K C) f ∧ Binds Ω.K fd ps [] ∧ Ω.mg C = some (.ref (clsA Ω.K C))
/-- the new instance changes; __init__ fills it -/
def dMake (C : Str) (n : Nat) (sp : DSp) (t : DA) : DE := fun σ M Q E => t σ M (fun ds M1 => ds.length + 1 = n ∧ ∀ x, M1 x = none → sp (.ref x :: ds) (M1.put x (.ins C [] [])) (fun v M2 => v = .non ∧ Q (.ref x) M2) fun er M2 => E er σ M2) E
/-! ### properties -/
def CalP (Ω : Wl) (C m : Str) (k : Nat) (sp : DSp) : Prop := ∃ p g fd, PropOf Ω.K (clsA Ω.K C) m p g ∧ Okd Ω g fd k ["self"] sp ∧ Binds Ω.K fd ["self"] []
def StdP (Ω : Wl) (C m qual : Str) (st : Stmt) : Prop := ∃ p g fd, PropOf Ω.K (clsA Ω.K C) m p g ∧ Fun Ω.K m qual st g fd ∧ Binds Ω.K fd ["self"] []
def dProp (C : Str) (sp : DSp) (de : DE) : DE := fun σ M Q E => de σ M (fun x M1 => insD C x M1 fun _ _ => sp [x] M1 Q fun _ _ => False) E
/-! ### special methods: len, ==, != -/
def CalS (Ω : Wl) (C m : Str) (k : Nat) (ps : List Str) (sp : DSp) : Prop := ∃ f fd, Okd Ω f fd k ps sp ∧ Binds Ω.K fd ps [] ∧ PySem.W.findIn Ω.K (.ref (clsA Ω.K C)) m = some (some (.ref f)) ∧ PySem.W.isFn Ω.K (.ref f) = true
def StdS (Ω : Wl) (C m qual : Str) (ps : List Str) (st : Stmt) : Prop := ∃ f fd, Fun Ω.K m qual st f fd ∧ Binds Ω.K fd ps [] ∧ PySem.W.findIn Ω.K (.ref (clsA Ω.K C)) m = some (some (.ref f)) ∧ PySem.W.isFn Ω.K (.ref f) = true
def isRef : D → Bool
  | .ref _ => true
  | _ => false
/-- the type of a value, as the model looks it up -/
def tyIs (C : Str) (d : D) (M : MH) : Prop := insD C d M fun _ _ => True
/-- x == y, x of an own class with __eq__ -/
def eqOwn (C : Str) (sp : DSp) : Op2 := fun x y M Q => insD C x M fun _ _ => insD C y M fun _ _ => sp [x, y] M (fun v M2 => ∃ b, v = .bl b ∧ Q (.bl b) M2) fun _ _ => False
def neOwn (C : Str) (sp : DSp) : Op2 := fun x y M Q => insD C x M fun _ _ => insD C y M fun _ _ => sp [x, y] M (fun v M2 => ∃ b, v = .bl b ∧ Q (.bl (!b)) M2) fun _ _ => False
end
end DL

/-! The deep layer, part n: tuples turned round, isinstance of own classes, methods by keyword, list(range(..)). -/
namespace DL
variable [DL.Wd] [DL.Fb]
open PySem PySem.Spec PyProof.Rows L2
section
variable {Ω : Wl} {τ : Sx} {X : Cx} {a b c e o tg iter elt : Expr} {es rest ifs : List Expr} {da db dc de : DE} {ta tb dt : DT} {tl tr : DA} {pos p p2 apos : Pos} {x m : Str} {vs : List Nat} {gs : List Str} {id T : String} {f : Addr} {C : Str} {fd : FuncData} {k : Nat} {ps ks : List Str} {sp : DSp} {st : Stmt} {N : List Str} {d : DS} {qual : Str}
/-- t[::-1] of a tuple -/
def dRevT (de : DE) : DE := fun σ M Q E => de σ M (fun x M1 => match x with
  | .tup xs => Q (.tup xs.reverse) M1
  | _ => False) E
/-! ### isinstance(e, C) -/
structure ClsF (Ω : Wl) (C : Str) : Prop where
  cl : Cls Ω.K (clsA Ω.K C)
  mg : Ω.mg C = some (.ref (clsA Ω.K C))
  ha : PySem.W.findIn Ω.K (.ref (clsA Ω.K C)) "__class__" = some (some (.builtin "object.__class__"))
  hn : PySem.W.specialIn Ω.K (.builtin "object.__class__") "__get__" = some (some (.builtin "getset_descriptor.__get__"))
  tk : PySem.W.takesIn Ω.K (.builtin "object.__class__") = some true
  hm : PySem.W.mroIn Ω.K (clsA Ω.K C) (.type "object") = some true
  is : PySem.W.isClsIn Ω.K (clsA Ω.K C) = true
  ty : PySem.W.typeIn Ω.K (.ref (clsA Ω.K C)) = some (.type "type")
/-- is it of the class, as far as is known -/
def isC (C : Str) (d : D) (M : MH) : Option Bool := match d with
  | .obj C' _ _ => if C' = C then some true else none
  | .ref a => match M a with
    | some (.ins C' _ _) => if C' = C then some true else none
    | some (.lst _) => some false
    | _ => none
  | d => (tyNm d).map fun _ => false
def dIsO (C : Str) (de : DE) : DE := fun σ M Q E => de σ M (fun d M1 => ∃ b, isC C d M1 = some b ∧ Q (.bl b) M1) E
/-! ### methods by keyword -/
def CalMN (Ω : Wl) (C : Str) (m : Str) (k : Nat) (ps ks : List Str) (ix : List Nat) (sp : DSp) : Prop := ∃ f fd, Okd Ω f fd k ps sp ∧ Meth Ω.K (clsA Ω.K C) m f ∧
  ∀ (s : Shared) (us ws : List Value), us.length = 1 → ws.length = ks.length → BindsTo s fd ⟨us, ks.zip ws⟩ (ps.zip (pick ix (us ++ ws)))
def dMethN (C m : Str) (ix : List Nat) (n np : Nat) (sp : DSp) (de : DE) (t : DA) : DE := fun σ M Q E => de σ M (fun x M1 => insD C x M1 fun ns _ => ns.contains m = false ∧ t σ M1 (fun ds M2 => ds.length = n ∧ (pick ix (x :: ds)).length = np ∧ sp (pick ix (x :: ds)) M2 Q fun er M3 => E er σ M3) E) E
/-! ### list(range(..)) -/
def dListRg1 (de : DE) : DE := fun σ M Q E => de σ M (fun x M1 => match x with
  | .int n => n ≤ 100000 ∧ -100000 ≤ n ∧ Q (.lst (rangeD 0 n.toNat)) M1
  | _ => False) E
def dListRg2 (da db : DE) : DE := fun σ M Q E => da σ M (fun x M1 => db σ M1 (fun y M2 => match x, y with
  | .int a, .int b => (-100000 ≤ a ∧ a ≤ 100000 ∧ -100000 ≤ b ∧ b ≤ 100000) ∧ Q (.lst (rangeD a (b - a).toNat)) M2
  | _, _ => False) E) E
end
abbrev lenOwn (C : Str) (sp : DSp) : OpB := ob1 fun d M Q => insD C d M fun _ _ => sp [d] M (fun v M2 => ∃ n : Int, v = .int n ∧ (0 ≤ n ∧ n < 2 ^ 63) ∧ Q (.int n) M2) fun _ _ => False
abbrev strOwn (C : Str) (sp : DSp) : OpB := ob1 fun d M Q => insD C d M fun _ _ => sp [d] M (fun v M2 => ∃ z : Str, v = .str z ∧ Q (.str z) M2) fun _ _ => False
/-! the signs of a text, one by one -/
section
variable {Ω : Wl} {τ : Sx} {X : Cx} {iter tg : Expr} {de : DE}
def signsD (z : Str) : List D := z.cps.toList.map fun c => .str ⟨#[c]⟩
def dStrI (d : DE) : DI := fun σ M R E => d σ M (fun x M1 => match x with
  | .str z => lenOk z.length ∧ R (signsD z) M1
  | _ => False) E
end
end DL

/-! The deep layer, part o: what changes, put in order. -/
namespace DL
variable [DL.Wd] [DL.Fb]
open PySem PySem.Spec PyProof.Rows L2
section
variable {M : MH} {a b c d e : Addr} {o u v w x y z : MO}
end
theorem lenM_lst {xs : List D} : lenM (some (.lst xs)) = some xs.length := rfl
theorem moTy_none : moTy none = none := rfl
theorem at_3 {α : Type} {x y z w : α} {r : List α} : atI (x :: y :: z :: w :: r) 3 = some w := by
  unfold atI ixN
  rw [if_pos (by omega), if_pos (by simp only [List.length_cons]; omega)]; rfl
theorem nc0 : ((0 : Nat) : Int) = 0 := rfl
theorem nc1 : ((1 : Nat) : Int) = 1 := rfl
theorem nc2 : ((2 : Nat) : Int) = 2 := rfl
theorem nc3 : ((3 : Nat) : Int) = 3 := rfl
theorem nc4 : ((4 : Nat) : Int) = 4 := rfl
theorem nc5 : ((5 : Nat) : Int) = 5 := rfl
theorem nc6 : ((6 : Nat) : Int) = 6 := rfl
theorem nc7 : ((7 : Nat) : Int) = 7 := rfl
theorem nc8 : ((8 : Nat) : Int) = 8 := rfl
theorem nc9 : ((9 : Nat) : Int) = 9 := rfl
theorem nc10 : ((10 : Nat) : Int) = 10 := rfl
theorem nc11 : ((11 : Nat) : Int) = 11 := rfl
theorem nc12 : ((12 : Nat) : Int) = 12 := rfl
theorem nc13 : ((13 : Nat) : Int) = 13 := rfl
theorem nc14 : ((14 : Nat) : Int) = 14 := rfl
theorem nc15 : ((15 : Nat) : Int) = 15 := rfl
theorem nc16 : ((16 : Nat) : Int) = 16 := rfl
theorem nc17 : ((17 : Nat) : Int) = 17 := rfl
theorem nc18 : ((18 : Nat) : Int) = 18 := rfl
theorem nc19 : ((19 : Nat) : Int) = 19 := rfl
theorem nc20 : ((20 : Nat) : Int) = 20 := rfl
/-! the place of a list in a state -/
end DL

/-! The deep layer, part p: dicts. -/
namespace DL
variable [DL.Wd] [DL.Fb]
open PySem PySem.Spec PyProof.Rows L2

/-! ### tables of data -/
section
variable {κ : Type} [DecidableEq κ]
def dGet : List (κ × D) → κ → Option D
  | [], _ => none
  | e :: t, k => if e.1 = k then some e.2 else dGet t k
def dPut (t : List (κ × D)) (k : κ) (y : D) : List (κ × D) := if (t.any fun e => decide (e.1 = k)) = true then t.map (fun e => if e.1 = k then (e.1, y) else e) else t ++ [(k, y)]
theorem dGet_any (k : κ) : ∀ t : List (κ × D), (t.any fun e => decide (e.1 = k)) = (dGet t k).isSome
  | [] => rfl
  | e :: t => by
    rw [List.any_cons, dGet, dGet_any k t]
    by_cases h : e.1 = k <;> simp [h]
theorem dGet_map (k j : κ) (y : D) : ∀ t : List (κ × D), dGet (t.map fun e => if e.1 = k then (e.1, y) else e) j = (dGet t j).map fun x => if j = k then y else x
  | [] => rfl
  | e :: t => by
    rw [List.map_cons, dGet, dGet, dGet_map k j y t]
    by_cases h : e.1 = k
    · rw [if_pos h]
      by_cases h2 : e.1 = j
      · rw [if_pos h2, if_pos h2]; simp [← h2, h]
      · rw [if_neg h2, if_neg h2]
    · rw [if_neg h]
      by_cases h2 : e.1 = j
      · rw [if_pos h2, if_pos h2]; simp [← h2, h]
      · rw [if_neg h2, if_neg h2]
theorem dGet_snoc (k j : κ) (y : D) : ∀ t : List (κ × D), dGet t k = none → dGet (t ++ [(k, y)]) j = if j = k then some y else dGet t j
  | [], _ => by
    show (if k = j then some y else none) = _
    by_cases h : j = k
    · rw [if_pos h, if_pos h.symm]
    · rw [if_neg h, if_neg (Ne.symm h)]; rfl
  | e :: t, h => by
    rw [dGet] at h
    by_cases h1 : e.1 = k
    · rw [if_pos h1] at h; cases h
    · rw [if_neg h1] at h
      rw [List.cons_append, dGet, dGet, dGet_snoc k j y t h]
      by_cases h2 : e.1 = j
      · rw [if_pos h2, if_pos h2, if_neg (fun z => h1 (h2.trans z))]
      · rw [if_neg h2, if_neg h2]
theorem dGet_put (t : List (κ × D)) (k j : κ) (y : D) : dGet (dPut t k y) j = if j = k then some y else dGet t j := by
  unfold dPut
  rw [dGet_any]
  by_cases h : (dGet t k).isSome = true
  · rw [if_pos h, dGet_map]
    by_cases h2 : j = k
    · subst h2
      obtain ⟨x, hx⟩ := Option.isSome_iff_exists.mp h
      rw [hx]; simp
    · rw [if_neg h2]
      cases dGet t j <;> simp [h2]
  · rw [if_neg h, dGet_snoc]
    simpa using h
theorem dPut_len (t : List (κ × D)) (k : κ) (y : D) : (dPut t k y).length ≤ t.length + 1 := by
  unfold dPut
  split
  · rw [List.length_map]; omega
  · rw [List.length_append]; exact Nat.le_refl _
/-- what stands in both -/
structure TabR (K : PySem.W.Frag) (F : Hp) (kvs : List (κ × V)) (t : List (κ × D)) : Prop where
  ks : kvs.map (·.1) = t.map (·.1)
  vs : RpL K F (kvs.map (·.2)) (t.map (·.2))
theorem TabR.get {K : PySem.W.Frag} {F : Hp} {k : κ} : ∀ {kvs : List (κ × V)} {t : List (κ × D)}, TabR K F kvs t → (valV kvs k).isSome = (dGet t k).isSome ∧ ∀ d, dGet t k = some d → ∃ v, valV kvs k = some v ∧ Rp K F v d
  | [], [], _ => ⟨rfl, fun _ h => by cases h⟩
  | [], _ :: _, h => by have := h.ks; simp at this
  | _ :: _, [], h => by have := h.ks; simp at this
  | (k1, v) :: r, (k2, d) :: t, h => by
    have h1 := h.ks
    have h2 := h.vs
    simp only [List.map_cons, List.cons.injEq] at h1 h2
    obtain ⟨rfl, h1⟩ := h1
    cases h2 with | cons h2 h3 =>
    have ih := TabR.get (k := k) ⟨h1, h3⟩
    by_cases e : k1 = k
    · rw [valV_pos e, dGet, if_pos e]
      exact ⟨rfl, fun d' h => by cases h; exact ⟨v, rfl, h2⟩⟩
    · rw [valV_neg e, dGet, if_neg e]
      exact ih
theorem TabR.length {K : PySem.W.Frag} {F : Hp} {kvs : List (κ × V)} {t : List (κ × D)} (h : TabR K F kvs t) : kvs.length = t.length := by
  have := congrArg List.length h.ks
  simpa using this
theorem TabR.map {K : PySem.W.Frag} {F : Hp} {k : κ} {v : V} {d : D} (rv : Rp K F v d) : ∀ {kvs : List (κ × V)} {t : List (κ × D)}, TabR K F kvs t → TabR K F (kvs.map fun e => if e.1 = k then (e.1, v) else e) (t.map fun e => if e.1 = k then (e.1, d) else e)
  | [], [], _ => ⟨rfl, .nil⟩
  | [], _ :: _, h => by have := h.ks; simp at this
  | _ :: _, [], h => by have := h.ks; simp at this
  | (k1, v1) :: r, (k2, d1) :: t, h => by
    have h1 := h.ks
    have h2 := h.vs
    simp only [List.map_cons, List.cons.injEq] at h1 h2
    obtain ⟨rfl, h1⟩ := h1
    cases h2 with | cons h2 h3 =>
    have ih := TabR.map (k := k) rv ⟨h1, h3⟩
    simp only [List.map_cons]
    by_cases e : k1 = k
    · rw [if_pos e, if_pos e]
      exact ⟨by simp only [List.map_cons]; rw [ih.ks], .cons rv ih.vs⟩
    · rw [if_neg e, if_neg e]
      exact ⟨by simp only [List.map_cons]; rw [ih.ks], .cons h2 ih.vs⟩
theorem TabR.put {K : PySem.W.Frag} {F : Hp} {kvs : List (κ × V)} {t : List (κ × D)} {k : κ} {v : V} {d : D} (h : TabR K F kvs t) (rv : Rp K F v d) : TabR K F (putK kvs k v) (dPut t k d) := by
  unfold putK dPut
  have e : (kvs.any fun e => decide (e.1 = k)) = (t.any fun e => decide (e.1 = k)) := by rw [dGet_any, valV_any, h.get.1]
  rw [e]
  split
  · exact h.map rv
  · exact ⟨by rw [List.map_append, List.map_append, h.ks]; rfl, by rw [List.map_append, List.map_append]; exact h.vs.append (.one rv)⟩
theorem TabR.mono {K : PySem.W.Frag} {F F' : Hp} {kvs : List (κ × V)} {t : List (κ × D)} (h : TabR K F kvs t) (e : Ex F F') : TabR K F' kvs t := ⟨h.ks, h.vs.mono e⟩
end

/-! ### dicts as they stand -/
abbrev TabK := List (Key × D)
abbrev TabT := List (List Key × D)
def dkO (t : TabK) : MO := .dk (t.map (·.1)) (t.map (·.2))
def dtO (t : TabT) : MO := .dt (t.map (·.1)) (t.map (·.2))
def dkD (t : TabK) : D := .dk (t.map (·.1)) (t.map (·.2))
def dtD (t : TabT) : D := .dt (t.map (·.1)) (t.map (·.2))
theorem tab_inj {κ : Type} : ∀ {s t : List (κ × D)}, s.map (·.1) = t.map (·.1) → s.map (·.2) = t.map (·.2) → s = t
  | [], [], _, _ => rfl
  | [], _ :: _, h, _ => by simp at h
  | _ :: _, [], h, _ => by simp at h
  | (a, b) :: s, (c, d) :: t, h, k => by
    simp only [List.map_cons, List.cons.injEq] at h k
    rw [h.1, k.1, tab_inj h.2 k.2]
theorem dkO_inj {s t : TabK} : (dkO s = dkO t) = (s = t) := propext ⟨fun h => by unfold dkO at h; simp only [MO.dk.injEq] at h; exact tab_inj h.1 h.2, fun h => by rw [h]⟩
theorem dtO_inj {s t : TabT} : (dtO s = dtO t) = (s = t) := propext ⟨fun h => by unfold dtO at h; simp only [MO.dt.injEq] at h; exact tab_inj h.1 h.2, fun h => by rw [h]⟩
theorem dkO_ne {s : TabK} {xs : List D} : (dkO s = .lst xs) = False := by unfold dkO; simp
theorem dtO_ne {s : TabT} {xs : List D} : (dtO s = .lst xs) = False := by unfold dtO; simp
theorem dkO_ne2 {s : TabK} {xs : List D} : (MO.lst xs = dkO s) = False := by unfold dkO; simp
theorem dtO_ne2 {s : TabT} {xs : List D} : (MO.lst xs = dtO s) = False := by unfold dtO; simp
theorem lenM_dk {s : TabK} : lenM (some (dkO s)) = some s.length := by simp [lenM, dkO]
/-- the key that a value is -/
def keyD : D → Option Key
  | .int i => some (.inl i)
  | .str s => some (.inr s)
  | _ => none
def keysD : List D → Option (List Key)
  | [] => some []
  | x :: xs => match keyD x, keysD xs with
    | some k, some ks => some (k :: ks)
    | _, _ => none
def tkeyD : D → Option (List Key)
  | .tup xs => keysD xs
  | _ => none
theorem keyD_int {i : Int} : keyD (.int i) = some (.inl i) := rfl
theorem keyD_str {s : Str} : keyD (.str s) = some (.inr s) := rfl
/-- what stands at a key: R of it -/
def dicD (x y : D) (M : MH) (R : Option D → Prop) : Prop := match x with
  | .ref a => ∃ t, M a = some (dkO t) ∧ ∃ k, keyD y = some k ∧ R (dGet t k)
  | .dk ks vs => ∃ t : TabK, ks = t.map (·.1) ∧ vs = t.map (·.2) ∧ ∃ k, keyD y = some k ∧ R (dGet t k)
  | _ => False
theorem dic_dk {t : TabK} {y : D} {M : MH} {R : Option D → Prop} : dicD (dkD t) y M R = ∃ k, keyD y = some k ∧ R (dGet t k) := by
  apply propext
  unfold dicD dkD
  constructor
  · rintro ⟨s, e1, e2, q⟩
    rw [tab_inj e1 e2]; exact q
  · exact fun q => ⟨t, rfl, rfl, q⟩
/-- what is told of a dict from now on: its very object; it changes no more -/
theorem G.still {X : Cx} {pins : List (Addr × Obj)} {σ : L2.St} {H F : Hp} {M : MH} {s : Shared} {b : Addr} {ks : List Key} {ds : List D} (I : Inv X pins σ H s) (g : G X.K F M H) (h : M b = some (.dk ks ds)) :
    ∃ u, Inv X pins σ (upd H b u) s ∧ Ex F (upd F b u) ∧ G X.K (upd F b u) (M.del b) (upd H b u) ∧ Rp X.K (upd F b u) (.ref b) (.dk ks ds) := by
  obtain ⟨h3, kvs, h4, hk, h5⟩ := g.mo _ _ h
  obtain ⟨od, J⟩ := I.lock h4 trivial
  have ex : Ex F (upd F b (.frz od (.dK kvs))) := Ex.new h3
  refine ⟨.frz od (.dK kvs), J, ex, ⟨g.ex.both, fun p o q => ?_, g.kx.to ex fun P ps z zF => ?_⟩, .dk ⟨od, upd_same⟩ hk (h5.mono ex)⟩
  · have hb : p ≠ b := fun z => by subst z; unfold MH.del at q; rw [if_pos rfl] at q; cases q
    unfold MH.del at q
    rw [if_neg hb] at q
    obtain ⟨k1, k2⟩ := g.mo p o q
    exact ⟨by rw [upd_ne hb]; exact k1, k2.mono ex (upd_ne hb)⟩
  · have hb : P ≠ b := fun q => by rw [q, h4] at z; cases z
    rw [upd_ne hb, upd_ne hb]
    exact ⟨zF, z⟩
section
variable {Ω : Wl} {τ : Sx} {X : Cx} {a b c e o f tg iter elt kx vx : Expr} {es rest ifs : List Expr} {da db dc de dv dk : DE} {ta tb dt : DT} {tl tr : DA} {pos p p2 apos cpos pos' : Pos} {x m : Str} {vs : List Nat} {gs : List Str} {id T : String}
theorem u1 (ft : Fit Ω τ X) : X.A.units + 1 < cLine := by have := ft.room.units; omega
/-- y in x, y not in x: x a dict -/
def dinOp (neg : Bool) : Op2 := fun y x M Q => dicD x y M fun o => Q (.bl (if neg then !o.isSome else o.isSome)) M
/-- x[y], there -/
def dgetOp : Op2 := fun x y M Q => dicD x y M fun o => ∃ d, o = some d ∧ Q d M
/-- x.get(y, z) -/
def dGet2 (dx dy dz : DE) : DE := fun σ M Q E => dx σ M (fun x M1 => dicA x M1 ∧ dy σ M1 (fun y M2 => dz σ M2 (fun z M3 => dicD x y M3 fun o => Q (o.getD z) M3) E) E) E
where dicA (x : D) (M : MH) : Prop := match x with
  | .ref a => ∃ t, M a = some (dkO t)
  | .dk _ _ => True
  | _ => False
theorem dicA_dk {t : TabK} {M : MH} : dGet2.dicA (dkD t) M = True := rfl
/-- x[y] = v -/
def dputD (x y v : D) (M : MH) (R : MH → Prop) : Prop := match x with
  | .ref a => ∃ t, M a = some (dkO t) ∧ ∃ k, keyD y = some k ∧ lenOk (t.length + 1) ∧ R (M.put a (dkO (dPut t k v)))
  | _ => False
def dsPut (dv da db : DE) : DS := fun D E σ M => dv σ M (fun v M1 => da σ M1 (fun x M2 => db σ M2 (fun y M3 => dputD x y v M3 fun M4 => D.nx σ M4) E) E) E
/-- {}, with keys that are numbers or texts; with keys that are tuples -/
def dNewK : DE := fun σ M Q E => ∀ p, M p = none → Q (.ref p) (M.put p (dkO []))
def dNewT : DE := fun σ M Q E => ∀ p, M p = none → Q (.ref p) (M.put p (dtO []))
end
end DL

/-! The deep layer, part q: update, dict comprehensions, insert, index, three names at once, comprehensions with a test. -/
namespace DL
variable [DL.Wd] [DL.Fb]
open PySem PySem.Spec PyProof.Rows L2
def mergeD (t s : TabK) : TabK := s.foldl (fun acc e => dPut acc e.1 e.2) t
section
variable {Ω : Wl} {τ : Sx} {X : Cx} {a b c e o f tg iter elt kx vx : Expr} {es rest ifs : List Expr} {da db dc de dv dk : DE} {ta tb dt : DT} {tl tr : DA} {pos p p2 apos cpos pos' : Pos} {x m : Str} {vs : List Nat} {gs : List Str} {id T : String}
theorem moTy_dk {t : TabK} : moTy (some (dkO t)) = some "dict" := rfl
theorem moTy_lst {t : List D} : moTy (some (.lst t)) = some "list" := rfl
/-- d.update(e), two dicts that may change -/
def updateM : OpM := fun x ys M Q => match x, ys with
  | .ref a, [.ref b] => a ≠ b ∧ ∃ t, M a = some (dkO t) ∧ ∃ s, M b = some (dkO s) ∧ lenOk (t.length + s.length) ∧ Q .non (M.put a (dkO (mergeD t s)))
  | _, _ => False
/-! ### {k: v for ..} -/
def DcGo (gd : DG) (dt : DT) (dk dv : DE) (vs : List Nat) (σ : DSt) (Q : DQ) (xs : List D) (M1 : MH) : Prop := ∀ p, M1 p = none → ∃ W : List D → MH → Prop, W xs (M1.put p (dkO [])) ∧ (∀ M2, W [] M2 → Q (.ref p) M2) ∧
  ∀ x r M2, W (x :: r) M2 → gd x (wipeD σ vs) M2 (fun σ2 M3 => dt σ2 M3 (fun k M4 => (k = true → dk σ2 M4 (fun y M5 => dv σ2 M5 (fun z M6 => ∃ ky t, keyD y = some ky ∧ M6 p = some (dkO t) ∧ lenOk (t.length + 1) ∧ W r (M6.put p (dkO (dPut t ky z)))) noE) noE) ∧ (k = false → W r M4)) noE) noE
def dDc (di : DI) (gd : DG) (dt : DT) (dk dv : DE) (vs : List Nat) : DE := fun σ M Q E => di σ M (fun xs M1 => DcGo gd dt dk dv vs σ Q xs M1) E
/-! ### methods of lists and tuples -/
abbrev insertM : OpM := refL fun a xs ys M Q => match ys with
    | [.int i, y] => lenOk (xs.length + 1) ∧ 0 ≤ i ∧ i < 2 ^ 63 ∧ Q .non (M.put a (.lst (xs.take i.toNat ++ [y] ++ xs.drop i.toNat)))
    | _ => False
/-- xs.index(i) of ints, there -/
def indexM : OpM := fun x ys M Q => match ys with
  | [.int k] => lstD x M fun xs => ∃ ns : List Int, xs = ns.map .int ∧ k ∈ ns ∧ Q (.int (ns.idxOf k : Nat)) M
  | [.str k] => lstD x M fun xs => ∃ ns : List Str, xs = ns.map .str ∧ k ∈ ns ∧ Q (.int (ns.idxOf k : Nat)) M
  | _ => False
theorem idxOf_first {α : Type} [BEq α] [LawfulBEq α] {k : α} : ∀ {ns : List α}, k ∈ ns → ns[ns.idxOf k]? = some k ∧ ∀ m z, m < ns.idxOf k → ns[m]? = some z → z ≠ k
  | n :: ns, h => by
    rw [List.idxOf_cons]
    by_cases e : n = k
    · subst e
      simp
    · have e' : (n == k) = false := by simpa using e
      rw [e']
      have hm : k ∈ ns := by
        rcases List.mem_cons.mp h with h | h
        · exact absurd h.symm e
        · exact h
      obtain ⟨h1, h2⟩ := idxOf_first hm
      refine ⟨by simpa using h1, fun m z hm hz => ?_⟩
      cases m with
      | zero => simp at hz; rw [← hz]; exact e
      | succ m => exact h2 m z (by simpa using hm) (by simpa using hz)
/-- xs.index(s) of texts in a tuple, there -/
def indexTM : OpM := fun x ys M Q => match x, ys with
  | .tup xs, [.str k] => ∃ ns : List Str, xs = ns.map .str ∧ k ∈ ns ∧ Q (.int (ns.idxOf k : Nat)) M
  | _, _ => False
/-- methods of a tuple -/
def dBMT (ob : OpM) (de : DE) (t : DA) : DE := fun σ M Q E => de σ M (fun x M1 => tupT x ∧ t σ M1 (fun ys M2 => ob x ys M2 Q) E) E
where tupT : D → Prop
  | .tup _ => True
  | _ => False
/-- -e -/
def dNeg (de : DE) : DE := fun σ M Q E => de σ M (fun x M1 => match x with
  | .int i => Q (.int (-i)) M1
  | _ => False) E
theorem dp_neg (he : DP Ω τ e de) : DP Ω τ (.UnaryOp .USub e pos) (dNeg de) := Hd.mk fun X ft F0 E tk F M H σ σ' Q e0 g r h => by
  refine wE_of (pe_un un_neg pe_wE) (wE_mono (he.run X ft F0 E tk F M H σ σ' _ e0 g r h) ?_)
  rintro v H1 ⟨F1, M1, y, e1, g1, r1, q⟩
  cases y <;> first | exact q.elim | skip
  cases r1
  exact ⟨_, rfl, F1, M1, _, e1, g1, .int _, q⟩
/-! three names at once -/
def dPar3 (i j l : Nat) (t : DA) : DS := fun D E σ M => t σ M (fun vs M1 => match vs with
  | [u, v, w] => D.nx (((σ.set i (some u)).set j (some v)).set l (some w)) M1
  | _ => False) E
/-! a comprehension with a test, by the place -/
theorem lc_test {gd : DG} {dt : DT} {de : DE} {vs : List Nat} {σ : DSt} {Q : DQ} {xs : List D} {M : MH} (keep : Nat → Bool) (val : Nat → D) (hl : lenOk xs.length)
    (h : ∀ p acc i (hi : i < xs.length) (C : DQ) (S : MH → Prop), M p = none → (keep i = true → C (val i) (M.put p (.lst acc))) → (keep i = false → S (M.put p (.lst acc))) →
      gd xs[i] (wipeD σ vs) (M.put p (.lst acc)) (fun σ2 M3 => dt σ2 M3 (fun k M4 => (k = true → de σ2 M4 C noE) ∧ (k = false → S M4)) noE) noE)
    (q : Q (.lst (((List.range xs.length).filter keep).map val)) M) : LcGo gd dt de vs σ Q xs M := by
  intro p hp
  have step : ∀ n, ((List.range (n + 1)).filter keep).map val = ((List.range n).filter keep).map val ++ (if keep n = true then [val n] else []) := by
    intro n
    rw [List.range_succ, List.filter_append, List.map_append]
    congr 1
    by_cases h : keep n = true
    · simp [h]
    · simp [h]
  refine ⟨fun r M2 => ∃ n, n ≤ xs.length ∧ r = xs.drop n ∧ M2 = M.put p (.lst (((List.range n).filter keep).map val)), ⟨0, Nat.zero_le _, by simp, by simp⟩, ?_, ?_⟩
  · rintro M2 ⟨n, hn, hr, rfl⟩
    have : n = xs.length := by
      have := congrArg List.length hr
      simp at this; omega
    subst this
    refine ⟨_, MH.put_same, ?_⟩
    rw [MH.del_put hp]; exact q
  · rintro x r M2 ⟨n, hn, hr, rfl⟩
    have hlt : n < xs.length := by
      rcases Nat.lt_or_ge n xs.length with h | h
      · exact h
      · rw [List.drop_eq_nil_of_le h] at hr; cases hr
    rw [List.drop_eq_getElem_cons hlt] at hr
    cases hr
    refine h p _ n hlt _ _ hp (fun hk => ⟨_, MH.put_same, ?_, n + 1, hlt, rfl, ?_⟩) (fun hk => ⟨n + 1, hlt, rfl, ?_⟩)
    · have := List.length_filter_le keep (List.range n)
      rw [List.length_range] at this
      unfold lenOk at hl ⊢
      rw [List.length_map]; omega
    · rw [MH.put_put, step n, if_pos hk]
    · rw [step n, if_neg (by simp [hk]), List.append_nil]
end
end DL

/-! The deep layer, part r: sorted of tuples of texts. -/
namespace DL
variable [DL.Wd] [DL.Fb]
open PySem PySem.Spec PyProof.Rows L2
section
variable {prog : Program} {w : World} {A : Around} {E : Value → Shared → Prop} {s : Shared}
end
section
variable {Ω : Wl} {τ : Sx} {X : Cx}
/-- sorted, of texts in a list or a tuple -/
def srtO : D → MH → DQ → Prop := fun d M Q => match d with
  | .tup xs => ∃ ws : List Str, xs = ws.map .str ∧ ws.length < 64 ∧ ∀ ys : List Str, ys.Perm ws → sortedS ys = true → Q (.lst (ys.map D.str)) M
  | d => strsO (fun xs M Q => xs.length < 64 ∧ ∀ ys : List Str, ys.Perm xs → sortedS ys = true → Q (.lst (ys.map D.str)) M) d M Q
end
def leS (a b : Str) : Prop := a.cps.toList ≤ b.cps.toList
end DL

/-! The deep layer, part t: comprehensions by an invariant of what changes. -/
namespace DL
variable [DL.Wd] [DL.Fb]
open PySem PySem.Spec PyProof.Rows L2
/-! an instance that is made and from then on stands still, by a promise of its own -/
section
variable {Ω : Wl} {τ : Sx} {X : Cx} {e : Expr} {es : List Expr} {tl : DA} {pos p : Pos} {vs : List Nat} {gs : List Str} {C : Str} {k : Nat} {ps : List Str} {sp spc : DSp}
def dMk (spc : DSp) (t : DA) : DE := fun σ M Q E => t σ M (fun ds M1 => spc ds M1 Q fun er M2 => E er σ M2) E
def MkOf (C : Str) (n : Nat) (sp spc : DSp) : Prop := ∀ (ds : List D) (M : MH) (Q : DQ) (E : Er → MH → Prop), spc ds M Q E → ds.length + 1 = n ∧ ∀ x, M x = none → sp (.ref x :: ds) (M.put x (.ins C [] [])) (fun v M2 => v = .non ∧ frzO (.ref x) M2 Q) E
end
/-- the range from a place on -/
def natsD (lo n : Nat) : List D := (List.range n).map fun i => .int ((lo + i : Nat) : Int)
end DL

/-! The deep layer, part u: texts joined. -/
namespace DL
variable [DL.Wd] [DL.Fb]
open PySem PySem.Spec PyProof.Rows L2
section
variable {Ω : Wl} {τ : Sx} {X : Cx} {a b c e o tg iter elt : Expr} {es rest ifs : List Expr} {da db dc de : DE} {ta tb dt : DT} {tl tr : DA} {pos p p2 apos : Pos} {x m : Str} {vs : List Nat} {gs : List Str}
def dJoin (dx dy : DE) : DE := fun σ M Q E => dx σ M (fun x M1 => ∃ a, x = .str a ∧ dy σ M1 (fun y M2 => seqD y M2 fun zs => ∃ ys : List Str, zs = ys.map .str ∧ (ys.map (·.length)).sum + ys.length * a.length ≤ 16777216 ∧ Q (.str (Txt.join a ys)) M2) E) E
end
end DL

/-! The deep layer, part v: ==, != of lists and tuples of instances with an own __eq__, all alike. -/
namespace GQN
open PySem PySem.SeqAt
open AutoSeq1 (wpAny_loadPart')
open MeetsSeq MeetsSeq2 MeetsSeq3 SeqRoads2 GQ
section
variable {prog : Program} {w : World} {A : Around} {R : Result → Shared → Prop}
end
section
variable {prog : Program} {w : World} {A : Around} {E : Value → Shared → Prop} {s : Shared}
end
end GQN
namespace DL
variable [DL.Wd] [DL.Fb]
open PySem PySem.Spec PyProof.Rows L2
section
variable {Ω : Wl} {τ : Sx} {X : Cx} {C : Str} {k : Nat} {sp : DSp}
/-- two values of an own class, alike by its __eq__ -/
def eqOne (C : Str) (sp : DSp) (M : MH) (d e : D) : Prop := insD C d M fun _ _ => insD C e M fun _ _ => sp [d, e] M (fun v M2 => v = .bl true ∧ M2 = M) fun _ _ => False
def eqPairs (C : Str) (sp : DSp) (M : MH) : List D → List D → Prop
  | [], [] => True
  | d :: ds, e :: es => eqOne C sp M d e ∧ eqPairs C sp M ds es
  | _, _ => False
theorem eqPairs.len {M : MH} : ∀ {ds es : List D}, eqPairs C sp M ds es → ds.length = es.length
  | [], [], _ => rfl
  | _ :: _, _ :: _, h => congrArg (· + 1) (eqPairs.len h.2)
  | [], _ :: _, h => h.elim
  | _ :: _, [], h => h.elim
theorem eqPairs.at {M : MH} : ∀ {ds es : List D} {i : Nat} {d e : D}, eqPairs C sp M ds es → ds[i]? = some d → es[i]? = some e → eqOne C sp M d e
  | [], _, _, _, _, _, h, _ => by simp at h
  | _ :: _, [], _, _, _, h, _, _ => h.elim
  | _ :: _, _ :: _, 0, _, _, h, h1, h2 => by simp at h1 h2; subst h1; subst h2; exact h.1
  | _ :: _, _ :: _, i + 1, _, _, h, h1, h2 => eqPairs.at (i := i) h.2 (by simpa using h1) (by simpa using h2)
def eqOwnL (C : Str) (sp : DSp) (neg : Bool) : Op2 := fun x y M Q => match x, y with
  | .lst xs, .lst ys => eqPairs C sp M xs ys ∧ Q (.bl (!neg)) M
  | .tup xs, .tup ys => eqPairs C sp M xs ys ∧ Q (.bl (!neg)) M
  | _, _ => False
end
end DL

/-! The deep layer, part w: {k: v} of one pair, dict(a list of pairs). -/
namespace DL
variable [DL.Wd] [DL.Fb]
open PySem PySem.Spec PyProof.Rows L2
section
variable {Ω : Wl} {τ : Sx} {X : Cx} {a b c e o f kx vx : Expr} {da db dc de dv dk : DE} {pos p p2 : Pos}
/-- {k: v} -/
def dDk1 (dk dv : DE) : DE := fun σ M Q E => ∀ p, M p = none → dk σ (M.put p (dkO [])) (fun x M1 => dv σ M1 (fun y M2 => ∃ k, keyD x = some k ∧ M2 p = some (dkO []) ∧ Q (.ref p) (M2.put p (dkO [(k, y)]))) E) E
/-- a list of pairs, told as a table -/
def prsD : List D → Option TabK
  | [] => some []
  | .tup [x, y] :: r => match keyD x, prsD r with
    | some k, some t => some ((k, y) :: t)
    | _, _ => none
  | _ => none
/-- dict(a list of pairs) -/
def dicPO : D → MH → DQ → Prop := fun d M Q => lstD d M fun xs => ∃ t, prsD xs = some t ∧ ∀ p, M p = none → Q (.ref p) (M.put p (dkO (mergeD [] t)))
end
end DL

/-! The deep layer, part x: dicts whose keys are tuples that stand still. -/
namespace DL
variable [DL.Wd] [DL.Fb]
open PySem PySem.Spec PyProof.Rows L2
abbrev kvx (xs : List (List Key × Addr × V)) : List (List Key × V) := xs.map fun x => (x.1, x.2.2)
theorem XZ.val {xs : List (List Key × Addr × V)} {zs : List (List Key × Addr × Value)} (r : XZ xs zs) (k : List Key) : RelO (valV (kvx xs) k) ((atKey zs k).map (·.2)) := by
  unfold XZ at r
  induction r with
  | nil => exact True.intro
  | @cons p q ps qs h t ih =>
    obtain ⟨h1, _, h2⟩ := h
    by_cases e : p.1 = k
    · have e' : q.1 = k := h1.symm.trans e
      have b : atKey (q :: qs) k = some q.2 := by simp [atKey, List.find?_cons, e']
      have b2 : valV (kvx (p :: ps)) k = some p.2.2 := valV_pos (p := (p.1, p.2.2)) e
      rw [b2, b]; exact h2
    · have e' : ¬ q.1 = k := fun z => e (h1.trans z)
      have b : atKey (q :: qs) k = atKey qs k := by simp [atKey, List.find?_cons, e']
      have b2 : valV (kvx (p :: ps)) k = valV (kvx ps) k := valV_neg (p := (p.1, p.2.2)) e
      rw [b2, b]; exact ih
def putX (xs : List (List Key × Addr × V)) (k : List Key) (b : Addr) (v : V) : List (List Key × Addr × V) := if (valV (kvx xs) k).isSome then xs.map (fun x => if x.1 = k then (x.1, x.2.1, v) else x) else xs ++ [(k, b, v)]
theorem XZ.repl {xs : List (List Key × Addr × V)} {zs : List (List Key × Addr × Value)} (r : XZ xs zs) (k : List Key) {v : V} {u : Value} (ry : RelV v u) : XZ (xs.map fun x => if x.1 = k then (x.1, x.2.1, v) else x) (zs.map (putAt k u)) := by
  unfold XZ at r ⊢
  induction r with
  | nil => exact .nil
  | @cons p q ps qs h t ih =>
    rw [List.map_cons, List.map_cons]
    refine .cons ?_ ih
    obtain ⟨h1, h2, h3⟩ := h
    unfold putAt
    by_cases e : p.1 = k
    · rw [if_pos e, if_pos (h1.symm.trans e)]; exact ⟨h1, h2, ry⟩
    · rw [if_neg e, if_neg (fun z => e (h1.trans z))]; exact ⟨h1, h2, h3⟩
theorem XZ.put {xs : List (List Key × Addr × V)} {zs : List (List Key × Addr × Value)} (r : XZ xs zs) (k : List Key) (b : Addr) {v : V} {u : Value} (ry : RelV v u) : XZ (putX xs k b v) (storedH zs k b u) := by
  have e : (valV (kvx xs) k).isSome = (atKey zs k).isSome := by rw [(r.val k).isSome_eq, Option.isSome_map]
  unfold putX storedH
  rw [e]
  by_cases q : (atKey zs k).isSome = true
  · rw [if_pos q, if_pos q]; exact r.repl k ry
  · rw [if_neg q, if_neg q]; exact Paired.snoc r ⟨rfl, rfl, ry⟩
section
variable {X : Cx} {pins : List (Addr × Obj)} {σ : L2.St} {H : Hp} {s : Shared} {a b : Addr} {A : Around} {E : Value → Shared → Prop} {xs : List (List Key × Addr × V)} {k : List Key}
end
/-! ### the readings -/
/-- what stands at a key that is a tuple: R of it -/
def dicT (x y : D) (M : MH) (R : Option D → Prop) : Prop := match x with
  | .ref a => ∃ t, M a = some (dtO t) ∧ ∃ k, tkeyD y = some k ∧ R (dGet t k)
  | _ => False
section
variable {Ω : Wl} {τ : Sx} {X : Cx} {a b c e o f kx vx : Expr} {da db dc de dv dk : DE} {pos p p2 pos' : Pos}
def dinT (neg : Bool) : Op2 := fun y x M Q => dicT x y M fun o => Q (.bl (if neg then !o.isSome else o.isSome)) M
def tgetOp : Op2 := fun x y M Q => dicT x y M fun o => ∃ d, o = some d ∧ Q d M
def tputD (x y v : D) (M : MH) (R : MH → Prop) : Prop := match x with
  | .ref a => ∃ t, M a = some (dtO t) ∧ ∃ k, tkeyD y = some k ∧ lenOk (t.length + 1) ∧ R (M.put a (dtO (dPut t k v)))
  | _ => False
def tsPut (dv da db : DE) : DS := fun D E σ M => dv σ M (fun v M1 => da σ M1 (fun x M2 => db σ M2 (fun y M3 => tputD x y v M3 fun M4 => D.nx σ M4) E) E) E
/-- {k: v}, k a tuple -/
def dDt1 (dk dv : DE) : DE := fun σ M Q E => ∀ p, M p = none → dk σ (M.put p (dtO [])) (fun x M1 => dv σ M1 (fun y M2 => ∃ k, tkeyD x = some k ∧ M2 p = some (dtO []) ∧ Q (.ref p) (M2.put p (dtO [(k, y)]))) E) E
end
end DL

/-! The deep layer, part y: tuple(range(..)). -/
namespace DL
variable [DL.Wd] [DL.Fb]
open PySem PySem.Spec PyProof.Rows L2
section
variable {X : Cx} {e : Expr} {te : L2.St → Hp → (Int → Int → Hp → Prop) → Prop}
def tTupRgF (te : L2.St → Hp → (Int → Int → Hp → Prop) → Prop) : TE := fun σ H Q => te σ H fun a b H1 => RgOk a b ∧ tupN Q H1 (rgV a b)
end
section
variable {Ω : Wl} {τ : Sx} {X : Cx} {a b : Expr} {gs : List Str} {vs : List Nat} {da db : DE} {p pos : Pos}
def dTupleRg2 (da db : DE) : DE := fun σ M Q E => da σ M (fun x M1 => db σ M1 (fun y M2 => match x, y with
  | .int a, .int b => (-100000 ≤ a ∧ a ≤ 100000 ∧ -100000 ≤ b ∧ b ≤ 100000) ∧ Q (.tup (rangeD a (b - a).toNat)) M2
  | _, _ => False) E) E
end
end DL

/-! The deep layer, part z: dict(a list of pairs) whose keys are tuples. -/
namespace DL
variable [DL.Wd] [DL.Fb]
open PySem PySem.Spec PyProof.Rows L2
/-- a list of pairs whose firsts are tuples, told as a table -/
def prsT : List D → Option TabT
  | [] => some []
  | .tup [x, y] :: r => match tkeyD x, prsT r with
    | some k, some t => some ((k, y) :: t)
    | _, _ => none
  | _ => none
def mergeT (t s : TabT) : TabT := s.foldl (fun acc e => dPut acc e.1 e.2) t
def putAllX (xs more : List (List Key × Addr × V)) : List (List Key × Addr × V) := more.foldl (fun acc p => putX acc p.1 p.2.1 p.2.2) xs
theorem XZ.all {xs : List (List Key × Addr × V)} {zs : List (List Key × Addr × Value)} (r : XZ xs zs) {more : List (List Key × Addr × V)} {mz : List (List Key × Addr × Value)} (m : XZ more mz) : XZ (putAllX xs more) (storedAllH zs mz) := by
  unfold XZ at m
  induction m generalizing xs zs with
  | nil => exact r
  | @cons p q ps qs h t ih =>
    obtain ⟨h1, h2, h3⟩ := h
    have := r.put p.1 p.2.1 h3
    rw [h1, h2] at this
    have := ih this
    unfold putAllX storedAllH at this ⊢
    rw [List.foldl_cons, List.foldl_cons, h1, h2]
    exact this
section
variable {Ω : Wl} {τ : Sx} {X : Cx}
/-- dict(xs) of pairs whose firsts are tuples -/
def dicPT : D → MH → DQ → Prop := fun d M Q => lstD d M fun xs => ∃ t, prsT xs = some t ∧ ∀ p, M p = none → Q (.ref p) (M.put p (dtO (mergeT [] t)))
/-- len(d), d with tuples as keys -/
def lenTO : D → MH → DQ → Prop := fun d M Q => match d with
  | .ref a => ∃ t, M a = some (dtO t) ∧ Q (.int t.length) M
  | _ => False
end
end DL

/-! Things and rows as data. -/
namespace DL
variable [DL.Wd] [DL.Fb]
open PySem PySem.Spec PyProof.Rows L2
def rowD (ws : List Str) : D := .obj "Row" ["line"] [.tup (ws.map .str)]
def lettersL : List Nat := (("abcdefghijklmnopqrstuvwxyz" : Str)).cps.toList
def goodW (w : Str) : Prop := 0 < w.length ∧ w.length < 9 ∧ ∀ c ∈ w.cps.toList, c ∈ lettersL
structure GoodT (ws : List Str) : Prop where
  some : 0 < ws.length
  few : ws.length ≤ 40
  good : ∀ w ∈ ws, goodW w
  nd : ws.Nodup
theorem goodW.ok {w : Str} (h : goodW w) : PyData.strOk w = true := by
  unfold PyData.strOk
  rw [Array.all_eq_true_iff_forall_mem]
  intro c hc
  have h1 := h.2.2 c (Array.mem_toList_iff.mpr hc)
  have h2 : ∀ c ∈ lettersL, c < 0x110000 := by decide +kernel
  simpa using h2 c h1
/-- the words between a and b turned round -/
def turnW (ws : List Str) (a b : Nat) : List Str := ws.take a ++ ((ws.drop a).take (b - a)).reverse ++ ws.drop b
theorem GoodT.perm {ws vs : List Str} (G : GoodT ws) (h : vs.Perm ws) : GoodT vs :=
  ⟨by rw [h.length_eq]; exact G.some, by rw [h.length_eq]; exact G.few, fun w hw => G.good w (h.mem_iff.mp hw), h.nodup_iff.mpr G.nd⟩
theorem okN_bl {n : Nat} {b : Bool} : okN n (.bl b) = True := by cases n <;> simp [okN]
theorem okN_int {n : Nat} {b : Int} : okN n (.int b) = True := by cases n <;> simp [okN]
theorem okN_non {n : Nat} : okN n .non = True := by cases n <;> simp [okN]
theorem rowD_inj {a b : List Str} : (rowD a = rowD b) = (a = b) := by
  unfold rowD
  apply propext
  constructor
  · intro h
    simp only [D.obj.injEq, List.cons.injEq, D.tup.injEq, true_and, and_true] at h
    exact (List.map_inj_right (fun x y h => by cases h; rfl)).mp h
  · rintro rfl; rfl
theorem ins_row {ws : List Str} {M : MH} {R : List Str → List D → Prop} : insD "Row" (rowD ws) M R = R ["line"] [.tup (ws.map .str)] := by
  unfold insD rowD; simp
theorem isC_row {ws : List Str} {M : MH} : isC "Row" (rowD ws) M = some true := by
  unfold isC rowD; simp
theorem row_ne {ws : List Str} : (rowD ws = .non) = False := by unfold rowD; simp
theorem ts_NoneType_bool : tySub "NoneType" "bool" = false := by decide
theorem ts_NoneType_int : tySub "NoneType" "int" = false := by decide
theorem ts_NoneType_str : tySub "NoneType" "str" = false := by decide
theorem ts_NoneType_tuple : tySub "NoneType" "tuple" = false := by decide
theorem ts_NoneType_list : tySub "NoneType" "list" = false := by decide
theorem ts_bool_bool : tySub "bool" "bool" = true := by decide
theorem ts_bool_int : tySub "bool" "int" = true := by decide
theorem ts_bool_str : tySub "bool" "str" = false := by decide
theorem ts_bool_tuple : tySub "bool" "tuple" = false := by decide
theorem ts_bool_list : tySub "bool" "list" = false := by decide
theorem ts_int_bool : tySub "int" "bool" = false := by decide
theorem ts_int_int : tySub "int" "int" = true := by decide
theorem ts_int_str : tySub "int" "str" = false := by decide
theorem ts_int_tuple : tySub "int" "tuple" = false := by decide
theorem ts_int_list : tySub "int" "list" = false := by decide
theorem ts_str_bool : tySub "str" "bool" = false := by decide
theorem ts_str_int : tySub "str" "int" = false := by decide
theorem ts_str_str : tySub "str" "str" = true := by decide
theorem ts_str_tuple : tySub "str" "tuple" = false := by decide
theorem ts_str_list : tySub "str" "list" = false := by decide
theorem ts_tuple_bool : tySub "tuple" "bool" = false := by decide
theorem ts_tuple_int : tySub "tuple" "int" = false := by decide
theorem ts_tuple_str : tySub "tuple" "str" = false := by decide
theorem ts_tuple_tuple : tySub "tuple" "tuple" = true := by decide
theorem ts_tuple_list : tySub "tuple" "list" = false := by decide
theorem ts_list_bool : tySub "list" "bool" = false := by decide
theorem ts_list_int : tySub "list" "int" = false := by decide
theorem ts_list_str : tySub "list" "str" = false := by decide
theorem ts_list_tuple : tySub "list" "tuple" = false := by decide
theorem ts_list_list : tySub "list" "list" = true := by decide
theorem ts_dict_bool : tySub "dict" "bool" = false := by decide
theorem ts_dict_int : tySub "dict" "int" = false := by decide
theorem ts_dict_str : tySub "dict" "str" = false := by decide
theorem ts_dict_tuple : tySub "dict" "tuple" = false := by decide
theorem ts_dict_list : tySub "dict" "list" = false := by decide
theorem strs_inj {a b : List Str} : (a.map D.str = b.map D.str) = (a = b) := propext ⟨fun h => (List.map_inj_right (fun x y h => by cases h; rfl)).mp h, fun h => by rw [h]⟩
theorem ints_inj {a b : List Int} : (a.map D.int = b.map D.int) = (a = b) := propext ⟨fun h => (List.map_inj_right (fun x y h => by cases h; rfl)).mp h, fun h => by rw [h]⟩
theorem ex_ins {C : Str} {ns : List Str} {fs : List D} {P : Str → List Str → List D → Prop} : (∃ C' ns' fs', MO.ins C ns fs = .ins C' ns' fs' ∧ P C' ns' fs') = P C ns fs := by
  apply propext
  constructor
  · rintro ⟨_, _, _, h, p⟩
    cases h; exact p
  · intro h; exact ⟨_, _, _, rfl, h⟩
theorem ex_ins2 {C : Str} {ns : List Str} {fs : List D} {P : List Str → List D → Prop} : (∃ ns' fs', MO.ins C ns fs = .ins C ns' fs' ∧ P ns' fs') = P ns fs := by
  apply propext
  constructor
  · rintro ⟨_, _, h, p⟩
    cases h; exact p
  · intro h; exact ⟨_, _, rfl, h⟩
section
variable {C C' : Str} {ns : List Str} {fs xs : List D} {M : MH} {R : List Str → List D → Prop} {a : Addr} {b : Bool} {i : Int} {s : Str}
theorem insD_obj : insD C (.obj C ns fs) M R = R ns fs := by unfold insD; simp
theorem insD_ref : insD C (.ref a) M R = ∃ ns fs, M a = some (.ins C ns fs) ∧ R ns fs := rfl
theorem isC_obj : isC C (.obj C ns fs) M = some true := by unfold isC; simp
theorem isC_ref : isC C (.ref a) M = match M a with
    | some (.ins C' _ _) => if C' = C then some true else none
    | some (.lst _) => some false
    | _ => none := rfl
theorem isC_non : isC C .non M = some false := rfl
theorem isC_bl : isC C (.bl b) M = some false := rfl
theorem isC_int : isC C (.int i) M = some false := rfl
theorem isC_str : isC C (.str s) M = some false := rfl
theorem isC_tup : isC C (.tup xs) M = some false := rfl
theorem isC_lst : isC C (.lst xs) M = some false := rfl
end
def isI : D → Bool
  | .int _ => true
  | _ => false
def btw (d : D) (a b : Int) : Bool := match d with
  | .int i => decide (a ≤ i) && decide (i ≤ b)
  | _ => false
end DL

/-! Plain laws: rings of a map of 0 .. N - 1 to itself; how many there are when two places are exchanged. -/
namespace DL.W
variable [DL.Wd] [DL.Fb]
def itr (f : Nat → Nat) : Nat → Nat → Nat
  | 0, i => i
  | k + 1, i => f (itr f k i)
theorem itr_add (f : Nat → Nat) (a : Nat) : ∀ b i, itr f (a + b) i = itr f b (itr f a i)
  | 0, _ => rfl
  | b + 1, i => by
    show f (itr f (a + b) i) = f (itr f b (itr f a i))
    rw [itr_add f a b i]
theorem itr_shift (f : Nat → Nat) (k i : Nat) : itr f (k + 1) i = itr f k (f i) := by
  rw [Nat.add_comm, itr_add]; rfl
structure PermN (N : Nat) (f : Nat → Nat) : Prop where
  lt : ∀ i, i < N → f i < N
  inj : ∀ i j, i < N → j < N → f i = f j → i = j
theorem PermN.itr_lt {N f} (h : PermN N f) {i : Nat} (hi : i < N) : ∀ k, itr f k i < N
  | 0 => hi
  | k + 1 => h.lt _ (h.itr_lt hi k)
theorem PermN.itr_inj {N f} (h : PermN N f) {i j : Nat} (hi : i < N) (hj : j < N) : ∀ k, itr f k i = itr f k j → i = j
  | 0, e => e
  | k + 1, e => h.itr_inj hi hj k (h.inj _ _ (h.itr_lt hi k) (h.itr_lt hj k) e)
theorem nodup_sub_len {α : Type} [DecidableEq α] : ∀ {l l' : List α}, l.Nodup → (∀ x ∈ l, x ∈ l') → l.length ≤ l'.length
  | [], _, _, _ => Nat.zero_le _
  | a :: l, l', nd, h => by
    rw [List.nodup_cons] at nd
    have ha : a ∈ l' := h a List.mem_cons_self
    have ih := nodup_sub_len (l := l) (l' := l'.erase a) nd.2 fun x hx => by
      have hne : x ≠ a := fun e => nd.1 (e ▸ hx)
      exact (List.mem_erase_of_ne hne).mpr (h x (List.mem_cons_of_mem _ hx))
    rw [List.length_erase_of_mem ha] at ih
    have : 0 < l'.length := List.length_pos_of_mem ha
    rw [List.length_cons]; omega
theorem nodup_map_of {α β : Type} {g : α → β} : ∀ {l : List α}, l.Nodup → (∀ x ∈ l, ∀ y ∈ l, g x = g y → x = y) → (l.map g).Nodup
  | [], _, _ => List.nodup_nil
  | a :: l, nd, h => by
    rw [List.nodup_cons] at nd
    rw [List.map_cons, List.nodup_cons]
    refine ⟨fun hm => ?_, nodup_map_of nd.2 fun x hx y hy => h x (List.mem_cons_of_mem _ hx) y (List.mem_cons_of_mem _ hy)⟩
    obtain ⟨b, hb, e⟩ := List.mem_map.mp hm
    have := h b (List.mem_cons_of_mem _ hb) a List.mem_cons_self e
    exact nd.1 (this ▸ hb)
theorem PermN.period {N f} (h : PermN N f) {i : Nat} (hi : i < N) : ∃ p, 0 < p ∧ p ≤ N ∧ itr f p i = i := by
  by_cases H : ∃ a b, a < b ∧ b ≤ N ∧ itr f a i = itr f b i
  · obtain ⟨a, b, hab, hb, e⟩ := H
    refine ⟨b - a, by omega, by omega, ?_⟩
    have e2 : itr f b i = itr f a (itr f (b - a) i) := by rw [← itr_add]; congr 1; omega
    rw [e2] at e
    exact (h.itr_inj hi (h.itr_lt hi _) a e).symm
  · exfalso
    have nd : ((List.range (N + 1)).map fun k => itr f k i).Nodup := nodup_map_of List.nodup_range fun x hx y hy e => by
      rw [List.mem_range] at hx hy
      rcases Nat.lt_trichotomy x y with l | l | l
      · exact absurd ⟨x, y, l, by omega, e⟩ H
      · exact l
      · exact absurd ⟨y, x, l, by omega, e.symm⟩ H
    have := nodup_sub_len (l' := List.range N) nd fun x hx => by
      obtain ⟨k, _, rfl⟩ := List.mem_map.mp hx
      exact List.mem_range.mpr (h.itr_lt hi k)
    simp only [List.length_map, List.length_range] at this
    omega
theorem PermN.surj {N f} (h : PermN N f) {j : Nat} (hj : j < N) : ∃ i, i < N ∧ f i = j := by
  obtain ⟨p, hp, _, e⟩ := h.period hj
  obtain ⟨k, rfl⟩ : ∃ k, p = k + 1 := ⟨p - 1, by omega⟩
  exact ⟨itr f k j, h.itr_lt hj k, e⟩
def conn (f : Nat → Nat) (i j : Nat) : Prop := ∃ k, itr f k i = j
theorem conn.refl {f : Nat → Nat} (i : Nat) : conn f i i := ⟨0, rfl⟩
theorem conn.trans {f : Nat → Nat} {i j k : Nat} (a : conn f i j) (b : conn f j k) : conn f i k := by
  obtain ⟨m, rfl⟩ := a
  obtain ⟨n, rfl⟩ := b
  exact ⟨m + n, itr_add f m n i⟩
theorem itr_mul {f : Nat → Nat} {p i : Nat} (e : itr f p i = i) : ∀ m, itr f (p * m) i = i
  | 0 => rfl
  | m + 1 => by rw [Nat.mul_succ, itr_add, itr_mul e m, e]
theorem conn.symm {N f} (h : PermN N f) {i j : Nat} (hi : i < N) (c : conn f i j) : conn f j i := by
  obtain ⟨k, rfl⟩ := c
  obtain ⟨p, hp, _, e⟩ := h.period hi
  refine ⟨p * (k + 1) - k, ?_⟩
  rw [← itr_add]
  have : k + (p * (k + 1) - k) = p * (k + 1) := by
    have : k + 1 ≤ p * (k + 1) := Nat.le_mul_of_pos_left _ hp
    omega
  rw [this, itr_mul e]
theorem conn.lt {N f} (h : PermN N f) {i j : Nat} (hi : i < N) (c : conn f i j) : j < N := by
  obtain ⟨k, rfl⟩ := c; exact h.itr_lt hi k
theorem PermN.congr {N f g} (h : PermN N f) (e : ∀ i, i < N → f i = g i) : PermN N g :=
  ⟨fun i hi => e i hi ▸ h.lt i hi, fun i j hi hj q => h.inj i j hi hj (by rw [e i hi, e j hj, q])⟩
/-- one of each ring -/
structure Reps (N : Nat) (f : Nat → Nat) (l : List Nat) : Prop where
  lt : ∀ i ∈ l, i < N
  ne : l.Pairwise fun i j => ¬ conn f i j
  all : ∀ i, i < N → ∃ j ∈ l, conn f j i
theorem reps_le {N : Nat} {f : Nat → Nat} {l l' : List Nat} (h : PermN N f) (a : ∀ i ∈ l, i < N) (b : l.Pairwise fun i j => ¬ conn f i j) (c : ∀ i, i < N → ∃ j ∈ l', conn f j i) (d : ∀ i ∈ l', i < N) : l.length ≤ l'.length := by
  let g : Nat → Nat := fun i => if hi : i < N then Classical.choose (c i hi) else 0
  have hg : ∀ i, i < N → g i ∈ l' ∧ conn f (g i) i := fun i hi => by
    have : g i = Classical.choose (c i hi) := dif_pos hi
    rw [this]
    exact Classical.choose_spec (c i hi)
  have nd : (l.map g).Nodup := by
    rw [List.nodup_iff_pairwise_ne, List.pairwise_map]
    refine List.Pairwise.imp_of_mem (fun {i j} hi hj hn e => hn ?_) b
    have h1 := hg i (a i hi)
    have h2 := hg j (a j hj)
    rw [← e] at h2
    exact (h1.2.symm h (d _ h1.1)).trans h2.2
  have := nodup_sub_len (l' := l') nd fun x hx => by
    obtain ⟨i, hi, rfl⟩ := List.mem_map.mp hx
    exact (hg i (a i hi)).1
  rwa [List.length_map] at this
theorem reps_len {N : Nat} {f : Nat → Nat} {l l' : List Nat} (h : PermN N f) (a : Reps N f l) (b : Reps N f l') : l.length = l'.length :=
  Nat.le_antisymm (reps_le h a.lt a.ne b.all b.lt) (reps_le h b.lt b.ne a.all a.lt)

/-! the greatest one taken out -/
def contr (z : Nat) (f : Nat → Nat) (x : Nat) : Nat := if f x = z then f z else f x
def cyc : Nat → (Nat → Nat) → Nat
  | 0, _ => 0
  | N + 1, f => cyc N (contr N f) + if f N = N then 1 else 0
theorem cyc_congr : ∀ {N : Nat} {f g : Nat → Nat}, (∀ i, i < N → f i = g i) → cyc N f = cyc N g
  | 0, _, _, _ => rfl
  | N + 1, f, g, e => by
    have h : ∀ i, i < N → contr N f i = contr N g i := fun i hi => by
      unfold contr
      rw [e i (by omega), e N (by omega)]
    rw [cyc, cyc, cyc_congr h, e N (by omega)]
theorem PermN.contr {N f} (h : PermN (N + 1) f) : PermN N (contr N f) := by
  have key : ∀ i, i < N → f i = N → f N < N := fun i hi e => by
    have h1 := h.lt N (by omega)
    have h2 : f N ≠ N := fun e2 => by
      have := h.inj i N (by omega) (by omega) (by rw [e, e2]); omega
    omega
  refine ⟨fun i hi => ?_, fun i j hi hj e => ?_⟩
  · unfold W.contr
    by_cases e : f i = N
    · rw [if_pos e]; exact key i hi e
    · rw [if_neg e]; have := h.lt i (by omega); omega
  · unfold W.contr at e
    by_cases e1 : f i = N
    · by_cases e2 : f j = N
      · exact h.inj i j (by omega) (by omega) (by rw [e1, e2])
      · rw [if_pos e1, if_neg e2] at e
        have := h.inj N j (by omega) (by omega) e; omega
    · by_cases e2 : f j = N
      · rw [if_neg e1, if_pos e2] at e
        have := h.inj i N (by omega) (by omega) e; omega
      · rw [if_neg e1, if_neg e2] at e
        exact h.inj i j (by omega) (by omega) e
theorem conn_contr_of {N f} (h : PermN (N + 1) f) {i j : Nat} (hj : j < N) : ∀ k, ∀ i, i < N → itr f k i = j → conn (contr N f) i j := by
  intro k
  induction k using Nat.strongRecOn with
  | ind k ih =>
    intro i hi e
    cases k with
    | zero => exact ⟨0, e⟩
    | succ k =>
      rw [itr_shift] at e
      by_cases hN : f i = N
      · rw [hN] at e
        cases k with
        | zero => simp only [itr] at e; omega
        | succ k =>
          rw [itr_shift] at e
          have hlt : f N < N := by
            have h1 := h.lt N (by omega)
            have h2 : f N ≠ N := fun e2 => by
              have := h.inj i N (by omega) (by omega) (by rw [hN, e2]); omega
            omega
          have h1 := ih k (by omega) (f N) hlt e
          have h2 : conn (contr N f) i (f N) := ⟨1, by show contr N f i = _; unfold contr; rw [if_pos hN]⟩
          exact h2.trans h1
      · have hlt : f i < N := by have := h.lt i (by omega); omega
        have h1 := ih k (by omega) (f i) hlt e
        have h2 : conn (contr N f) i (f i) := ⟨1, by show contr N f i = _; unfold contr; rw [if_neg hN]⟩
        exact h2.trans h1
theorem conn_of_contr {N : Nat} {f : Nat → Nat} : ∀ k i : Nat, conn f i (itr (contr N f) k i)
  | 0, i => .refl i
  | k + 1, i => by
    refine conn.trans (conn_of_contr (N := N) k i) ?_
    show conn f (itr (contr N f) k i) (contr N f (itr (contr N f) k i))
    generalize itr (contr N f) k i = x
    unfold contr
    by_cases e : f x = N
    · rw [if_pos e]; exact ⟨2, by show f (f x) = _; rw [e]⟩
    · rw [if_neg e]; exact ⟨1, rfl⟩
theorem conn_contr {N f} (h : PermN (N + 1) f) {i j : Nat} (hi : i < N) (hj : j < N) : conn (contr N f) i j ↔ conn f i j :=
  ⟨fun ⟨k, e⟩ => e ▸ conn_of_contr k i, fun ⟨k, e⟩ => conn_contr_of h (i := i) hj k i hi e⟩
theorem reps_ex : ∀ {N f}, PermN N f → ∃ l, Reps N f l ∧ l.length = cyc N f
  | 0, f, _ => ⟨[], ⟨fun _ h => (List.not_mem_nil h).elim, .nil, fun i h => absurd h (Nat.not_lt_zero i)⟩, rfl⟩
  | N + 1, f, h => by
    obtain ⟨l, r, e⟩ := reps_ex h.contr
    by_cases hN : f N = N
    · have stay : ∀ k, itr f k N = N := fun k => by
        induction k with
        | zero => rfl
        | succ k ih => show f (itr f k N) = N; rw [ih, hN]
      refine ⟨N :: l, ⟨fun i hi => ?_, ?_, fun i hi => ?_⟩, by rw [cyc, if_pos hN, List.length_cons, e]⟩
      · rcases List.mem_cons.mp hi with rfl | hi
        · omega
        · have := r.lt i hi; omega
      · rw [List.pairwise_cons]
        refine ⟨fun j hj => fun ⟨k, q⟩ => ?_, ?_⟩
        · rw [stay] at q; have := r.lt j hj; omega
        · exact List.Pairwise.imp_of_mem (fun {i j} hi hj hn c => hn ((conn_contr h (r.lt i hi) (r.lt j hj)).mpr c)) r.ne
      · by_cases e2 : i = N
        · exact ⟨N, List.mem_cons_self, e2 ▸ .refl _⟩
        · obtain ⟨j, hj, c⟩ := r.all i (by omega)
          exact ⟨j, List.mem_cons_of_mem _ hj, (conn_contr h (r.lt j hj) (by omega)).mp c⟩
    · refine ⟨l, ⟨fun i hi => ?_, ?_, fun i hi => ?_⟩, by rw [cyc, if_neg hN, Nat.add_zero, e]⟩
      · have := r.lt i hi; omega
      · exact List.Pairwise.imp_of_mem (fun {i j} hi hj hn c => hn ((conn_contr h (r.lt i hi) (r.lt j hj)).mpr c)) r.ne
      · by_cases e2 : i = N
        · subst e2
          have hlt : f i < i := by have := h.lt i (by omega); omega
          obtain ⟨j, hj, c⟩ := r.all (f i) hlt
          refine ⟨j, hj, ((conn_contr h (r.lt j hj) hlt).mp c).trans (conn.symm h (by omega) ⟨1, rfl⟩)⟩
        · obtain ⟨j, hj, c⟩ := r.all i (by omega)
          exact ⟨j, hj, (conn_contr h (r.lt j hj) (by omega)).mp c⟩
theorem Reps.cyc {N : Nat} {f : Nat → Nat} {l : List Nat} (h : PermN N f) (r : Reps N f l) : l.length = cyc N f := by
  obtain ⟨l', r', e⟩ := reps_ex h
  rw [reps_len h r r', e]
theorem cyc_le {N f} (h : PermN N f) : cyc N f ≤ N := by
  obtain ⟨l, r, e⟩ := reps_ex h
  have nd : l.Nodup := List.Pairwise.imp (fun {i j} hn (e : i = j) => hn (e ▸ conn.refl i)) r.ne
  have := nodup_sub_len (l' := List.range N) nd fun x hx => List.mem_range.mpr (r.lt x hx)
  rw [List.length_range] at this
  omega
/-! two places exchanged -/
def sw (f : Nat → Nat) (a c x : Nat) : Nat := if x = a then f c else if x = c then f a else f x
theorem sw_comm {f : Nat → Nat} {a c : Nat} (h : a ≠ c) : sw f a c = sw f c a := by
  funext x
  unfold sw
  by_cases h1 : x = a
  · subst h1; rw [if_pos rfl, if_neg h, if_pos rfl]
  · rw [if_neg h1]
    by_cases h2 : x = c
    · rw [if_pos h2, if_pos h2]
    · rw [if_neg h2, if_neg h2, if_neg h1]
theorem PermN.sw {N f} (h : PermN N f) {a c : Nat} (ha : a < N) (hc : c < N) : PermN N (sw f a c) := by
  refine ⟨fun i hi => ?_, fun i j hi hj e => ?_⟩
  · unfold W.sw; split
    · exact h.lt c hc
    · split
      · exact h.lt a ha
      · exact h.lt i hi
  · have inv : ∀ x, x < N → ∃ y, y < N ∧ W.sw f a c x = f y ∧ x = if y = a then c else if y = c then a else y := fun x hx => by
      unfold W.sw
      by_cases h1 : x = a
      · rw [if_pos h1]
        refine ⟨c, hc, rfl, ?_⟩
        by_cases h2 : c = a
        · rw [if_pos h2]; rw [h1, h2]
        · rw [if_neg h2, if_pos rfl, h1]
      · rw [if_neg h1]
        by_cases h2 : x = c
        · rw [if_pos h2]; exact ⟨a, ha, rfl, by rw [if_pos rfl, h2]⟩
        · rw [if_neg h2]; exact ⟨x, hx, rfl, by rw [if_neg h1, if_neg h2]⟩
    obtain ⟨y, hy, e1, e2⟩ := inv i hi
    obtain ⟨z, hz, e3, e4⟩ := inv j hj
    rw [e1, e3] at e
    have := h.inj y z hy hz e
    rw [e2, e4, this]
theorem contr_sw {N f} {a c : Nat} (ha : a < N) (hc : c < N) : ∀ x, x < N → contr N (sw f a c) x = sw (contr N f) a c x := fun x hx => by
  have eN : sw f a c N = f N := by unfold sw; rw [if_neg (by omega), if_neg (by omega)]
  unfold contr
  rw [eN]
  unfold sw
  by_cases h1 : x = a
  · rw [if_pos h1, if_pos h1]
  · rw [if_neg h1, if_neg h1]
    by_cases h2 : x = c
    · rw [if_pos h2, if_pos h2]
    · rw [if_neg h2, if_neg h2]
/-- the cases with the greatest place among both -/
theorem sw_top {N f} (h : PermN (N + 1) f) {a : Nat} (ha : a < N) :
    (f N = N ∧ cyc (N + 1) f = cyc (N + 1) (sw f a N) + 1) ∨ (f a = N ∧ cyc (N + 1) (sw f a N) = cyc (N + 1) f + 1) ∨
    ∃ x0, x0 < N ∧ x0 ≠ a ∧ contr N f x0 = f N ∧ f N ≠ N ∧ cyc (N + 1) f = cyc N (contr N f) ∧ cyc (N + 1) (sw f a N) = cyc N (sw (contr N f) a x0) := by
  have ga : sw f a N a = f N := by unfold sw; rw [if_pos rfl]
  have gN : sw f a N N = f a := by unfold sw; rw [if_neg (by omega), if_pos rfl]
  have gx : ∀ x, x ≠ a → x < N → sw f a N x = f x := fun x h1 h2 => by unfold sw; rw [if_neg h1, if_neg (by omega)]
  by_cases h1 : f N = N
  · left
    refine ⟨h1, ?_⟩
    have fa : f a ≠ N := fun e => by have := h.inj a N (by omega) (by omega) (by rw [e, h1]); omega
    have same : ∀ x, x < N → contr N f x = contr N (sw f a N) x := fun x hx => by
      have fx : f x ≠ N := fun e => by have := h.inj x N (by omega) (by omega) (by rw [e, h1]); omega
      by_cases e : x = a
      · subst e
        unfold contr
        rw [ga, gN, if_neg fx, if_pos h1]
      · unfold contr
        rw [gx x e hx, if_neg fx, if_neg fx]
    rw [cyc, cyc, cyc_congr same, gN, if_pos h1, if_neg fa]
  · by_cases h2 : f a = N
    · right; left
      refine ⟨h2, ?_⟩
      have same : ∀ x, x < N → contr N (sw f a N) x = contr N f x := fun x hx => by
        by_cases e : x = a
        · subst e
          unfold contr
          rw [ga, if_neg h1, if_pos h2]
        · have fx : f x ≠ N := fun q => e (h.inj x a (by omega) (by omega) (by rw [q, h2]))
          unfold contr
          rw [gx x e hx, if_neg fx, if_neg fx]
      rw [cyc, cyc, cyc_congr same, gN, if_pos h2, if_neg h1]
    · right; right
      obtain ⟨x0, hx0, e0⟩ := h.surj (j := N) (by omega)
      have n0 : x0 ≠ N := fun e => h1 (by rw [e] at e0; exact e0)
      have na : x0 ≠ a := fun e => h2 (by rw [e] at e0; exact e0)
      refine ⟨x0, by omega, na, by unfold contr; rw [if_pos e0], h1, by rw [cyc, if_neg h1]; rfl, ?_⟩
      have same : ∀ x, x < N → contr N (sw f a N) x = sw (contr N f) a x0 x := fun x hx => by
        by_cases e : x = a
        · subst e
          show (if sw f x N x = N then sw f x N N else sw f x N x) = sw (contr N f) x x0 x
          rw [ga, if_neg h1]
          unfold sw contr
          rw [if_pos rfl, if_pos e0]
        · by_cases e2 : x = x0
          · subst e2
            show (if sw f a N x = N then sw f a N N else sw f a N x) = sw (contr N f) a x x
            rw [gx x e hx, if_pos e0, gN]
            unfold sw contr
            rw [if_neg e, if_pos rfl, if_neg h2]
          · have fx : f x ≠ N := fun q => e2 (h.inj x x0 (by omega) hx0 (by rw [q, e0]))
            show (if sw f a N x = N then sw f a N N else sw f a N x) = sw (contr N f) a x0 x
            rw [gx x e hx, if_neg fx]
            unfold sw contr
            rw [if_neg e, if_neg e2, if_neg fx]
      rw [cyc, cyc_congr same, gN, if_neg h2]; rfl
/-- where a place comes to stand for itself -/
theorem sw_fix : ∀ {N f}, PermN N f → ∀ {a c : Nat}, a < N → c < N → a ≠ c → f c = a → cyc N (sw f a c) = cyc N f + 1
  | 0, _, _, _, _, ha, _, _, _ => absurd ha (Nat.not_lt_zero _)
  | N + 1, f, h, a, c, ha, hc, ne, hf => by
    by_cases h1 : c = N
    · subst h1
      rcases sw_top h (a := a) (by omega) with ⟨e0, _⟩ | ⟨_, e⟩ | ⟨x0, h0, na, e0, _, e1, e2⟩
      · omega
      · exact e
      · rw [e1, e2]
        exact sw_fix h.contr (by omega) h0 (Ne.symm na) (by rw [e0, hf])
    · by_cases h2 : a = N
      · subst h2
        rw [sw_comm ne]
        rcases sw_top h (a := c) (by omega) with ⟨e0, _⟩ | ⟨_, e⟩ | ⟨x0, h0, na, e0, n0, e1, e2⟩
        · have := h.inj a c (by omega) (by omega) (by rw [e0, hf]); omega
        · exact e
        · exfalso
          have : f x0 = a := by
            unfold contr at e0
            by_cases q : f x0 = a
            · exact q
            · rw [if_neg q] at e0
              have := h.inj x0 a (by omega) (by omega) e0; omega
          exact na (h.inj x0 c (by omega) (by omega) (by rw [this, hf]))
      · have eN : sw f a c N = f N := by unfold sw; rw [if_neg (by omega), if_neg (by omega)]
        rw [cyc, cyc, cyc_congr (contr_sw (f := f) (a := a) (c := c) (by omega) (by omega)), eN, sw_fix h.contr (a := a) (c := c) (by omega) (by omega) ne (by unfold contr; rw [if_neg (by omega), hf])]
        omega
/-! read backwards; called otherwise -/
theorem conn_inv {N f g} (h : PermN N f) (e : ∀ i, i < N → g (f i) = i) {i : Nat} (hi : i < N) : ∀ k, itr g k (itr f k i) = i
  | 0 => rfl
  | k + 1 => by
    rw [itr_shift]
    show itr g k (g (f (itr f k i))) = i
    rw [e _ (h.itr_lt hi k), conn_inv h e hi k]
theorem cyc_inv {N f g} (h : PermN N f) (hg : PermN N g) (e : ∀ i, i < N → g (f i) = i) : cyc N g = cyc N f := by
  obtain ⟨l, r, el⟩ := reps_ex h
  have back : ∀ i j, i < N → conn f i j → conn g j i := fun i j hi ⟨k, q⟩ => ⟨k, q ▸ conn_inv h e hi k⟩
  have e' : ∀ i, i < N → f (g i) = i := fun i hi => by
    obtain ⟨j, hj, rfl⟩ := h.surj hi
    rw [e j hj]
  have forth : ∀ i j, i < N → conn g i j → conn f j i := fun i j hi ⟨k, q⟩ => ⟨k, q ▸ conn_inv hg e' hi k⟩
  have r' : Reps N g l := ⟨r.lt, List.Pairwise.imp_of_mem (fun {i j} hi hj hn c => hn ((forth i j (r.lt i hi) c).symm h (r.lt j hj))) r.ne, fun i hi => by
    obtain ⟨j, hj, c⟩ := r.all i hi
    exact ⟨j, hj, (back j i (r.lt j hj) c).symm hg hi⟩⟩
  rw [← r'.cyc hg, el]
theorem cyc_conj {N f g σ} (h : PermN N f) (hg : PermN N g) (hσ : PermN N σ) (e : ∀ i, i < N → g (σ i) = σ (f i)) : cyc N g = cyc N f := by
  obtain ⟨l, r, el⟩ := reps_ex h
  have step : ∀ i, i < N → ∀ k, itr g k (σ i) = σ (itr f k i) := fun i hi k => by
    induction k with
    | zero => rfl
    | succ k ih => show g (itr g k (σ i)) = σ (f (itr f k i)); rw [ih, e _ (h.itr_lt hi k)]
  have r' : Reps N g (l.map σ) := by
    refine ⟨fun i hi => ?_, ?_, fun i hi => ?_⟩
    · obtain ⟨j, hj, rfl⟩ := List.mem_map.mp hi
      exact hσ.lt j (r.lt j hj)
    · rw [List.pairwise_map]
      refine List.Pairwise.imp_of_mem (fun {i j} hi hj hn c => hn ?_) r.ne
      obtain ⟨k, q⟩ := c
      rw [step i (r.lt i hi)] at q
      exact ⟨k, hσ.inj _ _ (h.itr_lt (r.lt i hi) k) (r.lt j hj) q⟩
    · obtain ⟨i0, hi0, rfl⟩ := hσ.surj hi
      obtain ⟨j, hj, k, q⟩ := r.all i0 hi0
      exact ⟨σ j, List.mem_map.mpr ⟨j, hj, rfl⟩, k, by rw [step j (r.lt j hj), q]⟩
  have := r'.cyc hg
  rw [List.length_map] at this
  rw [← this, el]
end DL.W

/-! Plain laws: the web of the gaps of numbers, its rings, and what an exchange does to them. -/
namespace DL.W
variable [DL.Wd] [DL.Fb]
/-! ### rings as lists -/
def per (N : Nat) (f : Nat → Nat) (g : Nat) : Nat := ((List.range N).find? fun k => decide (itr f (k + 1) g = g)).getD 0 + 1
theorem per_ok {N f} (h : PermN N f) {g : Nat} (hg : g < N) : itr f (per N f g) g = g ∧ per N f g ≤ N ∧ ∀ k, 0 < k → k < per N f g → itr f k g ≠ g := by
  obtain ⟨p, hp, hpN, e⟩ := h.period hg
  cases q : (List.range N).find? fun k => decide (itr f (k + 1) g = g) with
  | none =>
    rw [List.find?_eq_none] at q
    have := q (p - 1) (List.mem_range.mpr (by omega))
    rw [show p - 1 + 1 = p by omega] at this
    exact absurd (decide_eq_true e) this
  | some k =>
    have hper : per N f g = k + 1 := by unfold per; rw [q]; rfl
    rw [hper]
    obtain ⟨h1, l1, l2, h2, h3⟩ := List.find?_eq_some_iff_append.mp q
    have hk : k = l1.length := by
      have e1 : (List.range N)[l1.length]? = (l1 ++ k :: l2)[l1.length]? := by rw [h2]
      rw [List.getElem?_append_right (Nat.le_refl _), Nat.sub_self, List.getElem?_cons_zero] at e1
      have := (List.getElem?_eq_some_iff.mp e1)
      obtain ⟨a, b⟩ := this
      rw [List.getElem_range] at b
      exact b.symm
    have hlt : k < N := by
      have := congrArg List.length h2
      rw [List.length_range, List.length_append, List.length_cons] at this
      omega
    refine ⟨of_decide_eq_true h1, by omega, fun m hm0 hm e2 => ?_⟩
    have hm1 : m - 1 < l1.length := by omega
    have e1 : l1[m - 1]? = some (m - 1) := by
      have e3 : (List.range N)[m - 1]? = (l1 ++ k :: l2)[m - 1]? := by rw [h2]
      rw [List.getElem?_append_left hm1, List.getElem?_range (by omega)] at e3
      exact e3.symm
    have hmem : m - 1 ∈ l1 := List.mem_of_getElem? e1
    have := h3 _ hmem
    rw [show m - 1 + 1 = m by omega] at this
    simp [e2] at this
theorem per_pos {N f g} : 0 < per N f g := Nat.succ_pos _
def ring (N : Nat) (f : Nat → Nat) (g : Nat) : List Nat := (List.range (per N f g)).map fun k => itr f k g
theorem itr_mod {N f} (h : PermN N f) {g : Nat} (hg : g < N) (k : Nat) : itr f k g = itr f (k % per N f g) g := by
  conv => lhs; rw [← Nat.div_add_mod k (per N f g), itr_add, itr_mul (per_ok h hg).1]
theorem mem_ring {N f} (h : PermN N f) {g x : Nat} (hg : g < N) : x ∈ ring N f g ↔ conn f g x := by
  unfold ring
  rw [List.mem_map]
  constructor
  · rintro ⟨k, _, rfl⟩; exact ⟨k, rfl⟩
  · rintro ⟨k, rfl⟩
    exact ⟨k % per N f g, List.mem_range.mpr (Nat.mod_lt _ per_pos), (itr_mod h hg k).symm⟩
def first (N : Nat) (f : Nat → Nat) (g : Nat) : Bool := decide (∀ h, h < g → g ∉ ring N f h)
def ringsL (N : Nat) (f : Nat → Nat) (m : Nat) : List (List Nat) := ((List.range m).filter (first N f)).map (ring N f)
theorem covered {N f} (h : PermN N f) : ∀ {x : Nat}, x < N → ∃ g, g ≤ x ∧ first N f g = true ∧ conn f g x := by
  intro x
  induction x using Nat.strongRecOn with
  | ind x ih =>
    intro hx
    by_cases e : first N f x = true
    · exact ⟨x, Nat.le_refl _, e, .refl x⟩
    · unfold first at e
      rw [decide_eq_true_eq] at e
      have : ∃ g, g < x ∧ x ∈ ring N f g := by
        apply Classical.byContradiction
        intro q
        exact e fun g hg hm => q ⟨g, hg, hm⟩
      obtain ⟨g, hg, hm⟩ := this
      obtain ⟨g2, h1, h2, h3⟩ := ih g hg (by omega)
      exact ⟨g2, by omega, h2, h3.trans ((mem_ring h (by omega)).mp hm)⟩
theorem ringsL_len {N f} (h : PermN N f) : (ringsL N f N).length = cyc N f := by
  unfold ringsL
  rw [List.length_map]
  refine Reps.cyc h ⟨fun i hi => List.mem_range.mp (List.mem_filter.mp hi).1, ?_, fun i hi => ?_⟩
  · refine List.Pairwise.imp_of_mem (fun {i j} hi hj hlt c => ?_) (List.Pairwise.filter _ List.pairwise_lt_range)
    have h1 := (List.mem_filter.mp hj).2
    unfold first at h1
    rw [decide_eq_true_eq] at h1
    exact h1 i hlt ((mem_ring h (List.mem_range.mp (List.mem_filter.mp hi).1)).mpr c)
  · obtain ⟨g, h1, h2, h3⟩ := covered h hi
    exact ⟨g, List.mem_filter.mpr ⟨List.mem_range.mpr (by omega), h2⟩, h3⟩
/-! ### numbers with both ends -/
def IsP (ns : List Nat) : Prop := ns.Perm (List.range' 1 ns.length)
def padN (ns : List Nat) : List Nat := 0 :: (ns ++ [ns.length + 1])
theorem padN_len (ns : List Nat) : (padN ns).length = ns.length + 2 := by simp [padN]
theorem padN_perm {ns : List Nat} (h : IsP ns) : (padN ns).Perm (List.range (ns.length + 2)) := by
  have e : List.range (ns.length + 2) = 0 :: (List.range' 1 ns.length ++ [ns.length + 1]) := by
    rw [List.range_eq_range', List.range'_succ, show (ns.length + 1) = ns.length + 1 from rfl, List.range'_concat]
    simp [Nat.add_comm]
  rw [e]
  exact List.Perm.cons _ (List.Perm.append_right _ h)
theorem padN_nd {ns : List Nat} (h : IsP ns) : (padN ns).Nodup := (padN_perm h).nodup_iff.mpr List.nodup_range
theorem padN_mem {ns : List Nat} (h : IsP ns) {x : Nat} : x ∈ padN ns ↔ x < ns.length + 2 := by rw [(padN_perm h).mem_iff, List.mem_range]
theorem padN_get {ns : List Nat} (h : IsP ns) {i : Nat} (hi : i < ns.length + 2) : (padN ns)[i]? = some ((padN ns).getD i 0) ∧ (padN ns).getD i 0 < ns.length + 2 := by
  have hi2 : i < (padN ns).length := by rw [padN_len]; exact hi
  have e2 : (padN ns).getD i 0 = (padN ns)[i] := by rw [List.getD_eq_getElem?_getD, List.getElem?_eq_getElem hi2]; rfl
  rw [e2]
  exact ⟨List.getElem?_eq_getElem hi2, (padN_mem h).mp (List.getElem_mem _)⟩
theorem idxOf_get {l : List Nat} (nd : l.Nodup) {i : Nat} (hi : i < l.length) : l.idxOf l[i] = i := by
  have h := idxOf_first (k := l[i]) (ns := l) (List.getElem_mem hi)
  have h1 : l.idxOf l[i] < l.length := (List.getElem?_eq_some_iff.mp h.1).1
  have h2 : l[l.idxOf l[i]] = l[i] := (List.getElem?_eq_some_iff.mp h.1).2
  exact (List.getElem_inj nd).mp h2
theorem get_idxOf {l : List Nat} {x : Nat} (h : x ∈ l) : l.idxOf x < l.length ∧ l[l.idxOf x]? = some x := ⟨(List.getElem?_eq_some_iff.mp (idxOf_first h).1).1, (idxOf_first h).1⟩
theorem pad_idx {ns : List Nat} (h : IsP ns) {i : Nat} (hi : i < ns.length + 2) : (padN ns).idxOf ((padN ns).getD i 0) = i := by
  have hi2 : i < (padN ns).length := by rw [padN_len]; exact hi
  have e2 : (padN ns).getD i 0 = (padN ns)[i] := by rw [List.getD_eq_getElem?_getD, List.getElem?_eq_getElem hi2]; rfl
  rw [e2, idxOf_get (padN_nd h) hi2]
theorem pad_of_idx {ns : List Nat} (h : IsP ns) {x : Nat} (hx : x < ns.length + 2) : (padN ns).idxOf x < ns.length + 2 ∧ (padN ns).getD ((padN ns).idxOf x) 0 = x := by
  obtain ⟨h1, h2⟩ := get_idxOf ((padN_mem h).mpr hx)
  rw [padN_len] at h1
  exact ⟨h1, by rw [List.getD_eq_getElem?_getD, h2]; rfl⟩
theorem pad_0 {ns : List Nat} : (padN ns).getD 0 0 = 0 := rfl
theorem pad_last {ns : List Nat} : (padN ns).getD (ns.length + 1) 0 = ns.length + 1 := by
  rw [List.getD_eq_getElem?_getD]
  unfold padN
  rw [List.getElem?_cons_succ, List.getElem?_append_right (Nat.le_refl _), Nat.sub_self]; rfl
theorem pad_in {ns : List Nat} {i : Nat} (h : i < ns.length) : (padN ns).getD (i + 1) 0 = ns[i] := by
  rw [List.getD_eq_getElem?_getD]
  unfold padN
  rw [List.getElem?_cons_succ, List.getElem?_append_left h, List.getElem?_eq_getElem h]; rfl
theorem pad_pos {ns : List Nat} (h : IsP ns) {i : Nat} (hi : i < ns.length + 2) (h0 : 0 < i) : 0 < (padN ns).getD i 0 := by
  apply Nat.pos_of_ne_zero
  intro e
  have := pad_idx h hi
  rw [e, show (padN ns).idxOf 0 = 0 from by have := pad_idx h (i := 0) (by omega); rwa [pad_0] at this] at this
  omega
theorem pad_low {ns : List Nat} (h : IsP ns) {i : Nat} (hi : i < ns.length + 1) : (padN ns).getD i 0 < ns.length + 1 := by
  have h1 := (padN_get h (i := i) (by omega)).2
  have h2 : (padN ns).getD i 0 ≠ ns.length + 1 := fun e => by
    have h3 := pad_idx h (i := i) (by omega)
    have h4 := pad_idx h (i := ns.length + 1) (by omega)
    rw [pad_last] at h4
    rw [e, h4] at h3; omega
  omega
/-- the gap to which a gap leads -/
def lead (ns : List Nat) (g : Nat) : Nat := (padN ns).idxOf ((padN ns).getD (g + 1) 0 - 1)
/-- the same, gaps told by what is ahead of them -/
def phi (ns : List Nat) (u : Nat) : Nat := (padN ns).getD ((padN ns).idxOf u + 1) 0 - 1
theorem idx_low {ns : List Nat} (h : IsP ns) {u : Nat} (hu : u < ns.length + 1) : (padN ns).idxOf u < ns.length + 1 := by
  obtain ⟨h1, h2⟩ := pad_of_idx h (x := u) (by omega)
  have : (padN ns).idxOf u ≠ ns.length + 1 := fun e => by
    rw [e, pad_last] at h2; omega
  omega
theorem permN_pad {ns : List Nat} (h : IsP ns) : PermN (ns.length + 1) fun g => (padN ns).getD g 0 :=
  ⟨fun i hi => pad_low h hi, fun i j hi hj e => by
    have h1 := pad_idx h (i := i) (by omega)
    have h2 := pad_idx h (i := j) (by omega)
    have e' : (padN ns).getD i 0 = (padN ns).getD j 0 := e
    rw [← h1, ← h2, e']⟩
theorem permN_phi {ns : List Nat} (h : IsP ns) : PermN (ns.length + 1) (phi ns) := by
  refine ⟨fun u hu => ?_, fun u v hu hv e => ?_⟩
  · have h1 := idx_low h hu
    have h2 := (padN_get h (i := (padN ns).idxOf u + 1) (by omega)).2
    have h3 := pad_pos h (i := (padN ns).idxOf u + 1) (by omega) (by omega)
    unfold phi; omega
  · have h1 := idx_low h hu
    have h2 := idx_low h hv
    have h3 := pad_pos h (i := (padN ns).idxOf u + 1) (by omega) (by omega)
    have h4 := pad_pos h (i := (padN ns).idxOf v + 1) (by omega) (by omega)
    unfold phi at e
    have e2 : (padN ns).getD ((padN ns).idxOf u + 1) 0 = (padN ns).getD ((padN ns).idxOf v + 1) 0 := by omega
    have h5 := pad_idx h (i := (padN ns).idxOf u + 1) (by omega)
    have h6 := pad_idx h (i := (padN ns).idxOf v + 1) (by omega)
    rw [e2, h6] at h5
    have h7 := (pad_of_idx h (x := u) (by omega)).2
    have h8 := (pad_of_idx h (x := v) (by omega)).2
    rw [← h7, ← h8]
    congr 1; omega
theorem pad_lead {ns : List Nat} (h : IsP ns) {g : Nat} (hg : g < ns.length + 1) : (padN ns).getD (lead ns g) 0 = (padN ns).getD (g + 1) 0 - 1 := by
  have h1 := (padN_get h (i := g + 1) (by omega)).2
  exact (pad_of_idx h (x := (padN ns).getD (g + 1) 0 - 1) (by omega)).2
theorem permN_lead {ns : List Nat} (h : IsP ns) : PermN (ns.length + 1) (lead ns) := by
  refine ⟨fun g hg => ?_, fun i j hi hj e => ?_⟩
  · have h1 := (padN_get h (i := g + 1) (by omega)).2
    have h2 := pad_pos h (i := g + 1) (by omega) (by omega)
    exact idx_low h (by omega)
  · have h1 := pad_lead h hi
    have h2 := pad_lead h hj
    rw [e] at h1
    have h3 := pad_pos h (i := i + 1) (by omega) (by omega)
    have h4 := pad_pos h (i := j + 1) (by omega) (by omega)
    have e2 : (padN ns).getD (i + 1) 0 = (padN ns).getD (j + 1) 0 := by omega
    have h5 := pad_idx h (i := i + 1) (by omega)
    have h6 := pad_idx h (i := j + 1) (by omega)
    rw [e2, h6] at h5; omega
/-- how many rings -/
def nrings (ns : List Nat) : Nat := cyc (ns.length + 1) (lead ns)
def far (ns : List Nat) : Nat := (ns.length + 1 - nrings ns) / 2
theorem nrings_phi {ns : List Nat} (h : IsP ns) : nrings ns = cyc (ns.length + 1) (phi ns) := by
  refine (cyc_conj (σ := fun g => (padN ns).getD g 0) (permN_lead h) (permN_phi h) (permN_pad h) fun i hi => ?_).symm
  show phi ns ((padN ns).getD i 0) = (padN ns).getD (lead ns i) 0
  rw [pad_lead h hi]
  unfold phi
  rw [pad_idx h (by omega)]
theorem nrings_le {ns : List Nat} (h : IsP ns) : nrings ns ≤ ns.length + 1 := cyc_le (permN_lead h)
/-! ### an exchange -/
def swapL {α : Type} (xs : List α) (p q r s : Nat) : List α := xs.take p ++ ((xs.drop r).take (s - r) ++ ((xs.drop q).take (r - q) ++ ((xs.drop p).take (q - p) ++ xs.drop s)))
def ixS (p q r s i : Nat) : Nat := if i < p then i else if i < p + (s - r) then r + (i - p) else if i < p + (s - q) then q + (i - (p + (s - r))) else if i < s then p + (i - (p + (s - q))) else i
structure Exch (n p q r s : Nat) : Prop where
  pq : p < q
  qr : q ≤ r
  rs : r < s
  sn : s ≤ n
theorem swapL_get {α : Type} {xs : List α} {p q r s : Nat} (e : Exch xs.length p q r s) (i : Nat) : (swapL xs p q r s)[i]? = xs[ixS p q r s i]? := by
  obtain ⟨h1, h2, h3, h4⟩ := e
  have l1 : (xs.take p).length = p := by rw [List.length_take]; omega
  have l2 : ((xs.drop r).take (s - r)).length = s - r := by rw [List.length_take, List.length_drop]; omega
  have l3 : ((xs.drop q).take (r - q)).length = r - q := by rw [List.length_take, List.length_drop]; omega
  have l4 : ((xs.drop p).take (q - p)).length = q - p := by rw [List.length_take, List.length_drop]; omega
  unfold swapL ixS
  by_cases c1 : i < p
  · rw [if_pos c1, List.getElem?_append_left (by omega), List.getElem?_take, if_pos c1]
  · rw [if_neg c1, List.getElem?_append_right (by omega), l1]
    by_cases c2 : i < p + (s - r)
    · rw [if_pos c2, List.getElem?_append_left (by omega), List.getElem?_take, if_pos (by omega), List.getElem?_drop]
    · rw [if_neg c2, List.getElem?_append_right (by omega), l2]
      by_cases c3 : i < p + (s - q)
      · rw [if_pos c3, List.getElem?_append_left (by omega), List.getElem?_take, if_pos (by omega), List.getElem?_drop]
        congr 1; omega
      · rw [if_neg c3, List.getElem?_append_right (by omega), l3]
        by_cases c4 : i < s
        · rw [if_pos c4, List.getElem?_append_left (by omega), List.getElem?_take, if_pos (by omega), List.getElem?_drop]
          congr 1; omega
        · rw [if_neg c4, List.getElem?_append_right (by omega), l4, List.getElem?_drop]
          congr 1; omega
theorem swapL_perm {α : Type} {xs : List α} {p q r s : Nat} (e : Exch xs.length p q r s) : (swapL xs p q r s).Perm xs := by
  obtain ⟨h1, h2, h3, h4⟩ := e
  have e1 : xs = xs.take p ++ ((xs.drop p).take (q - p) ++ ((xs.drop q).take (r - q) ++ ((xs.drop r).take (s - r) ++ xs.drop s))) := by
    have a1 : xs.drop s = (xs.drop r).drop (s - r) := by rw [List.drop_drop]; congr 1; omega
    have a2 : xs.drop r = (xs.drop q).drop (r - q) := by rw [List.drop_drop]; congr 1; omega
    have a3 : xs.drop q = (xs.drop p).drop (q - p) := by rw [List.drop_drop]; congr 1; omega
    rw [a1, List.take_append_drop, a2, List.take_append_drop, a3, List.take_append_drop, List.take_append_drop]
  conv => rhs; rw [e1]
  unfold swapL
  refine List.Perm.append_left _ ?_
  generalize (xs.drop r).take (s - r) = A
  generalize (xs.drop q).take (r - q) = B
  generalize (xs.drop p).take (q - p) = C
  generalize xs.drop s = E
  have h5 : (A ++ (B ++ (C ++ E))).Perm (C ++ (A ++ (B ++ E))) := by
    have h6 := List.Perm.append_right E (List.perm_append_comm (l₁ := A ++ B) (l₂ := C))
    simpa only [List.append_assoc] using h6
  have h7 : (A ++ (B ++ E)).Perm (B ++ (A ++ E)) := by
    have h6 := List.Perm.append_right E (List.perm_append_comm (l₁ := A) (l₂ := B))
    simpa only [List.append_assoc] using h6
  exact h5.trans (List.Perm.append_left _ h7)
theorem swapL_len {α : Type} {xs : List α} {p q r s : Nat} (e : Exch xs.length p q r s) : (swapL xs p q r s).length = xs.length := (swapL_perm e).length_eq
theorem IsP.swap {ns : List Nat} (h : IsP ns) {p q r s : Nat} (e : Exch ns.length p q r s) : IsP (swapL ns p q r s) := by
  unfold IsP
  rw [swapL_len e]
  exact (swapL_perm e).trans h
def ixP (p q r s i : Nat) : Nat := if i = 0 then 0 else ixS p q r s (i - 1) + 1
theorem ixS_lt {n p q r s i : Nat} (e : Exch n p q r s) (h : i < n) : ixS p q r s i < n := by
  obtain ⟨h1, h2, h3, h4⟩ := e
  unfold ixS
  split
  · exact h
  · split
    · omega
    · split
      · omega
      · split <;> omega
theorem pad_swap {ns : List Nat} {p q r s : Nat} (e : Exch ns.length p q r s) {i : Nat} (hi : i < ns.length + 2) : (padN (swapL ns p q r s)).getD i 0 = (padN ns).getD (ixP p q r s i) 0 := by
  have hl := swapL_len e
  unfold ixP
  by_cases h0 : i = 0
  · subst h0; rfl
  · rw [if_neg h0]
    obtain ⟨j, rfl⟩ : ∃ j, i = j + 1 := ⟨i - 1, by omega⟩
    rw [Nat.add_sub_cancel]
    by_cases h1 : j < ns.length
    · have h2 := ixS_lt e h1
      rw [pad_in (by rw [hl]; exact h1), pad_in h2]
      have := swapL_get e j
      rw [List.getElem?_eq_getElem (by rw [hl]; exact h1), List.getElem?_eq_getElem h2] at this
      exact Option.some.inj this
    · have h2 : j = ns.length := by omega
      have h3 : ixS p q r s j = j := by
        obtain ⟨h1, h2, h3, h4⟩ := e
        unfold ixS
        rw [if_neg (by omega), if_neg (by omega), if_neg (by omega), if_neg (by omega)]
      rw [h3, h2]
      have := pad_last (ns := swapL ns p q r s)
      rw [hl] at this
      rw [this, pad_last]
theorem ixP_lt {n p q r s i : Nat} (e : Exch n p q r s) (h : i < n + 1) : ixP p q r s i < n + 1 := by
  unfold ixP
  split
  · omega
  · have := ixS_lt e (i := i - 1) (by omega); omega
/-- what an exchange makes of the web -/
theorem phi_swap {ns : List Nat} (h : IsP ns) {p q r s : Nat} (e : Exch ns.length p q r s) {u : Nat} (hu : u < ns.length + 1) :
    phi (swapL ns p q r s) u = sw (sw (phi ns) ((padN ns).getD p 0) ((padN ns).getD r 0)) ((padN ns).getD q 0) ((padN ns).getD s 0) u := by
  have hl := swapL_len e
  have h' := h.swap e
  have hu' : u < (swapL ns p q r s).length + 1 := by rw [hl]; exact hu
  -- u stands at i behind the exchange
  obtain ⟨i, hi, rfl⟩ : ∃ i, i < ns.length + 1 ∧ u = (padN ns).getD (ixP p q r s i) 0 := by
    refine ⟨(padN (swapL ns p q r s)).idxOf u, by have := idx_low h' hu'; rwa [hl] at this, ?_⟩
    have h1 := idx_low h' hu'
    rw [hl] at h1
    rw [← pad_swap e (by omega)]
    exact ((pad_of_idx h' (x := u) (by rw [hl]; omega)).2).symm
  have left : phi (swapL ns p q r s) ((padN ns).getD (ixP p q r s i) 0) = (padN ns).getD (ixP p q r s (i + 1)) 0 - 1 := by
    unfold phi
    rw [← pad_swap e (i := i) (by omega), pad_idx h' (by rw [hl]; omega), pad_swap e (by omega)]
  rw [left]
  have same : ∀ a b, a < ns.length + 1 → b < ns.length + 1 → ((padN ns).getD a 0 = (padN ns).getD b 0 ↔ a = b) := fun a b ha hb => ⟨fun q => (permN_pad h).inj a b ha hb q, fun q => by rw [q]⟩
  have ph : ∀ a, a < ns.length + 1 → phi ns ((padN ns).getD a 0) = (padN ns).getD (a + 1) 0 - 1 := fun a ha => by
    unfold phi; rw [pad_idx h (by omega)]
  have hx := ixP_lt e (i := i) hi
  obtain ⟨h1, h2, h3, h4⟩ := e
  unfold sw
  simp only [same (ixP p q r s i) q hx (by omega), same (ixP p q r s i) s hx (by omega), same (ixP p q r s i) p hx (by omega), same (ixP p q r s i) r hx (by omega), same s p (by omega) (by omega), same s r (by omega) (by omega), same q p (by omega) (by omega), same q r (by omega) (by omega), ph (ixP p q r s i) hx, ph s (by omega), ph q (by omega), ph p (by omega), ph r (by omega)]
  have key : ∀ a b : Nat, a = b → (padN ns).getD a 0 - 1 = (padN ns).getD b 0 - 1 := fun a b q => by rw [q]
  unfold ixP ixS
  rw [if_neg (show ¬ i + 1 = 0 by omega), Nat.add_sub_cancel]
  repeat' split
  all_goals first | (exfalso; omega) | (apply key; omega)
end DL.W

/-! Numbers and rings as data. -/
namespace DL
variable [DL.Wd] [DL.Fb]
open PySem PySem.Spec PyProof.Rows L2
abbrev nat1 (n : Nat) : D := .int (n : Nat)
def nats (ns : List Nat) : List D := ns.map fun n => D.int (n : Nat)
theorem nats_len {ns : List Nat} : (nats ns).length = ns.length := by simp [nats]
theorem nats_inj {a b : List Nat} : (nats a = nats b) = (a = b) := propext ⟨fun h => (List.map_inj_right (fun x y h => by have := D.int.inj h; omega)).mp h, fun h => by rw [h]⟩
/-- a list or a tuple of numbers -/
def numsD (d : D) (ns : List Nat) : Prop := d = .lst (nats ns) ∨ d = .tup (nats ns)
theorem numsD_lst {a b : List Nat} : numsD (.lst (nats a)) b = (a = b) := by
  unfold numsD; simp [nats_inj]
theorem numsD_tup {a b : List Nat} : numsD (.tup (nats a)) b = (a = b) := by
  unfold numsD; simp [nats_inj]
/-- lists of lists, tuples of tuples -/
def ringD (r : List Nat) : D := .lst (nats r)
def ringT (r : List Nat) : D := .tup (nats r)
/-- the dict of the places of numbers -/
def placeT (ps : List Nat) : TabK := (List.range ps.length).foldl (fun t i => dPut t (Sum.inl ((ps.getD i 0 : Nat) : Int)) (.int (i : Nat))) []
/-- a dict of which only the keys are asked: known ones -/
def keyIn (t : TabK) (x : Nat) : Bool := (dGet t (Sum.inl ((x : Nat) : Int))).isSome
/-! ### numbers of things -/
def numsOf (ws vs : List Str) : List Nat := ws.map fun w => vs.idxOf w + 1
theorem numsOf_isP {ws vs : List Str} (G1 : GoodT ws) (G2 : GoodT vs) (hp : ws.Perm vs) : W.IsP (numsOf ws vs) := by
  have hl : (numsOf ws vs).length = vs.length := by simp [numsOf, hp.length_eq]
  unfold W.IsP
  rw [hl]
  have h1 : (numsOf ws vs).Perm (numsOf vs vs) := List.Perm.map _ hp
  have h2 : numsOf vs vs = List.range' 1 vs.length := by
    apply List.ext_getElem
    · simp [numsOf]
    · intro i h3 h4
      have hi : i < vs.length := by simpa [numsOf] using h3
      simp only [numsOf, List.getElem_map, List.getElem_range']
      have := idxOf_first (k := vs[i]) (ns := vs) (List.getElem_mem hi)
      have h5 : vs.idxOf vs[i] < vs.length := (List.getElem?_eq_some_iff.mp this.1).1
      have h6 : vs[vs.idxOf vs[i]] = vs[i] := (List.getElem?_eq_some_iff.mp this.1).2
      have h7 : vs.idxOf vs[i] = i := (List.getElem_inj G2.nd).mp h6
      rw [h7]; omega
  rw [← h2]; exact h1
def ringsOf (ns : List Nat) : List (List Nat) := W.ringsL (ns.length + 1) (W.lead ns) (ns.length + 1)
/-! ### family C -/

/-- a list or a tuple -/
def seqDD (d : D) (xs : List D) : Prop := d = .lst xs ∨ d = .tup xs
def stepD (p q r s : Nat) : D := .tup [.int p, .int q, .int r, .int s]
theorem stepD_inj {a b c d e f g h : Nat} : (stepD a b c d = stepD e f g h) = (a = e ∧ b = f ∧ c = g ∧ d = h) := by
  unfold stepD
  apply propext
  constructor
  · intro q
    simp only [D.tup.injEq, List.cons.injEq, D.int.injEq, and_true] at q
    omega
  · rintro ⟨rfl, rfl, rfl, rfl⟩; rfl
/-- the words by numbers -/
def byN (ws : List Str) (ns : List Nat) : List Str := ns.map fun n => ws.getD (n - 1) ""
theorem byN_len {ws : List Str} {ns : List Nat} : (byN ws ns).length = ns.length := by simp [byN]
/-- one order of numbers by another one -/
def byO (ts ns : List Nat) : List Nat := ns.map fun n => ts.getD (n - 1) 0
theorem IsP.mem {ns : List Nat} (h : W.IsP ns) {n : Nat} : n ∈ ns ↔ 1 ≤ n ∧ n ≤ ns.length := by
  have : n ∈ ns ↔ n ∈ List.range' 1 ns.length := List.Perm.mem_iff h
  rw [this, List.mem_range'_1]; omega
theorem IsP.nd {ns : List Nat} (h : W.IsP ns) : ns.Nodup := (List.Perm.nodup_iff h).mpr (List.nodup_range' (step := 1))
theorem byN_byO {ws : List Str} {ts ns : List Nat} (hn : W.IsP ns) (hl : ts.length = ns.length) : byN ws (byO ts ns) = ns.map fun n => (byN ws ts).getD (n - 1) "" := by
  unfold byN byO
  rw [List.map_map]
  apply List.map_congr_left
  intro n h
  obtain ⟨h1, h2⟩ := (IsP.mem hn).mp h
  have h3 : n - 1 < ts.length := by omega
  simp [List.getElem?_eq_getElem h3]
/-- numbers told by where words stand -/
theorem numsOf_byO {ws : List Str} {ts ns : List Nat} (G : GoodT (byN ws ts)) (hn : W.IsP ns) (hl : ts.length = ns.length) : numsOf (byN ws (byO ts ns)) (byN ws ts) = ns := by
  rw [byN_byO hn hl]
  unfold numsOf
  rw [List.map_map]
  conv => rhs; rw [← List.map_id ns]
  apply List.map_congr_left
  intro n h
  obtain ⟨h1, h2⟩ := (IsP.mem hn).mp h
  have h3 : n - 1 < (byN ws ts).length := by rw [byN_len]; omega
  show (byN ws ts).idxOf ((byN ws ts).getD (n - 1) "") + 1 = id n
  have e : (byN ws ts).getD (n - 1) "" = (byN ws ts)[n - 1] := by rw [List.getD_eq_getElem?_getD, List.getElem?_eq_getElem h3]; rfl
  rw [e]
  have := idxOf_first (k := (byN ws ts)[n - 1]) (ns := byN ws ts) (List.getElem_mem h3)
  have h5 : (byN ws ts).idxOf (byN ws ts)[n - 1] < (byN ws ts).length := (List.getElem?_eq_some_iff.mp this.1).1
  have h6 : (byN ws ts)[(byN ws ts).idxOf (byN ws ts)[n - 1]] = (byN ws ts)[n - 1] := (List.getElem?_eq_some_iff.mp this.1).2
  have h7 := (List.getElem_inj G.nd).mp h6
  rw [h7]; show n - 1 + 1 = n; omega
theorem byN_perm {ws : List Str} {ns : List Nat} (hn : W.IsP ns) (hl : ns.length = ws.length) : (byN ws ns).Perm ws := by
  have h1 : (byN ws ns).Perm (byN ws (List.range' 1 ns.length)) := List.Perm.map _ hn
  have h2 : byN ws (List.range' 1 ns.length) = ws := by
    apply List.ext_getElem
    · simp [byN, hl]
    · intro i h3 h4
      simp [byN, List.getElem?_eq_getElem h4]
  rwa [h2] at h1
def fixW : List Str := ["rings", "a", "show", "within", "put", "undo", "zz", "names"]
def sgn (k : Nat) : Nat := 97 + k % 26
def labW (st : Str) (k : Nat) : Str := st ++ ⟨(List.replicate (1 + k / 26) #[sgn k]).foldl (· ++ ·) #[]⟩
def stems : List Str := ["", "x", "abc"]
end DL

/-! Plain laws: numbers in their order, numbers read the other way, one exchange. -/
namespace DL.W
variable [DL.Wd] [DL.Fb]
theorem isP_rg {n : Nat} : IsP (List.range' 1 n) := by unfold IsP; rw [List.length_range']
theorem IsP.mem {ns : List Nat} (h : IsP ns) {n : Nat} : n ∈ ns ↔ 1 ≤ n ∧ n ≤ ns.length := DL.IsP.mem h
theorem IsP.nd {ns : List Nat} (h : IsP ns) : ns.Nodup := DL.IsP.nd h
theorem getD_lt {α : Type} {l : List α} {i : Nat} {d : α} (h : i < l.length) : l.getD i d = l[i] := by rw [List.getD_eq_getElem?_getD, List.getElem?_eq_getElem h]; rfl
/-! ### in order -/
theorem cyc_id : ∀ {N : Nat} {f : Nat → Nat}, (∀ i, i < N → f i = i) → cyc N f = N
  | 0, _, _ => rfl
  | N + 1, f, h => by
    rw [cyc, if_pos (h N (by omega)), cyc_id (f := contr N f) fun i hi => by unfold contr; rw [h i (by omega), if_neg (by omega)]]
theorem pad_rg {n g : Nat} (hg : g < n + 2) : (padN (List.range' 1 n)).getD g 0 = g := by
  by_cases h0 : g = 0
  · subst h0; rfl
  · obtain ⟨j, rfl⟩ : ∃ j, g = j + 1 := ⟨g - 1, by omega⟩
    by_cases h1 : j < n
    · rw [pad_in (by rw [List.length_range']; exact h1), List.getElem_range']; omega
    · have : j = n := by omega
      subst this
      have := pad_last (ns := List.range' 1 j)
      rwa [List.length_range'] at this
theorem lead_rg {n g : Nat} (hg : g < n + 1) : lead (List.range' 1 n) g = g := by
  unfold lead
  rw [pad_rg (by omega), Nat.add_sub_cancel]
  have := pad_idx (isP_rg (n := n)) (i := g) (by rw [List.length_range']; omega)
  rwa [pad_rg (by omega)] at this
theorem nrings_rg {n : Nat} : nrings (List.range' 1 n) = n + 1 := by
  unfold nrings
  rw [List.length_range']
  exact cyc_id fun i hi => lead_rg hi
theorem far_rg {n : Nat} : far (List.range' 1 n) = 0 := by
  unfold far
  rw [nrings_rg, List.length_range', Nat.sub_self]
/-! ### the other way -/
def invN (ns : List Nat) : List Nat := (List.range' 1 ns.length).map fun v => ns.idxOf v + 1
theorem invN_len {ns : List Nat} : (invN ns).length = ns.length := by simp [invN]
theorem idx_pad {ns : List Nat} (h : IsP ns) {v : Nat} (h1 : 1 ≤ v) (h2 : v ≤ ns.length) : (padN ns).idxOf v = ns.idxOf v + 1 := by
  have hv : v ∈ ns := h.mem.mpr ⟨h1, h2⟩
  obtain ⟨h3, h4⟩ := get_idxOf hv
  have h5 : (padN ns).getD (ns.idxOf v + 1) 0 = v := by rw [pad_in h3]; exact (List.getElem?_eq_some_iff.mp h4).2
  have := pad_idx h (i := ns.idxOf v + 1) (by omega)
  rwa [h5] at this
theorem invN_isP {ns : List Nat} (h : IsP ns) : IsP (invN ns) := by
  unfold IsP
  rw [invN_len]
  have h1 : (invN ns).Perm (ns.map fun v => ns.idxOf v + 1) := List.Perm.map _ h.symm
  have h2 : (ns.map fun v => ns.idxOf v + 1) = List.range' 1 ns.length := by
    apply List.ext_getElem
    · simp
    · intro i h3 h4
      have hi : i < ns.length := by simpa using h3
      rw [List.getElem_map, idxOf_get h.nd hi, List.getElem_range']; omega
  rw [← h2]; exact h1
theorem pad_inv {ns : List Nat} (h : IsP ns) {x : Nat} (hx : x < ns.length + 2) : (padN (invN ns)).getD x 0 = (padN ns).idxOf x := by
  by_cases h0 : x = 0
  · subst h0
    have := pad_idx h (i := 0) (by omega)
    rw [pad_0] at this
    rw [this]; rfl
  · by_cases h1 : x = ns.length + 1
    · subst h1
      have := pad_last (ns := invN ns)
      rw [invN_len] at this
      rw [this]
      have h2 := pad_idx h (i := ns.length + 1) (by omega)
      rw [pad_last] at h2
      exact h2.symm
    · obtain ⟨j, rfl⟩ : ∃ j, x = j + 1 := ⟨x - 1, by omega⟩
      rw [pad_in (by rw [invN_len]; omega), idx_pad h (by omega) (by omega)]
      simp [invN, Nat.add_comm]
theorem idx_inv {ns : List Nat} (h : IsP ns) {y : Nat} (hy : y < ns.length + 2) : (padN (invN ns)).idxOf y = (padN ns).getD y 0 := by
  have h1 := (padN_get h hy).2
  have h2 := pad_idx (invN_isP h) (i := (padN ns).getD y 0) (by rw [invN_len]; exact h1)
  rw [pad_inv h h1, pad_idx h hy] at h2
  exact h2
theorem nrings_inv {ns : List Nat} (h : IsP ns) : nrings (invN ns) = nrings ns := by
  have hi := invN_isP h
  have pA := permN_lead h
  have pB : PermN (ns.length + 1) (lead (invN ns)) := by have := permN_lead hi; rwa [invN_len] at this
  let C : Nat → Nat := fun x => (padN ns).idxOf ((padN ns).getD x 0 + 1) - 1
  have CA : ∀ g, g < ns.length + 1 → C (lead ns g) = g := fun g hg => by
    show (padN ns).idxOf ((padN ns).getD (lead ns g) 0 + 1) - 1 = g
    have h1 := pad_pos h (i := g + 1) (by omega) (by omega)
    rw [pad_lead h hg, Nat.sub_add_cancel h1, pad_idx h (by omega)]; omega
  have pC : PermN (ns.length + 1) C := by
    refine ⟨fun x hx => ?_, fun x y hx hy e => ?_⟩
    · obtain ⟨g, hg, rfl⟩ := pA.surj hx
      rw [CA g hg]; exact hg
    · obtain ⟨g, hg, rfl⟩ := pA.surj hx
      obtain ⟨k, hk, rfl⟩ := pA.surj hy
      rw [CA g hg, CA k hk] at e
      rw [e]
  have e1 : cyc (ns.length + 1) C = cyc (ns.length + 1) (lead ns) := cyc_inv pA pC CA
  have e2 : cyc (ns.length + 1) (lead (invN ns)) = cyc (ns.length + 1) C := cyc_conj (σ := fun g => (padN ns).getD g 0) pC pB (permN_pad h) fun x hx => by
    show lead (invN ns) ((padN ns).getD x 0) = (padN ns).getD (C x) 0
    have h1 := pad_low h hx
    have h2 := (pad_of_idx h (x := (padN ns).getD x 0 + 1) (by omega)).1
    show (padN (invN ns)).idxOf ((padN (invN ns)).getD ((padN ns).getD x 0 + 1) 0 - 1) = _
    rw [pad_inv h (by omega), idx_inv h (by omega)]
  unfold nrings
  rw [invN_len, e2, e1]
theorem far_inv {ns : List Nat} (h : IsP ns) : far (invN ns) = far ns := by
  unfold far; rw [nrings_inv h, invN_len]
/-! ### an exchange, from near -/
end DL.W
namespace DL
variable [DL.Wd] [DL.Fb]
open PySem
theorem numsOf_len {ws vs : List Str} : (numsOf ws vs).length = ws.length := by simp [numsOf]
theorem idxS {ws : List Str} (nd : ws.Nodup) {i : Nat} (hi : i < ws.length) : ws.idxOf ws[i] = i := by
  have := idxOf_first (k := ws[i]) (ns := ws) (List.getElem_mem hi)
  have h5 : ws.idxOf ws[i] < ws.length := (List.getElem?_eq_some_iff.mp this.1).1
  have h6 : ws[ws.idxOf ws[i]] = ws[i] := (List.getElem?_eq_some_iff.mp this.1).2
  exact (List.getElem_inj nd).mp h6
theorem getS {ws : List Str} {w : Str} (h : w ∈ ws) : ∃ hi : ws.idxOf w < ws.length, ws[ws.idxOf w] = w := by
  have := idxOf_first h
  exact ⟨(List.getElem?_eq_some_iff.mp this.1).1, (List.getElem?_eq_some_iff.mp this.1).2⟩
theorem numsOf_inv {ws vs : List Str} (nd : ws.Nodup) (nd2 : vs.Nodup) (hp : ws.Perm vs) : numsOf vs ws = W.invN (numsOf ws vs) := by
  apply List.ext_getElem
  · simp [numsOf, W.invN, hp.length_eq]
  · intro j h1 h2
    have hj : j < vs.length := by simpa [numsOf] using h1
    obtain ⟨hi, e⟩ := getS (hp.mem_iff.mpr (List.getElem_mem hj))
    have hi2 : ws.idxOf vs[j] < (numsOf ws vs).length := by rw [numsOf_len]; exact hi
    have e3 : (numsOf ws vs)[ws.idxOf vs[j]] = j + 1 := by
      simp only [numsOf, List.getElem_map]
      rw [e, idxS nd2 hj]
    have nd3 : (numsOf ws vs).Nodup := W.nodup_map_of nd fun x hx y hy q => by
      obtain ⟨a1, a2⟩ := getS (hp.mem_iff.mp hx)
      obtain ⟨b1, b2⟩ := getS (hp.mem_iff.mp hy)
      have q2 : vs.idxOf x = vs.idxOf y := by omega
      rw [← a2, ← b2]
      congr 1
    have e4 : (numsOf ws vs).idxOf (j + 1) = ws.idxOf vs[j] := by
      have := W.idxOf_get nd3 hi2
      rwa [e3] at this
    simp only [W.invN, List.getElem_map, List.getElem_range', Nat.one_mul]
    rw [show 1 + j = j + 1 by omega, e4]
    simp [numsOf]
/-- the distance of two rows -/
def dist (ws vs : List Str) : Nat := W.far (numsOf ws vs)
theorem dist_comm {ws vs : List Str} (G1 : GoodT ws) (G2 : GoodT vs) (hp : ws.Perm vs) : dist ws vs = dist vs ws := by
  unfold dist
  rw [numsOf_inv G1.nd G2.nd hp, W.far_inv (numsOf_isP G1 G2 hp)]
end DL

/-! Plain laws: rows whose distance is known. -/
namespace DL.W
variable [DL.Wd] [DL.Fb]
/-! moved, taken elsewhere, two exchanged: each one exchange -/
def movN (n a t : Nat) : List Nat := let rest := (List.range' 1 n).take a ++ (List.range' 1 n).drop (a + 1); rest.take t ++ [a + 1] ++ rest.drop t
def pairN (n a t : Nat) : List Nat := ((List.range' 1 n).set a (t + 1)).set t (a + 1)
end DL.W
namespace DL
variable [DL.Wd] [DL.Fb]
open PySem
theorem byN_range {ws : List Str} : byN ws (List.range' 1 ws.length) = ws := by
  apply List.ext_getElem
  · simp [byN]
  · intro i h3 h4
    simp [byN, List.getElem?_eq_getElem h4]
theorem numsOf_byN {ws : List Str} (G : GoodT ws) {ns : List Nat} (hn : W.IsP ns) (hl : ns.length = ws.length) : numsOf (byN ws ns) ws = ns := by
  have h := numsOf_byO (ws := ws) (ts := List.range' 1 ws.length) (ns := ns) (by rw [byN_range]; exact G) hn (by rw [List.length_range', hl])
  have e : byO (List.range' 1 ws.length) ns = ns := by
    unfold byO
    conv => rhs; rw [← List.map_id ns]
    apply List.map_congr_left
    intro n hm
    obtain ⟨h1, h2⟩ := (IsP.mem hn).mp hm
    have : n - 1 < (List.range' 1 ws.length).length := by rw [List.length_range']; omega
    rw [W.getD_lt this, List.getElem_range']
    show 1 + 1 * (n - 1) = n
    omega
  rwa [byN_range, e] at h
structure RowF (ws : List Str) (xs : List Nat) : Prop where
  nd : xs.Nodup
  bd : ∀ n ∈ xs, 1 ≤ n ∧ n ≤ ws.length
  pos : 0 < xs.length
  good : GoodT (byN ws xs)
  perm : (byN ws xs).Perm ws
  ds : dist (byN ws xs) ws = W.far xs
  ds2 : dist ws (byN ws xs) = W.far xs
end DL

/-! Plain laws: a row out of order has an exchange that makes two rings more; so the distance is the least number of exchanges. -/
namespace DL
variable [DL.Wd] [DL.Fb]
namespace W
theorem least_ne {f : Nat → Nat} : ∀ m : Nat, (∀ j, j < m → f j = j) ∨ ∃ x, x < m ∧ f x ≠ x ∧ ∀ j, j < x → f j = j
  | 0 => .inl fun j hj => absurd hj (Nat.not_lt_zero _)
  | m + 1 => by
    rcases least_ne (f := f) m with h | ⟨x, h1, h2, h3⟩
    · by_cases e : f m = m
      · exact .inl fun j hj => by
          by_cases q : j = m
          · rw [q, e]
          · exact h j (by omega)
      · exact .inr ⟨m, by omega, e, h⟩
    · exact .inr ⟨x, by omega, h2, h3⟩
theorem rg_of_pad {ns : List Nat} (h : ∀ j, j < ns.length + 1 → (padN ns).getD j 0 = j) : ns = List.range' 1 ns.length := by
  apply List.ext_getElem (by rw [List.length_range'])
  intro i h1 h2
  have := h (i + 1) (by omega)
  rw [pad_in h1] at this
  rw [this, List.getElem_range']; omega
theorem top_in {ns : List Nat} (h : IsP ns) {p r : Nat} (hr : r < ns.length + 1) (low : ∀ j, j ≤ p → (padN ns).getD j 0 = j) :
    ∀ k q : Nat, ns.length + 1 - (padN ns).getD q 0 ≤ k → p < q → q ≤ r → ∃ q', p < q' ∧ q' ≤ r ∧ r < (padN ns).idxOf ((padN ns).getD q' 0 + 1)
  | 0, q, hk, h1, h2 => by
    have := pad_low h (i := q) (by omega)
    omega
  | k + 1, q, hk, h1, h2 => by
    have lw := pad_low h (i := q) (by omega)
    obtain ⟨i1, i2⟩ := pad_of_idx h (x := (padN ns).getD q 0 + 1) (by omega)
    by_cases c : r < (padN ns).idxOf ((padN ns).getD q 0 + 1)
    · exact ⟨q, h1, h2, c⟩
    · refine top_in h hr low k ((padN ns).idxOf ((padN ns).getD q 0 + 1)) (by omega) ?_ (by omega)
      refine Nat.lt_of_not_le fun le => ?_
      have e1 := low _ le
      rw [i2] at e1
      have e2 := low ((padN ns).getD q 0) (by omega)
      have := (permN_pad h).inj q ((padN ns).getD q 0) (by omega) (by omega) e2.symm
      omega
theorem good_at {ns : List Nat} (h : IsP ns) {x q : Nat} (x1 : x < ns.length + 1) (x2 : (padN ns).getD x 0 ≠ x) (x3 : ∀ j, j < x → (padN ns).getD j 0 = j) (q1 : x - 1 < q) (q2 : q ≤ (padN ns).idxOf x - 1) (q3 : (padN ns).idxOf x - 1 < (padN ns).idxOf ((padN ns).getD q 0 + 1)) :
    Exch ns.length (x - 1) q ((padN ns).idxOf x - 1) ((padN ns).idxOf ((padN ns).getD q 0 + 1) - 1) ∧ nrings (swapL ns (x - 1) q ((padN ns).idxOf x - 1) ((padN ns).idxOf ((padN ns).getD q 0 + 1) - 1)) = nrings ns + 2 := by
  have x0 : x ≠ 0 := fun e => x2 (by rw [e]; rfl)
  obtain ⟨k1, k2⟩ := pad_of_idx h (x := x) (by omega)
  have kx : x < (padN ns).idxOf x := by
    refine Nat.lt_of_not_le fun le => ?_
    by_cases e : (padN ns).idxOf x = x
    · rw [e] at k2; exact x2 k2
    · have := x3 _ (show (padN ns).idxOf x < x by omega)
      simp only [k2] at this; omega
  have kn := idx_low h (u := x) x1
  have lq := pad_low h (i := q) (by omega)
  obtain ⟨s1, s2⟩ := pad_of_idx h (x := (padN ns).getD q 0 + 1) (by omega)
  have s0 : (padN ns).idxOf ((padN ns).getD q 0 + 1) ≠ (padN ns).idxOf x := fun e => by
    rw [e, k2] at s2
    have := x3 (x - 1) (by omega)
    have := (permN_pad h).inj q (x - 1) (by omega) (by omega) (by simp only [this]; omega)
    omega
  have e : Exch ns.length (x - 1) q ((padN ns).idxOf x - 1) ((padN ns).idxOf ((padN ns).getD q 0 + 1) - 1) := ⟨q1, q2, by omega, by omega⟩
  refine ⟨e, ?_⟩
  have hl := swapL_len e
  have ec := cyc_congr fun u hu => phi_swap h e (u := u) hu
  rw [nrings_phi h, nrings_phi (h.swap e), hl, ec]
  have d : ∀ a b, a < ns.length + 1 → b < ns.length + 1 → a ≠ b → (padN ns).getD a 0 ≠ (padN ns).getD b 0 := fun a b ha hb ne q => ne ((permN_pad h).inj a b ha hb q)
  have b := fun a (ha : a < ns.length + 1) => pad_low h ha
  have ph : ∀ a, a < ns.length + 1 → phi ns ((padN ns).getD a 0) = (padN ns).getD (a + 1) 0 - 1 := fun a ha => by
    unfold phi; rw [pad_idx h (by omega)]
  obtain ⟨e1, e2, e3, e4⟩ := e
  generalize hr : (padN ns).idxOf x - 1 = r at *
  generalize hs : (padN ns).idxOf ((padN ns).getD q 0 + 1) - 1 = s at *
  have f1 : phi ns ((padN ns).getD r 0) = (padN ns).getD (x - 1) 0 := by
    rw [ph r (by omega), show r + 1 = (padN ns).idxOf x by omega, k2]
    exact (x3 (x - 1) (by omega)).symm
  have c1 := sw_fix (permN_phi h) (b (x - 1) (by omega)) (b r (by omega)) (d (x - 1) r (by omega) (by omega) (by omega)) f1
  have f2 : sw (phi ns) ((padN ns).getD (x - 1) 0) ((padN ns).getD r 0) ((padN ns).getD s 0) = (padN ns).getD q 0 := by
    unfold sw
    rw [if_neg (d s (x - 1) (by omega) (by omega) (by omega)), if_neg (d s r (by omega) (by omega) (by omega)), ph s (by omega), show s + 1 = (padN ns).idxOf ((padN ns).getD q 0 + 1) by omega, s2]
    omega
  have c2 := sw_fix ((permN_phi h).sw (b (x - 1) (by omega)) (b r (by omega))) (b q (by omega)) (b s (by omega)) (d q s (by omega) (by omega) (by omega)) f2
  omega
theorem good_x {ns : List Nat} (ne : ns ≠ List.range' 1 ns.length) : ∃ x, x < ns.length + 1 ∧ (padN ns).getD x 0 ≠ x ∧ ∀ j, j < x → (padN ns).getD j 0 = j := by
  obtain h1 | ⟨x, x1, x2, x3⟩ := least_ne (f := fun j => (padN ns).getD j 0) (ns.length + 1)
  · exact absurd (rg_of_pad h1) ne
  · exact ⟨x, x1, x2, x3⟩
theorem ahead_x {ns : List Nat} (h : IsP ns) {x : Nat} (x1 : x < ns.length + 1) (x2 : (padN ns).getD x 0 ≠ x) (x3 : ∀ j, j < x → (padN ns).getD j 0 = j) : 0 < x ∧ x < (padN ns).idxOf x ∧ (padN ns).idxOf x < ns.length + 1 := by
  have x0 : x ≠ 0 := fun e => x2 (by rw [e]; rfl)
  obtain ⟨k1, k2⟩ := pad_of_idx h (x := x) (by omega)
  have kn := idx_low h (u := x) x1
  refine ⟨by omega, Nat.lt_of_not_le fun le => ?_, kn⟩
  by_cases e : (padN ns).idxOf x = x
  · rw [e] at k2; exact x2 k2
  · have := x3 _ (show (padN ns).idxOf x < x by omega)
    simp only [k2] at this; omega
theorem good {ns : List Nat} (h : IsP ns) (ne : ns ≠ List.range' 1 ns.length) : ∃ p q r s, Exch ns.length p q r s ∧ nrings (swapL ns p q r s) = nrings ns + 2 := by
  obtain ⟨x, x1, x2, x3⟩ := good_x ne
  obtain ⟨x0, kx, kn⟩ := ahead_x h x1 x2 x3
  obtain ⟨q, q1, q2, q3⟩ := top_in h (p := x - 1) (r := (padN ns).idxOf x - 1) (by omega) (fun j hj => x3 j (by omega)) _ x (Nat.le_refl _) (by omega) (by omega)
  exact ⟨_, _, _, _, good_at h x1 x2 x3 q1 q2 q3⟩
theorem good_far {ns : List Nat} (h : IsP ns) (ne : ns ≠ List.range' 1 ns.length) : ∃ p q r s, Exch ns.length p q r s ∧ far (swapL ns p q r s) + 1 = far ns := by
  obtain ⟨p, q, r, s, e, c⟩ := good h ne
  refine ⟨p, q, r, s, e, ?_⟩
  have := nrings_le (h.swap e)
  have hl := swapL_len e
  unfold far
  omega
theorem far_zero {ns : List Nat} (h : IsP ns) : far ns = 0 ↔ ns = List.range' 1 ns.length := by
  refine ⟨fun z => ?_, fun e => by rw [e, far_rg]⟩
  refine Classical.byContradiction fun ne => ?_
  obtain ⟨p, q, r, s, e, c⟩ := good_far h ne
  omega
inductive Steps {α : Type} : Nat → List α → List α → Prop where
  | nil (xs : List α) : Steps 0 xs xs
  | cons {k : Nat} {xs ys : List α} {p q r s : Nat} (e : Exch xs.length p q r s) (t : Steps k (swapL xs p q r s) ys) : Steps (k + 1) xs ys
theorem swapL_map {α β : Type} (g : α → β) (xs : List α) (p q r s : Nat) : swapL (xs.map g) p q r s = (swapL xs p q r s).map g := by
  unfold swapL; simp [List.map_take, List.map_drop]
theorem Steps.map {α β : Type} (g : α → β) {k : Nat} {xs ys : List α} (t : Steps k xs ys) : Steps k (xs.map g) (ys.map g) := by
  induction t with
  | nil => exact .nil _
  | cons e t ih => exact .cons (by rw [List.length_map]; exact e) (by rw [swapL_map]; exact ih)
theorem Steps.perm {α : Type} {k : Nat} {xs ys : List α} (t : Steps k xs ys) : ys.Perm xs := by
  induction t with
  | nil => exact .refl _
  | cons e t ih => exact ih.trans (swapL_perm e)
end W
end DL

/-! Plain laws: the distance of rows as the least number of exchanges; rows told by numbers. -/
namespace DL
variable [DL.Wd] [DL.Fb]
open PySem
theorem byN_numsOf {ws vs : List Str} (hp : ws.Perm vs) : byN vs (numsOf ws vs) = ws := by
  unfold byN numsOf
  rw [List.map_map]
  conv => rhs; rw [← List.map_id ws]
  apply List.map_congr_left
  intro w hw
  obtain ⟨h1, h2⟩ := getS (hp.mem_iff.mp hw)
  show vs.getD (vs.idxOf w + 1 - 1) "" = w
  rw [Nat.add_sub_cancel, W.getD_lt h1, h2]
/-- the numbers of one line of numbers told by another -/
def relN (xs ys : List Nat) : List Nat := xs.map fun x => ys.idxOf x + 1
end DL

/-! Plain laws: lists of numbers that may be asked and shown; the rings found by walking; parity. -/
namespace DL
variable [DL.Wd] [DL.Fb]
open PySem
namespace W
end W
end DL

/-! Plain laws: the next good exchange, plans of good exchanges. -/
namespace DL
variable [DL.Wd] [DL.Fb]
open PySem
namespace W
def endN (ns : List Nat) (v : Nat) : Nat := if v ∈ ns then ns.idxOf v else ns.length
/-- the numbers below x stand in order, x doesn't, y is the greatest ahead of x -/
structure Ahead (ns : List Nat) (x y : Nat) : Prop where
  one : 1 ≤ x
  le : x ≤ ns.length
  ord : ∀ j, j < x → (padN ns).getD j 0 = j
  y_in : y ∈ ns.take (ns.idxOf x)
  top : ∀ z ∈ ns.take (ns.idxOf x), z ≤ y
  gt : x < y
abbrev Ex4 := Nat × Nat × Nat × Nat
def swapE (ns : List Nat) (e : Ex4) : List Nat := swapL ns e.1 e.2.1 e.2.2.1 e.2.2.2
def ExchE (n : Nat) (e : Ex4) : Prop := Exch n e.1 e.2.1 e.2.2.1 e.2.2.2
/-- a plan of good exchanges that ends in order -/
def GoodPlan : List Nat → List Ex4 → Prop
  | ns, [] => ns = List.range' 1 ns.length
  | ns, e :: t => ExchE ns.length e ∧ far (swapE ns e) + 1 = far ns ∧ GoodPlan (swapE ns e) t
end W
def exT (e : W.Ex4) : D := stepD e.1 e.2.1 e.2.2.1 e.2.2.2
namespace W
/-- a line run through a plan -/
def runE {α : Type} (xs : List α) (t : List Ex4) : List α := t.foldl (fun ys e => swapL ys e.1 e.2.1 e.2.2.1 e.2.2.2) xs
theorem runE_len {α : Type} : ∀ {t : List Ex4} {xs : List α}, (∀ e ∈ t, ExchE xs.length e) → (runE xs t).length = xs.length
  | [], _, _ => rfl
  | e :: t, xs, h => by
    have h1 := swapL_len (h e List.mem_cons_self)
    have := runE_len (t := t) (xs := swapL xs e.1 e.2.1 e.2.2.1 e.2.2.2) fun z hz => by rw [h1]; exact h z (List.mem_cons_of_mem _ hz)
    rw [h1] at this
    exact this
theorem runE_perm {α : Type} : ∀ {t : List Ex4} {xs : List α}, (∀ e ∈ t, ExchE xs.length e) → (runE xs t).Perm xs
  | [], _, _ => .refl _
  | e :: t, xs, h => by
    have h1 := swapL_len (h e List.mem_cons_self)
    have := runE_perm (t := t) (xs := swapL xs e.1 e.2.1 e.2.2.1 e.2.2.2) fun z hz => by rw [h1]; exact h z (List.mem_cons_of_mem _ hz)
    exact this.trans (swapL_perm (h e List.mem_cons_self))
end W
end DL

/-! Plain laws: rows side by side. -/
namespace DL.W
variable [DL.Wd] [DL.Fb]
def catP (ns ms : List Nat) : List Nat := ns ++ ms.map (· + ns.length)
/-- two functions, the last place of the one being the first of the other -/
def joinF (n : Nat) (f g : Nat → Nat) (x : Nat) : Nat := if x < n then f x else if g (x - n) = 0 then f n else n + g (x - n)
end DL.W
namespace DL
variable [DL.Wd] [DL.Fb]
open PySem PySem.Spec PyProof.Rows L2
end DL
namespace DL.W
variable [DL.Wd] [DL.Fb]
theorem GoodPlan.ex : ∀ {t : List Ex4} {ns : List Nat}, GoodPlan ns t → ∀ e ∈ t, ExchE ns.length e
  | [], _, _, _, h => absurd h List.not_mem_nil
  | a :: t, ns, g, e, h => by
    obtain ⟨g1, _, g3⟩ := g
    rcases List.mem_cons.mp h with rfl | h
    · exact g1
    · have := GoodPlan.ex g3 e h
      rwa [show (swapE ns a).length = ns.length from swapL_len g1] at this
theorem GoodPlan.mid : ∀ {t : List Ex4} {ns : List Nat} (k : Nat), IsP ns → GoodPlan ns t → GoodPlan (runE ns (t.take k)) (t.drop k) ∧ IsP (runE ns (t.take k))
  | t, ns, 0, h, g => by simpa [runE] using ⟨g, h⟩
  | [], ns, k + 1, h, g => by simpa [runE] using ⟨g, h⟩
  | a :: t, ns, k + 1, h, g => by
    obtain ⟨g1, _, g3⟩ := g
    have := GoodPlan.mid k (h.swap g1) g3
    simpa [runE] using this
theorem GoodPlan.done {t : List Ex4} {ns : List Nat} (h : IsP ns) (g : GoodPlan ns t) : runE ns t = List.range' 1 ns.length := by
  have m := (g.mid t.length h).1
  rw [List.drop_length, List.take_length] at m
  have : runE ns t = List.range' 1 (runE ns t).length := m
  rwa [runE_len g.ex] at this
end DL.W
namespace DL
variable [DL.Wd] [DL.Fb]
open PySem PySem.Spec PyProof.Rows L2
structure RowPlan (vs us : List Str) (t : List W.Ex4) : Prop where
  ex : ∀ e ∈ t, W.ExchE vs.length e
  to : W.runE vs t = us
  far : t.length = dist vs us
  fst : ∀ k, k ≤ t.length → dist vs (W.runE vs (t.take k)) = k
  lst : ∀ k, k ≤ t.length → dist (W.runE vs (t.take k)) us = t.length - k
end DL

/-! Plain laws: all exchanges in their order, the good ones. -/
namespace DL.W
variable [DL.Wd] [DL.Fb]
def seg3 (n p q r : Nat) : List Ex4 := (List.range (n - r)).map fun i => (p, q, r, r + 1 + i)
def seg2 (n p q : Nat) : List Ex4 := (List.range (n - q)).flatMap fun i => seg3 n p q (q + i)
def seg1 (n p : Nat) : List Ex4 := (List.range (n - p)).flatMap fun i => seg2 n p (p + 1 + i)
def allE (n : Nat) : List Ex4 := (List.range n).flatMap (seg1 n)
theorem flat_len {α : Type} {f : Nat → List α} {B : Nat} (h : ∀ i, (f i).length ≤ B) : ∀ k, ((List.range k).flatMap f).length ≤ k * B
  | 0 => by simp
  | k + 1 => by
    have e : (List.range (k + 1)).flatMap f = (List.range k).flatMap f ++ f k := by rw [List.range_succ, List.flatMap_append]; simp
    rw [e, List.length_append, Nat.succ_mul]
    exact Nat.add_le_add (flat_len h k) (h k)
def goodB (ns : List Nat) (e : Ex4) : Bool := decide (far (swapE ns e) < far ns)
def goodE (ns : List Nat) : List Ex4 := (allE ns.length).filter (goodB ns)
end DL.W
namespace DL
variable [DL.Wd] [DL.Fb]
open PySem PySem.Spec PyProof.Rows L2
end DL

/-! Plain laws: an exchange undone; exchanges put down thing by thing. -/
namespace DL.W
variable [DL.Wd] [DL.Fb]
theorem Exch.back {n p q r s : Nat} (e : Exch n p q r s) : Exch n p (p + s - r) (s + p - q) s := by
  obtain ⟨h1, h2, h3, h4⟩ := e
  exact ⟨by omega, by omega, by omega, h4⟩
def undoE (e : Ex4) : Ex4 := (e.1, e.1 + e.2.2.2 - e.2.2.1, e.2.2.2 + e.1 - e.2.1, e.2.2.2)
def undoL (t : List Ex4) : List Ex4 := t.reverse.map undoE
end DL.W
namespace DL
variable [DL.Wd] [DL.Fb]
open PySem PySem.Spec PyProof.Rows L2
end DL
namespace DL
variable [DL.Wd] [DL.Fb]
open PySem PySem.Spec PyProof.Rows L2
end DL

/-! Plain laws: rows turned round. -/
namespace DL
variable [DL.Wd] [DL.Fb]
open PySem PySem.Spec PyProof.Rows L2
def rotL (ws : List Str) (k : Nat) : List Str := ws.drop k ++ ws.take k
def rotW (ws : List Str) (w : Str) : List Str := rotL ws (ws.idxOf w)
def isRot (ws vs : List Str) : Bool := decide (rotW ws (vs.getD 0 "") = vs)
end DL

/-! Plain laws: rounds. The rings of two rounds, whatever things both are cut at. -/
namespace DL
variable [DL.Wd] [DL.Fb]
open PySem
/-- what is behind x on the round, what is ahead of y -/
def nxW (ws : List Str) (x : Str) : Str := ws.getD (if ws.idxOf x + 1 < ws.length then ws.idxOf x + 1 else 0) ""
def pvW (vs : List Str) (y : Str) : Str := vs.getD (if 0 < vs.idxOf y then vs.idxOf y - 1 else vs.length - 1) ""
theorem gD {ws : List Str} {i : Nat} (hi : i < ws.length) : ws.getD i "" = ws[i] := by rw [List.getD_eq_getElem?_getD, List.getElem?_eq_getElem hi]; rfl
def psi (ws vs : List Str) (u : Nat) : Nat := if u = 0 then 0 else vs.idxOf (pvW vs (nxW ws (vs.getD (u - 1) ""))) + 1
/-- the least distance of two rounds -/
def rdist (ws vs : List Str) : Nat := (ws.length + 1 - W.cyc (ws.length + 1) (psi ws vs)) / 2
end DL

/-! Own exception classes whose __init__ says super().__init__() and stores its parameters: made. -/
namespace PySem.W
open PySem PySem.Calls PyProof.Rows
section
variable {prog : Program} {w : World} {A : Around} {E : Value → Shared → Prop} {s : Shared} {h₀ : Heap} {L : Addr} {m mg mb : Str → Option Value} {news : List (Addr × Obj)} {K : Frag} {x C D f f2 cc cda so : Addr} {ox : Obj} {odx : Option Obj}
theorem node2 {body : List Stmt} {q : Str} {scope : Scope} {p0 p1 : Pos} {attr : Str} {whole : Sem Value} {fd : FuncData} {ar : Arg} {vs : Array Value} {file : Str} {tf : Tok} {oc ccl cl : Value} {od cdd cld : Option Addr} {osl ccs csl : Array (Option Value)} {cdD : ClassData} {Q : Value → Shared → Prop}
    (F : Fr h₀ L s.heap m) (X₀ : K.In h₀) (N : News h₀ L s.heap news) (hg : h₀.Ns mainGlobals mg) (hb : h₀.Ns builtinsNs mb) (hbb : ∀ x : Str, x ≠ "__name__" → mb x = bootBuiltins x)
    (hf : K.lookup f = some ⟨oc, od, .func fd, osl⟩) (hp : (fd.params.posonlyargs ++ fd.params.args).head? = some ar) (hv : m ar.arg = some (.ref x)) (I : InstAt s.heap x ox C odx)
    (hcode : K.lookup cda = some ⟨ccl, cdd, .fields vs, ccs⟩) (hvs : vs[2]? = some (.str file tf)) (hfile : ((prog.main.file : Str) == file) = true)
    (hcell : K.lookup cc = some ⟨cl, cld, .cell (some (.ref D)), csl⟩) (hD : clsIn K D = some cdD) (hsub : mroIn K C (.ref D) = some true) (hsuper : nsIn K mainGlobals "super" = some none)
    (hat : (attr == ("__class__" : Str)) = false) (hks : scope.names.lookup ("super" : Str) = some .globalImplicit) (hkc : scope.names.lookup ("__class__" : Str) = some .free) (hka : scope.names.lookup ar.arg = some .local) (hk : scope.kind = .function)
    (htop : (prog.main.scope.names.lookup ("super" : Str)).isSome = false) (hboot : bootBuiltins "super" = some (.type "super"))
    (h : ∀ so h', Fr h₀ L h' m → News h₀ L h' ((so, ks_superObj D x C) :: news) → (∀ p ∈ news, p.1 < so) → Q (.ref so) { s with heap := h' }) :
    _root_.PySem.wpAt (model prog w) A (.func body (ksEnv q scope L f (.ref cda) cc)) (attributeBase (.Call (.Name "super" p0) [] [] p1) attr (ksEnv q scope L f (.ref cda) cc) whole) Q E s := by
  have X : K.In s.heap := X₀.keeps F.keep
  obtain ⟨hh, g, d, t, os⟩ := s
  obtain ⟨oD, hD1, hD2⟩ : ∃ oD, hh.get? D = some oD ∧ oD.data = .cls cdD := by
    unfold clsIn at hD
    split at hD
    · rename_i c d cd' sl ho
      cases hD
      exact ⟨_, X _ _ ho, rfl⟩
    · cases hD
  refine ks_wpAt_super_base (env := ksEnv q scope L f (.ref cda) cc) hks hkc hat rfl (X _ _ hf) rfl hp rfl (X _ _ hcode) rfl hvs hfile htop ?_
  refine ks_loadName_global hk hks (loadGlobal_builtin (env := ksEnv q scope L f (.ref cda) cc) (hg.keeps F.keep) (mg_none_of X₀ hg hsuper) (hb.keeps F.keep) ((hbb _ (by decide +kernel)).trans hboot) ⟨rfl, ?_⟩)
  refine wpAny_loadName_free hk hkc rfl ⟨_, X _ _ hcell, rfl⟩ ?_
  refine wpAny_loadName_local hk hka F.ns hv ?_
  refine ks_wpAny_isType_cls hD1 hD2 ⟨rfl, ?_⟩
  refine ks_wpAny_call_super hD1 hD2 I.at_ I.cls (fun c e => ?_) (looks_mroIn X hsub) (fun h' e k => ?_)
  · have := I.no
    unfold notCls at this
    rw [e] at this
    exact Bool.noConfusion this
  · obtain ⟨F', N', l'⟩ := ks_newsPush (s := ⟨hh, g, d, t, os⟩) F N rfl e k
    exact h _ _ F' N' l'
end
/-- what must be seen of such a class: its built-in base B, its __init__, that class's own attributes -/
structure XcF (prog : Program) (K : Frag) (C : Addr) (B newId i : String) (bmB : List Value) (f cc cda : Addr) (nm qu : Str) (par : Arguments) (body : List Stmt) (scope : Scope) (binds : List Str) : Prop where
  KF : KxsFacts B i
  FB : ExcBaseFacts B newId i bmB
  SF : StoreFacts B bmB "object.__setattr__" "object"
  q : excInitIn K C bmB newId = true
  hi : findIn K (.ref C) "__init__" = some (some (.ref f))
  fn : isFn K (.ref f) = true
  lk : ∃ oc od dV kV doc pm an ct osl, K.lookup f = some ⟨oc, od, .func (ksFn nm qu par body scope dV kV doc pm an (.ref cda) ct cc), osl⟩ ∧
    ∀ (s : Shared) (vs : List Value), vs.length = binds.length → BindsTo s (ksFn nm qu par body scope dV kV doc pm an (.ref cda) ct cc) ⟨vs, []⟩ (binds.zip vs)
  cd : codeIn K (.ref cda) qu = true
  code : ∃ ccl cdd vs ccs file tf, K.lookup cda = some ⟨ccl, cdd, .fields vs, ccs⟩ ∧ vs[2]? = some (.str file tf) ∧ ((prog.main.file : Str) == file) = true
  cell : ∃ cl cld csl, K.lookup cc = some ⟨cl, cld, .cell (some (.ref C)), csl⟩
  cls : ∃ cdD, clsIn K C = some cdD
  mro : mroIn K C (.ref C) = some true
  sup : ks_superIn K C C "__init__" = some (some (.builtin i))
  sub : subIn K (.ref C) (.type B) = some true
  third : nsIn K cStatics "thirdparty.any" = some none
  sa : findIn K (.ref C) "__setattr__" = some (some (.builtin "object.__setattr__"))
  over : excOver K C bmB = true
  dict : hasDictIn K C = true
  noSuper : nsIn K mainGlobals "super" = some none
  top : (prog.main.scope.names.lookup ("super" : Str)).isSome = false
  par1 : ∃ ar, (par.posonlyargs ++ par.args).head? = some ar ∧ ar.arg = ("self" : Str)
  sc1 : scope.names.lookup ("super" : Str) = some .globalImplicit
  sc2 : scope.names.lookup ("__class__" : Str) = some .free
  sc3 : ∀ x ∈ binds, scope.names.lookup x = some .local
  sc4 : ∀ x ∈ scope.names, x.2 ≠ .cell
  sc5 : scope.isCoroutine = false ∧ scope.isGenerator = false ∧ scope.kind = .function
section
variable {prog : Program} {w : World} {A : Around} {E : Value → Shared → Prop} {s : Shared} {mg mb : Str → Option Value} {K : Frag} {C f cc cda : Addr} {B newId i : String} {bmB : List Value} {nm qu fld a1 : Str} {par : Arguments} {scope : Scope} {p0 p1 p2 p3 p4 p5 p6 p7 p8 : Pos}
theorem call_exc1 {v : Value} {Q : Value → Shared → Prop} (X : K.In s.heap) (hg : s.heap.Ns mainGlobals mg) (hb : s.heap.Ns builtinsNs mb) (hbb : ∀ x : Str, x ≠ "__name__" → mb x = bootBuiltins x) (hlim : s.heap.NoLimit) (hroom : A.depth + 5 < recursionLimit)
    (T : XcF prog K C B newId i bmB f cc cda nm qu par [.Expr (.Call (.Attribute (.Call (.Name "super" p0) [] [] p1) "__init__" p2) [] [] p3) p4, .Assign [.Attribute (.Name "self" p5) fld p6] (.Name a1 p7) p8] scope ["self", a1])
    (ht : takerIn K C fld = some none) (ne : a1 ≠ ("self" : Str)) (hdb : (a1 == ("__debug__" : Str)) = false)
    (hev : ∀ env, ∃ pl, eval (.Call (.Attribute (.Call (.Name "super" p0) [] [] p1) "__init__" p2) [] [] p3) env = (do
      let ov ← attributeBase (.Call (.Name "super" p0) [] [] p1) "__init__" env (eval (.Call (.Name "super" p0) [] [] p1) env)
      standAt p2.atName
      let (f, first) ← holding [ov] (getMethod ov "__init__" pl)
      callWith p3 f first (backTo p3 (starEach [] env)) []))
    (hs1 : ∀ env, swapsWith (.Call (.Attribute (.Call (.Name "super" p0) [] [] p1) "__init__" p2) [] [] p3) none p4.line env = pure false)
    (hs2 : ∀ env, swapsWith (.Name a1 p7) (some (.Attribute (.Name "self" p5) fld p6)) p8.line env = pure false)
    (h : ∀ e dx t h' tk tk', (∀ b o, s.heap.get? b = some o → h'.get? b = some o) → s.heap.get? e = none → s.heap.objs.size ≤ dx → dx ≠ e → h'.get? e = some (excObj C t (some dx) .none) →
      h'.get? dx = some (dictOf [⟨PyData.keyHash w.params fld, .str fld tk', v⟩] 1) → Q (.ref e) { s with heap := h', toks := tk }) : wpAny (model prog w) A (call (.ref C) [v]) Q E s := by
  obtain ⟨nm', N', qn, bs, bm, hdct, sn, sub, ab, col, dd, k0, k1, k2, k3, k5, hC, hT⟩ := excInit_of X T.q
  obtain ⟨oI, hoI, hcI⟩ : ∃ oI, s.heap.get? f = some oI ∧ oI.cls = .type "function" := by
    obtain ⟨o, ho, hc⟩ := Option.map_eq_some_iff.mp (show (K.lookup f).map (·.cls) = some (.type "function") from beq_iff_eq.mp T.fn)
    exact ⟨o, X _ _ ho, hc⟩
  have hi' : Looks (model prog w) s.heap (typeLookup (.ref C) "__init__") (some (.ref f)) := looks_findIn X T.hi
  obtain ⟨oc, od, dV, kV, doc, pm, an, ct, osl, lk, hbind⟩ := T.lk
  obtain ⟨ccl, cdd, cvs, ccs, file, tf, code1, code2, code3⟩ := T.code
  obtain ⟨cl, cld, csl, cell1⟩ := T.cell
  obtain ⟨cdD, cls1⟩ := T.cls
  obtain ⟨ar, ar1, ar2⟩ := T.par1
  obtain ⟨hh, g, d, tk, os⟩ := s
  have k2' : ∀ b o, hh.get? b = some o → ((hh.push (kdv_tup [v])).push (excObj C hh.objs.size none .none)).get? b = some o := fun b o e => Heap.get?_push_of_some _ (Heap.get?_push_of_some _ e)
  have neLt : ∀ a, hh.objs.size ≤ a → hh.get? a = none := fun a ha => by
    cases z : hh.get? a with
    | none => rfl
    | some o => exact absurd (Heap.lt_size z) (Nat.not_lt.mpr ha)
  refine wpAny_call (PX.call_own T.FB hT hC hi' (fun self => exc_bind hoI hcI self) (by show 1 ≤ sizeLine; rw [sizeLine_eq]; omega) ?_)
  refine ks_codeAny_call_defAt (fd := ksFn nm qu par _ scope dV kV doc pm an (.ref cda) ct cc) (binds := [("self", .ref (hh.objs.size + 1)), (a1, v)]) ?room (k2' _ _ (X _ _ lk)) rfl (hlim.keeps k2') (codeRec_of (X.keeps k2') T.cd) rfl (hbind _ [.ref (hh.objs.size + 1), v] rfl) T.sc4 ?loc (fun h₁ hns hk => ?_) T.sc5.1 T.sc5.2.1 T.sc5.2.2
  case room => rw [depth_under_make]; show A.depth + 1 < _; omega
  case loc =>
    intro x hx
    simp only [List.mem_cons, List.not_mem_nil, or_false] at hx
    rcases hx with rfl | rfl
    · exact T.sc3 _ (by simp)
    · exact T.sc3 _ (by simp)
  have sz2 : ((hh.push (kdv_tup [v])).push (excObj C hh.objs.size none .none)).objs.size = hh.objs.size + 2 := by rw [Heap.size_push, Heap.size_push]
  have F : Fr hh _ h₁ _ := ⟨hns, fun b o e => hk b o (k2' b o e), by show hh.objs.size ≤ ((hh.push (kdv_tup [v])).push (excObj C hh.objs.size none .none)).objs.size; rw [sz2]; omega⟩
  have N : News hh ((hh.push (kdv_tup [v])).push (excObj C hh.objs.size none .none)).objs.size h₁ [(hh.objs.size + 1, excObj C hh.objs.size none .none), (hh.objs.size, kdv_tup [v])] := by
    intro p hp
    simp only [List.mem_cons, List.not_mem_nil, or_false] at hp
    rcases hp with rfl | rfl
    · exact ⟨hk _ _ (Heap.get?_push_at (Heap.size_push ..).symm rfl), by rw [sz2]; exact Nat.ne_of_lt (by omega), neLt _ (by omega)⟩
    · exact ⟨hk _ _ (Heap.get?_push_of_some _ (Heap.get?_push_size _ rfl)), by rw [sz2]; exact Nat.ne_of_lt (by omega), neLt _ (by omega)⟩
  generalize hL : ((hh.push (kdv_tup [v])).push (excObj C hh.objs.size none .none)).objs.size = L at *
  have ms : ([(("self" : Str), Value.ref (hh.objs.size + 1)), (a1, v)] : List (Str × Value)).reverse.lookup ("self" : Str) = some (.ref (hh.objs.size + 1)) := by
    have : (("self" : Str) == a1) = false := by simpa using fun z => ne z.symm
    simp [List.lookup, this]
  have ma : ([(("self" : Str), Value.ref (hh.objs.size + 1)), (a1, v)] : List (Str × Value)).reverse.lookup a1 = some v := by simp [List.lookup]
  obtain ⟨pl, hev⟩ := hev (ksEnv qu scope L f (.ref cda) cc)
  have hint : interactive (ksEnv qu scope L f (.ref cda) cc) = false := by
    show (scope.kind == .module && _) = false
    rw [T.sc5.2.2]; rfl
  generalize hA : (A.under (.builtin "type.__call__" ⟨[.ref C, v], []⟩)).deeper (ksEnv qu scope L f (.ref cda) cc) = A2
  refine ks_wpAt_execs_cons (ks_wpAt_Expr_any (hi := hint) (hs := hs1 _) (ks_wpAt_MethodCall (pl := pl) (he := hev) (node2 (s := ⟨h₁, g, d, tk + 2, os⟩) (D := C) (C := C) (x := hh.objs.size + 1) F X N hg hb hbb lk ar1 (by rw [ar2]; exact ms) (InstAt.of_exc0 (x := hh.objs.size + 1) (t := hh.objs.size) (c2 := .none) N (by simp)) code1 code2 code3 cell1 cls1 T.mro T.noSuper (by decide) T.sc1 T.sc2 (by rw [ar2]; exact T.sc3 _ (by simp)) T.sc5.2.2 T.top (by decide +kernel) ?_)))
  intro so h2 F2 N2 lt2
  refine kxs_method (s := ⟨h2, g, d, tk + 2, os⟩) (x := hh.objs.size + 1) (D := C) (C := C) T.KF F2 X N2 (by simp) (InstAt.of_exc0 (x := hh.objs.size + 1) (t := hh.objs.size) (c2 := .none) N2 (by simp)) T.third T.sup T.sub (by decide) fun u h3 F3 N3 lt3 => ?_
  refine kxs_callWith0 (i := i) (x := hh.objs.size + 1) N3 (by simp) ?_
  refine kxs_call (x := hh.objs.size + 1) (t := hh.objs.size) (dv := none) (c2 := .none) F3 X N3 T.FB T.q (by simp) (.tail ?u1 (.tail ?u2 (.head ?u3))) (by show 0 ≤ sizeLine; omega) fun t4 h4 F4 N4 lt4 => ?_
  case u1 => exact Nat.ne_of_gt (lt3 (hh.objs.size + 1, excObj C hh.objs.size none .none) (by simp))
  case u2 => exact Nat.ne_of_gt (lt2 (hh.objs.size + 1, excObj C hh.objs.size none .none) (by simp))
  case u3 =>
    intro p hp
    simp only [List.mem_cons, List.not_mem_nil, or_false] at hp
    subst hp
    exact Nat.ne_of_lt (Nat.lt_succ_self _)
  dsimp only
  have lo : ∀ {x : Str} {val : Value} {Q : Value → Shared → Prop} {E : Value → Shared → Prop} {M : Model} {A : Around} {s : Shared} {pos : Pos}, s.heap.Ns L (fun y => ([(("self" : Str), Value.ref (hh.objs.size + 1)), (a1, v)] : List (Str × Value)).reverse.lookup y) → ([(("self" : Str), Value.ref (hh.objs.size + 1)), (a1, v)] : List (Str × Value)).reverse.lookup x = some val → scope.names.lookup x = some .local → (x == ("__debug__" : Str)) = false → Q val s →
      wpAny M A (eval (.Name x pos) (ksEnv qu scope L f (.ref cda) cc)) Q E s := fun hn hv hl hd hq => wpAny_Name (wpAny_loadName_local (env := ksEnv qu scope L f (.ref cda) cc) T.sc5.2.2 hl hn hv hq) hd
  refine ks_wpAt_execs_cons (ks_wpAt_Assign_Attr (hs := hs2 _) (wpAt_of_wpAny (lo F4.ns ma (T.sc3 _ (by simp)) hdb (lo F4.ns ms (T.sc3 _ (by simp)) (by decide) ?_))))
  refine set_exc0 (s := ⟨h4, g, d, tk + 2 + 1, os⟩) (x := hh.objs.size + 1) (t := t4) (c2 := .none) T.SF F4 X N4 (by simp) T.sa T.over ht T.dict rfl (.tail ?v1 (.tail ?v2 (.tail ?v3 (.head ?v4)))) (by simp [putL]) fun dx h5 F5 N5 lt5 => ?_
  case v1 => exact Nat.ne_of_gt (lt4 (hh.objs.size + 1, excObj C hh.objs.size none .none) (by simp))
  case v2 => exact Nat.ne_of_gt (lt3 (hh.objs.size + 1, excObj C hh.objs.size none .none) (by simp))
  case v3 => exact Nat.ne_of_gt (lt2 (hh.objs.size + 1, excObj C hh.objs.size none .none) (by simp))
  case v4 =>
    intro p hp
    simp only [List.mem_cons, List.not_mem_nil, or_false] at hp
    subst hp
    exact Nat.ne_of_lt (Nat.lt_succ_self _)
  dsimp only
  refine wpAt_of_wpAny (wpAny_execs_nil ⟨rfl, ?_⟩)
  have m1 := N5 _ (.head _)
  exact h (hh.objs.size + 1) dx t4 h5 (tk + 2 + 1 + 2) (tk + 2 + 1 + 1) F5.keep (neLt _ (by omega)) (by have := lt5 (hh.objs.size + 1, excObj C t4 none .none) (by simp); show hh.objs.size ≤ dx; exact Nat.le_of_lt (Nat.lt_trans (Nat.lt_succ_self _) this)) (Nat.ne_of_gt (lt5 (hh.objs.size + 1, excObj C t4 none .none) (by simp))) (N5 (hh.objs.size + 1, excObj C t4 (some dx) .none) (by simp)).1 m1.1
end
end PySem.W

/-! An own exception of one field, as what is raised. -/
namespace DL
variable [DL.Wd] [DL.Fb]
open PySem PySem.Spec PyProof.Rows L2
theorem ns1_one {h : Heap} {a : Addr} {fld : Str} {hs : Int} {tk : Tok} {u : Value} (e : h.get? a = some (PySem.W.dictOf [⟨hs, .str fld tk, u⟩] 1)) : h.Ns1 a (fun y => if y = fld then some u else none) := by
  refine ⟨_, _, _, e, rfl, ?_, ?_, ?_⟩
  · intro x hx
    simp at hx
    subst hx
    exact ⟨_, _, rfl⟩
  · simp [UniqKeys]
  · intro y
    by_cases hy : y = fld
    · subst hy
      simp [nsFind, findBy, Value.isStr]
    · have : ¬ fld = y := fun z => hy z.symm
      simp [nsFind, findBy, Value.isStr, hy, this]
section
variable {X : Cx}
theorem mk_exc {pins : List (Addr × Obj)} {σ : L2.St} {H : Hp} {Q : XK} {s : Shared} {h' : Heap} {e dx t : Addr} {C : Addr} {fld : Str} {hs : Int} {tk tk' : Tok} {u : Value} {v : V} (I : Inv X pins σ H s) (rv : RelV v u) (k : ∀ b o, s.heap.get? b = some o → h'.get? b = some o) (ne : s.heap.get? e = none) (hd : s.heap.objs.size ≤ dx) (hde : dx ≠ e)
    (he : h'.get? e = some (PySem.W.excObj C t (some dx) .none)) (hdx : h'.get? dx = some (PySem.W.dictOf [⟨hs, .str fld tk', u⟩] 1)) (r : Raises X (.ref C)) (q : Q (.ref C) (some dx) (upd H dx (.xd [(fld, v)]))) :
    L2N.MkP X pins σ Q (.ref e) { s with heap := h', toks := tk } := by
  obtain ⟨G, g1, g2⟩ := restrict h' fun b => (s.heap.get? b).isSome || decide (b = dx)
  have gS : ∀ b o, s.heap.get? b = some o → G.get? b = some o := fun b o z => by rw [g1 b (by simp [z])]; exact k b o z
  have gD : G.get? dx = some (PySem.W.dictOf [⟨hs, .str fld tk', u⟩] 1) := by rw [g1 dx (by simp)]; exact hdx
  have hn : H dx = none := I.hok.fresh hd
  have J : Inv X pins σ (upd H dx (.xd [(fld, v)])) { s with heap := G, toks := tk } := I.laid gS hd ⟨_, ns1_one gD, fun f => by
    by_cases hf : f = fld
    · subst hf
      simp [List.lookup]
      exact rv
    · have h2 : (f == fld) = false := by simpa using hf
      simp [List.lookup, hf, h2]
      exact True.intro⟩
  refine ⟨e, _, _, _, _, .ref C, some dx, rfl, J, fun b o z => ?_, ?_, he, ⟨rfl, rfl, fun vs z => by cases z; rfl⟩, rfl, rfl, ?_, rfl, J.bare, r, q⟩
  · cases w : (s.heap.get? b).isSome || decide (b = dx) with
    | true => rw [g1 b w] at z; exact z
    | false => rw [g2 b w] at z; cases z
  · show G.get? e = none
    exact g2 e (by simp [ne, Ne.symm hde])
  · rw [upd_ne (Ne.symm hde)]
    cases w : H e with
    | none => rfl
    | some o =>
      obtain ⟨u', z⟩ := L2.objOk_get (I.hok e o w)
      rw [ne] at z; cases z
theorem pmk_exc1 {x : Str} {C f cc cda : Addr} {B newId i : String} {bmB : List Value} {nm qu fld a1 : Str} {par : Arguments} {scope : Scope} {p0 p1 p2 p3 p4 p5 p6 p7 p8 p pos : Pos} {e : Expr} {te : TE}
    (T : PySem.W.XcF X.prog X.K C B newId i bmB f cc cda nm qu par [.Expr (.Call (.Attribute (.Call (.Name "super" p0) [] [] p1) "__init__" p2) [] [] p3) p4, .Assign [.Attribute (.Name "self" p5) fld p6] (.Name a1 p7) p8] scope ["self", a1])
    (ht : PySem.W.takerIn X.K C fld = some none) (ne : a1 ≠ ("self" : Str)) (hda : (a1 == ("__debug__" : Str)) = false)
    (hev : ∀ env, ∃ pl, eval (.Call (.Attribute (.Call (.Name "super" p0) [] [] p1) "__init__" p2) [] [] p3) env = (do
      let ov ← attributeBase (.Call (.Name "super" p0) [] [] p1) "__init__" env (eval (.Call (.Name "super" p0) [] [] p1) env)
      standAt p2.atName
      let (f, first) ← holding [ov] (getMethod ov "__init__" pl)
      callWith p3 f first (backTo p3 (starEach [] env)) []))
    (hs1 : ∀ env, swapsWith (.Call (.Attribute (.Call (.Name "super" p0) [] [] p1) "__init__" p2) [] [] p3) none p4.line env = pure false)
    (hs2 : ∀ env, swapsWith (.Name a1 p7) (some (.Attribute (.Name "self" p5) fld p6)) p8.line env = pure false)
    (gC : X.mg x = some (.ref C)) (kC : PySem.W.keepIn X.K (.ref C) = true) (r : Raises X (.ref C)) (hg : Gl X x) (hroom : X.A.depth + 5 < recursionLimit) (he : PE X e te) (hdb : (x == ("__debug__" : Str)) = false)
    (hse : starEach [e] X.env = (false, eval e X.env) :: starEach [] X.env) :
    L2N.PMk X (.Call (.Name x p) [e] [] pos) (fun σ H Q => te σ H fun v H1 => ∀ dx, H1 dx = none → Q (.ref C) (some dx) (upd H1 dx (.xd [(fld, v)]))) := by
  intro pins s σ H Q I h
  refine wpAny_Call_Name_kw (ld_glob I hg gC ?_ hdb)
  refine PySem.W.callWith_K (h₀ := X.base) I.ok.mod.kin kC (thn ((pa_cons he pa_nil hse).run pos pins s σ H (fun vs H1 => match vs with | [v] => ∀ dx, H1 dx = none → Q (.ref C) (some dx) (upd H1 dx (.xd [(fld, v)])) | _ => False) I h) fun us s1 hh => ?_) hse rfl
  · obtain ⟨vs, H1, I1, r1, q⟩ := hh
    refine ⟨I1.kIn, ?_⟩
    match vs, r1, q with
    | [v], r1, q =>
    obtain ⟨u, eu, ru⟩ := vals1 r1
    subst eu
    obtain ⟨mb, hb, hbb⟩ := I1.mod.blt
    exact PySem.W.call_exc1 I1.kIn (I1.mod.glob.keeps I1.bk) (hb.keeps I1.bk) hbb I1.nolimit hroom T ht ne hda hev hs1 hs2 fun e dx t h' tk tk' k n1 n2 n3 n4 n5 => mk_exc I1 ru k n1 n2 n3 n4 n5 r (q dx (I1.hok.fresh n2))
end
end DL

/-! try .. except of several clauses, named or not; what is caught is spoken of in the suite. -/
namespace DL
variable [DL.Wd] [DL.Fb]
open PySem PySem.Spec PyProof.Rows L2
section
variable {X : Cx} {pins pn' : List (Addr × Obj)} {σ : L2.St} {H : Hp} {s sI : Shared}
theorem _root_.L2.Inv.caught {a : Addr} {oe : Obj} {vs : Array Value} {cls : Value} {d : Option Addr} {σ2 : L2.St} {H2 : Hp} (J : Inv X pins σ2 H2 sI) (ns : sI.heap.get? a = none) (I : Inv X pins σ H s) (he : s.heap.get? a = some oe) (hc : oe.cls = cls) (hd : oe.dict = d) (hf : oe.data = .fields vs) (na : H a = none) (nL : a ≠ X.env.locals) :
    Inv (X.suite a (X.pn ++ pins)) [] σ (upd H a (xcO a cls d)) s := by
  refine ⟨I.ok.suite _ _, I.os, I.bare, ⟨I.base.keep, I.base.slot, fun b o e n hx => ?_, I.base.there, fun b xs e => ?_, fun b o u e => ?_, fun b ps e => ?_⟩, I.loc, I.cell, ?_, fun x c e => ?_, fun p hp => ?_, fun b u q => ?_, I.len⟩
  · rw [upd_ne]
    · exact I.base.free b o e n hx
    · rintro rfl
      obtain ⟨o', z⟩ := J.base.there b o e hx
      rw [ns] at z; cases z
  · have z := I.base.tups b xs e
    rw [upd_ne (ne_of_none z na)]; exact z
  · have z := I.base.frzs b o u e
    rw [upd_ne (ne_of_none z na)]; exact z
  · obtain ⟨more, z⟩ := I.base.tbls b ps e
    exact ⟨more, by rw [upd_ne (ne_of_none z na)]; exact z⟩
  · show upd H a _ X.env.locals = none
    rw [upd_ne (Ne.symm nL)]; exact I.free
  · show upd H a _ c = none
    rw [upd_ne]
    · exact I.freeC x c e
    · rintro rfl
      obtain ⟨v, o, ho, hdd⟩ := I.cell x c e
      rw [he] at ho; cases ho
      rw [hf] at hdd; cases hdd
  · have hp' : p ∈ X.pn ++ pins := by rw [List.append_nil] at hp; exact hp
    obtain ⟨e, n, n1, n2, n3⟩ := I.pin p hp'
    refine ⟨e, ?_, n1, n2, n3⟩
    rw [upd_ne]
    · exact n
    · intro z
      have := (J.pin p hp').1
      rw [z, ns] at this; cases this
  · by_cases hb : b = a
    · subst hb
      rw [upd_same] at q
      cases q
      exact ⟨⟨oe, vs, he, hc, hd, hf⟩, ⟨oe, he⟩, fun h1 h2 ⟨o, vs, e1, e2⟩ k => ⟨o, vs, k o e1, e2⟩⟩
    · rw [upd_ne hb] at q
      exact (I.hok b u q).stay (fun _ _ _ z => z) (fun c z => by rw [upd_ne (ne_of_none z na)]; exact z) fun c xs z => by rw [upd_ne (ne_of_none z na)]; exact z
theorem _root_.L2.Inv.uncaught {a : Addr} (I : Inv (X.suite a (X.pn ++ pins)) pn' σ H s) (ok : X.Ok) : Inv X pins σ H s :=
  ⟨ok, I.os, I.bare, I.base, I.loc, I.cell, I.free, I.freeC, fun p hp => I.pin p (List.mem_append_left _ hp), I.hok, I.len⟩
end
/-- the ends of a suite whose name goes -/
def goneE (i : Nat) (D : Ends) : Ends := { nx := fun σ' H' => D.nx (σ'.set i none) H', rt := D.rt, bk := fun σ' H' => D.bk (σ'.set i none) H', ct := fun σ' H' => D.ct (σ'.set i none) H' }
/-- the clauses: what each asks of an exception of the body -/
inductive HdsT (X : Cx) (D : Ends) (Wout : WX) : List ExceptHandler → WX → Prop
  | nil : HdsT X D Wout [] Wout
  | one {x : Str} {c : Value} {b₀ : Stmt} {suite : List Stmt} {np pos' : Pos} {hds : List ExceptHandler} {W : WX} {ts : Value → Option Addr → TS} (hc : Names X x c)
      (hsu : ∀ (a : Addr) (cls : Value) (d : Option Addr) (pn : List (Addr × Obj)), PSs (X.suite a pn) (b₀ :: suite) (ts cls d)) (r : HdsT X D Wout hds W) :
      HdsT X D Wout (.ExceptHandler (some (.Name x np)) none (b₀ :: suite) pos' :: hds)
        (fun cls d σ H => ∃ b, PySem.W.exmOne X.K cls c = some b ∧ (b = true → ∀ a, H a = none → ts cls d D σ (upd H a (xcO a cls d))) ∧ (b = false → W cls d σ H))
  | as_ {x n : Str} {i : Nat} {c : Value} {b₀ : Stmt} {suite : List Stmt} {np pos' : Pos} {hds : List ExceptHandler} {W : WX} {ts : Value → Option Addr → TS} (hc : Names X x c) (hN : X.N.Nodup) (hi : X.N[i]? = some n) (hln : X.env.kindOf n = some .local)
      (hsu : ∀ (a : Addr) (cls : Value) (d : Option Addr) (pn : List (Addr × Obj)), PSs (X.suite a pn) (b₀ :: suite) (ts cls d)) (r : HdsT X D Wout hds W) :
      HdsT X D Wout (.ExceptHandler (some (.Name x np)) (some n) (b₀ :: suite) pos' :: hds)
        (fun cls d σ H => ∃ b, PySem.W.exmOne X.K cls c = some b ∧ (b = true → ∀ a, H a = none → ts cls d (goneE i D) (σ.set i (some (.ref a))) (upd H a (xcO a cls d))) ∧ (b = false → W cls d σ H))
section
variable {X : Cx} {body : List Stmt} {h₀ : ExceptHandler} {hds : List ExceptHandler} {pos : Pos} {Wout : WX}
theorem ps_tryT (hs : X.stack = X.env :: X.outer) (hf : X.env.frame = some X.env.locals) (tk : L2N.Takes X Wout) {D : Ends} {W : WX} {pins : List (Addr × Obj)} {s : Shared} {σ : L2.St} {H : Hp}
    (hb : ∀ (pn : List (Addr × Obj)) (xe : Value → Shared → Prop), L2N.Takes (X.tr pn xe) W → PassesOwn (model X.prog X.w) X.A X.env xe → wSs (X.tr pn xe) body D σ H)
    (hh : HdsT X D Wout (h₀ :: hds) W) (I : Inv X pins σ H s) : wpAny (model X.prog X.w) X.A (exec (.Try body (h₀ :: hds) [] [] pos) X.env) (SP X pins D) X.xe s := by
  have ok := I.ok
  have hfr : X.A.frames = some (X.env :: X.outer) := by rw [ok.frames, hs]
  refine wpAny_Try_except ?_
  refine wpAny_mono ((hb (X.pn ++ pins) (fun e s₁ => wpAny (model X.prog X.w) X.A (noteFrame e X.env) (fun _ s₂ => wpAny (model X.prog X.w) X.A (setFlight e none) (fun _ s₃ =>
    wpAny (model X.prog X.w) X.A (handleBy e X.env (h₀ :: hds)) (SP X pins D) X.xe s₃) X.xe s₂) X.xe s₁) (fun u s' xx => ?_) PassesOwn.looking) [] s (I.toTry _)) (fun f s1 hsp => ?_) (fun e s1 he => he)
  · -- the catch
    obtain ⟨a, B, sI, pins', σ', H', cls, d, rfl, J', nb, up, sky, na, os, ag, w⟩ := xx
    have J : Inv X pins σ' H' sI := J'.ofTry ok
    have sky' : Sky B (X.env :: X.outer) a (L2N.Zn cls d) X.env.locals s'.heap := by rw [← hs]; exact sky
    show wpAny (model X.prog X.w) X.A (noteFrame (.ref a) X.env) _ _ _
    refine L2N.Sky.land L2N.Zn.steady hfr hf sky' fun h3 fl3 up3 => ?_
    have J3 : Inv X pins σ' H' { s' with heap := h3 } := J.landed nb fl3.1 (up.trans up3) os ag
    obtain ⟨oe3, vs3, he3, hz3, hd3⟩ := fl3.there
    have notFr : ∀ {h : Heap} {o : Obj} {vs : Array Value}, h.FunFrames B (X.env :: X.outer) → h.get? a = some o → o.data = .fields vs → a ∉ frs (X.env :: X.outer) := fun {h o vs} ff e dd hm => by
      obtain ⟨_, o', e', hnf⟩ := ff.mem hm
      rw [e] at e'; cases e'
      exact hnf _ dd
    have nfr := notFr fl3.2.2.1 he3 hd3
    have nL : a ≠ X.env.locals := fun z => nfr (List.mem_filterMap.mpr ⟨X.env, List.mem_cons_self, by rw [hf, z]⟩)
    have nF : a ∉ X.fs := fun hm => by
      obtain ⟨e, he, q⟩ := List.mem_filterMap.mp hm
      exact nfr (List.mem_filterMap.mpr ⟨e, List.mem_cons_of_mem _ he, q⟩)
    have nsI : sI.heap.get? a = none := by
      cases z : sI.heap.get? a with
      | none => rfl
      | some o =>
        have := nb a o z (by rw [hs]; exact nfr)
        rw [fl3.2.1] at this; cases this
    have S3 := J3.suite he3 hd3 na nL nF
    have go : ∀ {hds' : List ExceptHandler} {W' : WX}, HdsT X D Wout hds' W' → W' cls d σ' H' →
        wpAny (model X.prog X.w) X.A (handleBy (.ref a) X.env hds') (SP X pins D) X.xe { s' with heap := h3 } := by
      intro hds' l' hk
      have tests : ∀ {x : Str} {c : Value} {np : Pos} {b : Bool}, Names X x c → PySem.W.exmOne X.K cls c = some b → ∀ {Q : Bool → Shared → Prop} {E : Value → Shared → Prop}, Q b { s' with heap := h3 } →
          wpAny (model X.prog X.w) (X.A.mark (some (.ref a))) (eval (.Name x np) X.env) (fun v s1 => wpAny (model X.prog X.w) (X.A.mark (some (.ref a))) (excMatches (.ref a) v) Q E s1) E { s' with heap := h3 } := by
        intro x c np b hc hb1 Q E q
        have LT : PySem.W.Looks (model X.prog X.w) h3 (typeOf (.ref a)) cls := fun A Q E s k q => wpAny_typeOf_ref (k _ _ he3) (by rw [hz3.1]; exact q)
        have LM := PySem.W.exm_one (M := model X.prog X.w) (J3.kIn) LT hb1
        obtain ⟨hg, hdbg, hm | ⟨hm, hv, hnn⟩⟩ := hc
        · exact ld_glob (X := X.suite a ((a, oe3) :: (X.pn ++ pins))) S3 hg hm (LM.here q) hdbg
        · exact ld_blt (X := X.suite a ((a, oe3) :: (X.pn ++ pins))) S3 hg hm hv (LM.here q) hnn hdbg
      induction hk with
      | nil =>
        intro w
        refine wpAny_handleBy_nil ?_
        obtain ⟨k1, k2, k3, oe, vs, T, oT, ts', he, hz, hd, h1, hr⟩ := id fl3
        unfold PySem.passOn
        refine wpAny_bind (wpAny_field he hd h1 ?_)
        rw [if_neg (show ¬ ((Value.ref T == Value.none) = true) from by simp)]
        have fin : wpAny (model X.prog X.w) X.A (setFlight (.ref a) X.env.frame) (fun _ s4 => wpAny (model X.prog X.w) X.A (throw (.ref a) : Sem Flow) (SP X pins D) X.xe s4) X.xe { s' with heap := h3 } := by
          rw [hf]
          refine HandSPX.setFlight_upZ fl3 fun h4 hh4 up4 => wpAny_throw (tk _ _ ?_)
          exact ⟨a, B, sI, pins, σ', H', cls, d, rfl, J, nb, (up.trans up3).trans up4, .inr (.inr (by rw [hs]; exact hh4)), na, os, ag, w⟩
        first
          | exact wpAny_bind (wpAny_pure (wpAny_bind fin))
          | exact wpAny_bind fin
      | @one x c b₀ suite np pos' hds2 W2 ts hc hsu r ih =>
        intro w
        obtain ⟨b, hb1, hyes, hno⟩ := w
        refine wpAny_handleBy_cons (codeAny_handlers_test ?_) (by intro q; cases q)
        refine tests hc hb1 ?_
        cases b with
        | true =>
          refine codeAny_handlers_suite ?_
          refine HandSPX.lands_againZ fl3 fun h4 fl4 up4 => ?_
          have J4 : Inv X pins σ' H' { s' with heap := h4 } := J.landed nb fl4.1 ((up.trans up3).trans up4) os ag
          obtain ⟨oe4, vs4, he4, hz4, hd4⟩ := fl4.there
          have S4 := L2.Inv.caught J nsI J4 he4 hz4.1 hz4.2.1 hd4 na nL
          refine wpAny_mono ((hsu a cls d (X.pn ++ pins)).run [] _ _ _ _ S4 (hyes rfl a na)) (fun f s6 hsp => ?_) (fun _ _ z => False.elim z)
          cases f with
          | next =>
            obtain ⟨σ6, H6, S6, q6⟩ := hsp
            exact ⟨_, _, S6.uncaught ok, q6⟩
          | brk =>
            obtain ⟨σ6, H6, S6, q6⟩ := hsp
            exact ⟨_, _, S6.uncaught ok, q6⟩
          | cont =>
            obtain ⟨σ6, H6, S6, q6⟩ := hsp
            exact ⟨_, _, S6.uncaught ok, q6⟩
          | ret u =>
            obtain ⟨v6, σ6, H6, S6, r6, q6⟩ := hsp
            exact ⟨_, _, _, S6.uncaught ok, r6, q6⟩
        | false =>
          show wpAny _ X.A (handleBy (.ref a) X.env hds2) _ _ _
          exact ih (hno rfl)
      | @as_ x n i c b₀ suite np pos' hds2 W2 ts hc hN hi hln hsu r ih =>
        intro w
        obtain ⟨b, hb1, hyes, hno⟩ := w
        have hloc : L2.Loc X.env.scope n := .inl hln
        refine wpAny_handleBy_cons (codeAny_handlers_test ?_) (by intro q; cases q)
        refine tests hc hb1 ?_
        cases b with
        | true =>
          refine codeAny_handlers_suite_as ?_
          refine HandSPX.lands_againZ fl3 fun h4 fl4 up4 => ?_
          have J4 : Inv X pins σ' H' { s' with heap := h4 } := J.landed nb fl4.1 ((up.trans up3).trans up4) os ag
          obtain ⟨oe4, vs4, he4, hz4, hd4⟩ := fl4.there
          have S4 := L2.Inv.caught J nsI J4 he4 hz4.1 hz4.2.1 hd4 na nL
          refine store_ok (X := X.suite a (X.pn ++ pins)) (v := .ref a) S4 hN hi hloc rfl (fun s5 S5 => ?_) (.inr hln)
          refine wpAny_mono ((hsu a cls d (X.pn ++ pins)).run [] s5 _ _ _ S5 (hyes rfl a na)) (fun f s6 hsp => ?_) (fun _ _ z => False.elim z)
          have end_ : ∀ {σ6 : L2.St} {H6 : Hp} {Q : Shared → Prop}, Inv (X.suite a (X.pn ++ pins)) [] σ6 H6 s6 → (∀ s7, Inv X pins (σ6.set i none) H6 s7 → Q s7) →
              wpAny (model X.prog X.w) X.A (do bindName X.env n .none; unbindBehindTheSuite X.env n pos') (fun _ s7 => Q s7) X.xe s6 := fun {σ6 H6 Q} S6 hq => gone_ok (S6.uncaught ok) hN hi hln hq
          cases f with
          | next =>
            obtain ⟨σ6, H6, S6, q6⟩ := hsp
            exact end_ S6 fun s7 J7 => ⟨_, _, J7, q6⟩
          | brk =>
            obtain ⟨σ6, H6, S6, q6⟩ := hsp
            exact end_ S6 fun s7 J7 => ⟨_, _, J7, q6⟩
          | cont =>
            obtain ⟨σ6, H6, S6, q6⟩ := hsp
            exact end_ S6 fun s7 J7 => ⟨_, _, J7, q6⟩
          | ret u =>
            obtain ⟨v6, σ6, H6, S6, r6, q6⟩ := hsp
            exact end_ S6 fun s7 J7 => ⟨_, _, _, J7, r6, q6⟩
        | false =>
          show wpAny _ X.A (handleBy (.ref a) X.env hds2) _ _ _
          exact ih (hno rfl)
    exact go hh w
  · cases f with
    | next =>
      obtain ⟨σ', H', J', q⟩ := hsp
      exact wpAny_execs_nil ⟨σ', H', J'.ofTry ok, q⟩
    | brk =>
      obtain ⟨σ', H', J', q⟩ := hsp
      exact ⟨σ', H', J'.ofTry ok, q⟩
    | cont =>
      obtain ⟨σ', H', J', q⟩ := hsp
      exact ⟨σ', H', J'.ofTry ok, q⟩
    | ret u =>
      obtain ⟨v, σ', H', J', r, q⟩ := hsp
      exact ⟨v, σ', H', J'.ofTry ok, r, q⟩
end
end DL

/-! The deep layer: raise, try, what is caught, its attributes. -/
namespace DL
variable [DL.Wd] [DL.Fb]
open PySem PySem.Spec PyProof.Rows L2
/-- the place of an except suite -/
def Sx.su (τ : Sx) : Sx := { τ with calm := false, act := none }
abbrev DHs := Er → DEnds → EK → DSt → MH → Prop
def dHNil : DHs := fun er D E σ M => E er σ M
def goneD (i : Nat) (D : DEnds) : DEnds := { nx := fun σ M => D.nx (σ.set i none) M, rt := D.rt, bk := fun σ M => D.bk (σ.set i none) M, ct := fun σ M => D.ct (σ.set i none) M }
def dHOne (es : Str → Str → Option Bool) (c : Str) (ds : DS) (r : DHs) : DHs := fun er D E σ M => ∃ b, es er.cls c = some b ∧ (b = true → ds D noE σ M) ∧ (b = false → r er D E σ M)
def dHAs (es : Str → Str → Option Bool) (c : Str) (i : Nat) (ds : DS) (r : DHs) : DHs := fun er D E σ M => ∃ b, es er.cls c = some b ∧ (b = true → ds (goneD i D) noE (σ.set i (some (.exc er.cls er.ns er.fs))) M) ∧ (b = false → r er D E σ M)
def dTry (db : DS) (dh : DHs) : DS := fun D E σ M => db D (fun er σ' M' => dh er D E σ' M') σ M
/-- a table of what is a subclass of what -/
def ExK (Ω : Wl) (es : Str → Str → Option Bool) : Prop := ∀ c d b, es c d = some b → PySem.W.exmOne Ω.K (clsV Ω.K c) (clsV Ω.K d) = some b
/-- the attributes of own exceptions that are their own -/
def XfK (Ω : Wl) (xf : Str → Str → Bool) : Prop := ∀ c f, xf c f = true → ∃ C, clsV Ω.K c = .ref C ∧ XfC Ω.K C ∧ PySem.W.findIn Ω.K (.ref C) f = some none
section
variable {Ω : Wl} {τ : Sx} {X : Cx} {gs : List Str} {vs : List Nat}
theorem fit_su (ft : Fit Ω τ X) (a : Addr) (pn : List (Addr × Obj)) : Fit Ω τ.su (X.suite a pn) where
  P := ft.P
  w := ft.w
  K := ft.K
  mg := ft.mg
  base := ft.base
  N := ft.N
  sc := ft.sc
  room := ⟨ft.room.dp, ft.room.un⟩
  wd := ft.wd
  hd := fun z => absurd (show false = true from z) Bool.false_ne_true
  calm := fun z => absurd (show false = true from z) Bool.false_ne_true
  nd := ft.nd
  fn := ft.fn
  po := PassesOwn.never
  gd := ft.gd
  st := ft.st
  lm := ft.lm
  ax := fun _ _ z => by cases z
theorem fit_tr (ft : Fit Ω τ X) (pn : List (Addr × Obj)) (xe : Value → Shared → Prop) (hp : PassesOwn (model X.prog X.w) X.A X.env xe) : Fit Ω τ (X.tr pn xe) where
  P := ft.P
  w := ft.w
  K := ft.K
  mg := ft.mg
  base := ft.base
  N := ft.N
  sc := ft.sc
  room := ft.room
  wd := ft.wd
  hd := ft.hd
  calm := ft.calm
  nd := ft.nd
  fn := ft.fn
  po := hp
  gd := ft.gd
  st := ft.st
  lm := ft.lm
  ax := fun i a z => ⟨(ft.ax i a z).2 pn xe, (ft.ax i a z).2⟩
def DHD (Ω : Wl) (τ : Sx) (hds : List ExceptHandler) (dh : DHs) : Prop := Hd (∀ X, Fit Ω τ X → ∀ (F0 : Hp) (E : EK) (F : Hp) (D : DEnds), Ex F0 F → ∃ W, HdsT X (LE X.K F D) (LX X.K F0 E) hds W ∧ ∀ cls d σ H, LX X.K F (fun er σ' M => dh er D E σ' M) cls d σ H → W cls d σ H)
theorem dh_nil : DHD Ω τ [] dHNil := Hd.mk fun X ft F0 E F D e0 => ⟨_, .nil, fun cls d σ H ⟨F1, M, σ', er, e1, g, r, ok, q⟩ => ⟨F1, M, σ', er, e0.trans e1, g, r, ok, q⟩⟩
theorem exc_rp {K : PySem.W.Frag} {F : Hp} {a : Addr} {cls : Value} {d : Option Addr} {er : Er} (hn : F a = none) (ok : ErOk K F cls d er) : Rp K (upd F a (xcO a cls d)) (.ref a) (.exc er.cls er.ns er.fs) := by
  have e2 : Ex F (upd F a (xcO a cls d)) := fun b o z => by rw [upd_ne (ne_of_none z hn)]; exact z
  obtain ⟨h1, h2⟩ := ok
  subst h1
  rcases h2 with ⟨rfl, h3, h4⟩ | ⟨dd, fs, rfl, h3, h4, h5⟩
  · rw [h3, h4]; exact .exc0 upd_same
  · exact .exc1 (dd := dd) (fs := fs) upd_same (e2 _ _ h3) h4 (h5.mono e2)
theorem dh_as {es : Str → Str → Option Bool} {x n : Str} {np pos' : Pos} {b₀ : Stmt} {suite : List Stmt} {hds : List ExceptHandler} {ds : DS} {r : DHs} (k : ExK Ω es) (S : ScOk τ.N vs gs τ.sc) (hm : Ω.mg x = some (clsV Ω.K x)) (i : Nat) (hs : DPSs Ω τ.su (b₀ :: suite) ds) (hr : DHD Ω τ hds r)
    (hl : τ.sc.names.lookup n = some .local) (hi : τ.N[i]? = some n := by rfl) (hg : x ∈ gs := by decide) (hdb : (x == ("__debug__" : Str)) = false := by decide) : DHD Ω τ (.ExceptHandler (some (.Name x np)) (some n) (b₀ :: suite) pos' :: hds) (dHAs es x i ds r) := Hd.mk fun X ft F0 E F D e0 => by
  obtain ⟨W, hW, hw⟩ := hr.run X ft F0 E F D e0
  refine ⟨_, HdsT.as_ (c := clsV Ω.K x) (i := i) (ts := fun cls d D' σ H => ∀ a pn, wSs (X.suite a pn) (b₀ :: suite) D' σ H) ⟨fit_gl ft S hg, hdb, .inl (by rw [ft.mg]; exact hm)⟩ (by rw [ft.N]; exact ft.nd) (by rw [ft.N]; exact hi) (by show X.env.scope.names.lookup n = some .local; rw [ft.sc]; exact hl) (fun a cls d pn => ⟨fun pins s σ H D I h => h a pn pins s I⟩) hW, fun cls d σ H hx => ?_⟩
  obtain ⟨F1, M, σ', er, e1, g, rs, ok, b, hb, hy, hn⟩ := hx
  refine ⟨b, by rw [← ok.1, ft.K]; exact k _ _ _ hb, fun hbt a ha a' pn => ?_, fun hbf => hw _ _ _ _ ⟨F1, M, σ', er, e1, g, rs, ok, hn hbf⟩⟩
  have gn := g.new ha (xcO a cls d)
  refine wSs_mono (hs.run (X.suite a' pn) (fit_su ft a' pn) _ noE tk_no _ M _ _ _ (goneD i D) (Ex.refl _) gn.1 ((rs.mono gn.2).set1 i (exc_rp (g.fresh ha).1 ok)) (hy hbt)) ?_
  have e2 := e1.trans gn.2
  have st : ∀ {T : DSt → MH → Prop} {σ : L2.St} {H : Hp}, LS X.K (upd F1 a (xcO a cls d)) (fun σ M => T (σ.set i none) M) σ H → LS X.K F T (σ.set i none) H := fun {T σ H} ⟨F', M', σ'', e, g', r', q⟩ => ⟨F', M', σ''.set i none, e2.trans e, g', r'.set i (v := none) (d := none) trivial, q⟩
  exact ⟨fun _ _ => st, fun _ _ => LQ.back e2, fun _ _ => st, fun _ _ => st⟩
theorem dps_try {body : List Stmt} {h₀ : ExceptHandler} {hds : List ExceptHandler} {db : DS} {dh : DHs} {pos : Pos} (hb : DPSs Ω τ body db) (hh : DHD Ω τ (h₀ :: hds) dh) (hd : τ.dfn = true := by rfl) : DPS Ω τ (.Try body (h₀ :: hds) [] [] pos) (dTry db dh) := Hd.mk fun X ft F0 E tk F M H σ σ' D e0 g r h pins s I => by
  obtain ⟨W, hW, hw⟩ := hh.run X ft F0 E F D e0
  obtain ⟨hs, hf⟩ := ft.st hd
  refine ps_tryT hs hf tk (W := W) (fun pn xe tk' hp => ?_) hW I
  exact hb.run (X.tr pn xe) (fit_tr ft pn xe hp) F (fun er σ' M' => dh er D E σ' M') (tk'.imp hw) F M H σ σ' D (Ex.refl F) g r h
/-! ### an attribute of what was caught -/
def dXf (xf : Str → Str → Bool) (f : Str) (de : DE) : DE := fun σ M Q E => de σ M (fun x M1 => match x with
  | .exc C ns fs => xf C f = true ∧ ∃ v, (ns.zip fs).lookup f = some v ∧ Q v M1
  | _ => False) E
theorem zip_look {K : PySem.W.Frag} {F : Hp} {f : Str} : ∀ {fs : List (Str × V)} {ds : List D} {d : D}, RpL K F (fs.map (·.2)) ds → ((fs.map (·.1)).zip ds).lookup f = some d → ∃ v, fs.lookup f = some v ∧ Rp K F v d
  | [], _, _, _, h => by simp at h
  | (n, v) :: fs, _, d, .cons r rs, h => by
    simp only [List.map_cons, List.zip_cons_cons, List.lookup] at h ⊢
    split at h
    · cases h
      exact ⟨v, rfl, r⟩
    · exact zip_look rs h
theorem dp_xf {xf : Str → Str → Bool} {e : Expr} {de : DE} {f : Str} {pos : Pos} (k : XfK Ω xf) (he : DP Ω τ e de) (hb : ∀ env, attributeBase e f env (eval e env) = eval e env := by intro _; rfl) : DP Ω τ (.Attribute e f pos) (dXf xf f de) := Hd.mk fun X ft F0 E tk F M H σ σ' Q e0 g r h pins s I => by
  refine attr_of (hb _) (thn (he.run X ft F0 E tk F M H σ σ' _ e0 g r h pins s I) fun u s1 hh => ?_)
  obtain ⟨x, H1, I1, rx, F1, M1, d, e1, g1, r1, q⟩ := hh
  cases d <;> first | exact q.elim | skip
  rename_i C ns fs
  obtain ⟨hx, d', hl, hq⟩ := q
  obtain ⟨C', hc, T, hno⟩ := k _ _ hx
  rw [← ft.K] at hc T hno
  cases r1 with
  | exc0 => simp at hl
  | @exc1 a dd _ fs' _ _ h1 h2 h3 h4 =>
    subst h3
    obtain rfl : u = Value.ref a := rx
    obtain ⟨v, lv, rv⟩ := zip_look h4 hl
    obtain ⟨⟨oe, vs, ha, hcls, hdict, hdata⟩, _, _⟩ := I1.hok a _ (g1.ex _ _ h1)
    obtain ⟨mA, hns, hr⟩ := I1.hok dd _ (g1.ex _ _ h2)
    obtain ⟨od, ho, hlk⟩ := lookIn_ns hns
    obtain ⟨u, hu, ru⟩ := RelO.some_of (v := v) (o := mA f) (by rw [← lv]; exact hr f)
    rw [hc] at hcls
    have J : PySem.W.InstAt s1.heap a oe C' (some od) := ⟨ha, hcls, by unfold PySem.W.notCls; rw [hdata] <;> rfl, by rw [hdict]; exact ho⟩
    exact HandSPX.exc_get I1.kIn J T.ga T.gg T.exC (PySem.W.findObj_own T.hdC hno rfl (by rw [hlk, hu])) (handed_of ru) ⟨v, H1, I1.tok _, ru, F1, M1, d', e1, g1, rv, hq⟩
/-! ### raise C(e) -/
def dRaise1 (C fld : Str) (de : DE) : DS := fun _ E σ M => de σ M (fun x M1 => E ⟨C, [fld], [x]⟩ σ M1) E
/-- what must be seen of an own exception class of one field -/
structure Xc1 (Ω : Wl) (x fld : Str) : Prop where
  ex : ∃ (C f cc cda : Addr) (B newId i : String) (bmB : List Value) (nm qu a1 : Str) (par : Arguments) (scope : Scope) (p0 p1 p2 p3 p4 p5 p6 p7 p8 : Pos), clsV Ω.K x = .ref C ∧ Ω.mg x = some (.ref C) ∧ PySem.W.keepIn Ω.K (.ref C) = true ∧
    PySem.W.subIn Ω.K (.ref C) (.type "BaseException") = some true ∧ PySem.W.typeIn Ω.K (.ref C) = some (.type "type") ∧
    PySem.W.XcF Ω.P Ω.K C B newId i bmB f cc cda nm qu par [.Expr (.Call (.Attribute (.Call (.Name "super" p0) [] [] p1) "__init__" p2) [] [] p3) p4, .Assign [.Attribute (.Name "self" p5) fld p6] (.Name a1 p7) p8] scope ["self", a1] ∧
    PySem.W.takerIn Ω.K C fld = some none ∧ a1 ≠ ("self" : Str) ∧ (a1 == ("__debug__" : Str)) = false ∧
    (∀ env, ∃ pl, eval (.Call (.Attribute (.Call (.Name "super" p0) [] [] p1) "__init__" p2) [] [] p3) env = (do
      let ov ← attributeBase (.Call (.Name "super" p0) [] [] p1) "__init__" env (eval (.Call (.Name "super" p0) [] [] p1) env)
      standAt p2.atName
      let (f, first) ← holding [ov] (getMethod ov "__init__" pl)
      callWith p3 f first (backTo p3 (starEach [] env)) [])) ∧
    (∀ env, swapsWith (.Call (.Attribute (.Call (.Name "super" p0) [] [] p1) "__init__" p2) [] [] p3) none p4.line env = pure false) ∧
    ∀ env, swapsWith (.Name a1 p7) (some (.Attribute (.Name "self" p5) fld p6)) p8.line env = pure false
theorem dps_raise1 {x fld : Str} {e : Expr} {de : DE} {p pos rpos : Pos} (T : Xc1 Ω x fld) (S : ScOk τ.N vs gs τ.sc) (he : DP Ω τ e de) (hg : x ∈ gs := by decide) (hdb : (x == ("__debug__" : Str)) = false := by decide) (hc : τ.calm = true := by rfl)
    (hse : ∀ env, starEach [e] env = (false, eval e env) :: starEach [] env := by intro _; rfl) : DPS Ω τ (.Raise (some (.Call (.Name x p) [e] [] pos)) none rpos) (dRaise1 x fld de) := Hd.mk fun X ft F0 E tk F M H σ σ' D e0 g r h => by
  obtain ⟨C, f, cc, cda, B, newId, i, bmB, nm, qu, a1, par, scope, p0, p1, p2, p3, p4, p5, p6, p7, p8, h1, h2, h3, h4, h5, h6, h7, h8, h9, h10, h11, h12⟩ := T.ex
  rw [← ft.K] at h1 h3 h4 h5 h6 h7
  rw [← ft.P] at h6
  refine wS_of (L2N.ps_raise (ft.calm hc) tk (pmk_exc1 h6 h7 h8 h9 h10 h11 h12 (by rw [ft.mg]; exact h2) h3 (raises_own h4 h5) (fit_gl ft S hg) (by have := ft.room.dp; omega) pe_wE hdb (hse _))) (wE_mono (he.run X ft F0 E tk F M H σ σ' _ e0 g r h) ?_)
  rintro v H1 ⟨F1, M1, y, e1, g1, r1, q⟩ dx hdx
  have gn := g1.new hdx (.xd [(fld, v)])
  exact ⟨upd F1 dx (.xd [(fld, v)]), M1, σ', ⟨x, [fld], [y]⟩, (e0.trans e1).trans gn.2, gn.1, r.mono (e1.trans gn.2), ⟨h1, .inr ⟨dx, [(fld, v)], rfl, upd_same, rfl, .cons (r1.mono gn.2) .nil⟩⟩, q⟩
end
end DL

/-! Plain laws: a walk through all rows, layer by layer. -/
namespace DL
variable [DL.Wd] [DL.Fb]
open PySem L2
def nk (ns : List Nat) : List Key := ns.map fun k => .inl ((k : Nat) : Int)
theorem nk_inj : ∀ {a b : List Nat}, nk a = nk b → a = b
  | [], [], _ => rfl
  | [], _ :: _, h => by simp [nk] at h
  | _ :: _, [], h => by simp [nk] at h
  | x :: a, y :: b, h => by
    simp only [nk, List.map_cons, List.cons.injEq] at h
    have h1 := Sum.inl.inj h.1
    have h2 := nk_inj (a := a) (b := b) h.2
    rw [h2, show x = y by omega]
theorem tkeyD_nats {ns : List Nat} : tkeyD (.tup (nats ns)) = some (nk ns) := by
  show keysD (nats ns) = _
  induction ns with
  | nil => rfl
  | cons x r ih =>
    show (match keyD (.int (x : Nat)), keysD (nats r) with | some k, some ks => some (k :: ks) | _, _ => none) = _
    rw [ih]; rfl
def PN (n : Nat) (ns : List Nat) : Prop := W.IsP ns ∧ ns.length = n
theorem PN.swap {n : Nat} {ns : List Nat} (h : PN n ns) {p q r s : Nat} (e : W.Exch n p q r s) : PN n (W.swapL ns p q r s) := by
  have e' : W.Exch ns.length p q r s := by rw [h.2]; exact e
  exact ⟨h.1.swap e', by rw [W.swapL_len e']; exact h.2⟩
/-- a number for each such list -/
def code6 : List Nat → Nat
  | [] => 0
  | x :: r => x + 6 * code6 r
/-- what the walk knows: all that are at most d away, and those of later, one further -/
structure Bfs (n d : Nat) (t : TabT) (later : List (List Nat)) : Prop where
  get : ∀ ns, PN n ns → dGet t (nk ns) = if W.far ns ≤ d ∨ ns ∈ later then some (.int (W.far ns : Nat)) else none
  lat : ∀ ns ∈ later, PN n ns ∧ W.far ns = d + 1
  nd : later.Nodup
  len : t.length ≤ 1 + 7776 * d + later.length
/-- one step: a new one is put down -/
theorem Bfs.put {n d : Nat} {t : TabT} {later : List (List Nat)} (B : Bfs n d t later) {ns : List Nat} (h : PN n ns) (hf : W.far ns ≤ d + 1) (no : dGet t (nk ns) = none) : Bfs n d (dPut t (nk ns) (.int ((d : Int) + 1))) (later ++ [ns]) := by
  have h0 := B.get ns h
  rw [no] at h0
  have h1 : ¬ (W.far ns ≤ d ∨ ns ∈ later) := fun z => by rw [if_pos z] at h0; cases h0
  have hd : W.far ns = d + 1 := by have := fun z => h1 (.inl z); omega
  refine ⟨fun ms hm => ?_, fun ms hm => ?_, ?_, ?_⟩
  · rw [dGet_put]
    by_cases e : nk ms = nk ns
    · rw [if_pos e, nk_inj e, if_pos (.inr (by simp)), hd]; congr 2
    · rw [if_neg e, B.get ms hm]
      have : ms ≠ ns := fun z => e (by rw [z])
      simp [this]
  · rcases List.mem_append.mp hm with hm | hm
    · exact B.lat ms hm
    · simp only [List.mem_cons, List.not_mem_nil, or_false] at hm
      subst hm; exact ⟨h, hd⟩
  · rw [List.nodup_append]
    refine ⟨B.nd, by simp, fun a ha b hb => ?_⟩
    simp only [List.mem_cons, List.not_mem_nil, or_false] at hb
    subst hb
    rintro rfl
    exact h1 (.inr ha)
  · have := dPut_len t (nk ns) (.int ((d : Int) + 1))
    have := B.len
    rw [List.length_append, List.length_singleton]; omega
/-- what one row leads to is known -/
def DoneE (n d : Nat) (later : List (List Nat)) (here : List Nat) (es : List W.Ex4) : Prop := ∀ e ∈ es, W.far (W.swapE here e) ≤ d ∨ W.swapE here e ∈ later
/-- the walk is at its end -/
theorem Bfs.all {n d : Nat} {t : TabT} (B : Bfs n d t []) (none_ : ∀ ns, PN n ns → W.far ns ≠ d) : ∀ ns, PN n ns → dGet t (nk ns) = some (.int (W.far ns : Nat)) := by
  have down : ∀ k ns, PN n ns → W.far ns = d + k → False := by
    intro k
    induction k with
    | zero => intro ns h e; exact none_ ns h e
    | succ k ih =>
      intro ns h e
      have ne : ns ≠ List.range' 1 ns.length := fun z => by have := (W.far_zero h.1).mpr z; omega
      obtain ⟨p, q, r, s, x, hg⟩ := W.good_far h.1 ne
      exact ih _ (h.swap (by rw [← h.2]; exact x)) (by omega)
  intro ns h
  rw [B.get ns h, if_pos]
  rcases Nat.lt_or_ge d (W.far ns) with z | z
  · exact (down (W.far ns - d) ns h (by omega)).elim
  · exact .inl z
end DL

/-! Plain laws: a walk through all rows of words, layer by layer, from any rows. -/
namespace DL
variable [DL.Wd] [DL.Fb]
open PySem L2
def sk (ws : List Str) : List Key := ws.map .inr
theorem sk_inj : ∀ {a b : List Str}, sk a = sk b → a = b
  | [], [], _ => rfl
  | [], _ :: _, h => by simp [sk] at h
  | _ :: _, [], h => by simp [sk] at h
  | x :: a, y :: b, h => by
    simp only [sk, List.map_cons, List.cons.injEq] at h
    rw [Sum.inr.inj h.1, sk_inj (a := a) (b := b) h.2]
theorem tkeyD_strs {ws : List Str} : tkeyD (.tup (ws.map .str)) = some (sk ws) := by
  show keysD (ws.map .str) = _
  induction ws with
  | nil => rfl
  | cons x r ih =>
    show (match keyD (.str x), keysD (r.map .str) with | some k, some ks => some (k :: ks) | _, _ => none) = _
    rw [ih]; rfl
/-! all rows of given words -/
section
variable {α : Type}
def insW (x : α) : List α → List (List α)
  | [] => [[x]]
  | y :: r => (x :: y :: r) :: (insW x r).map (y :: ·)
theorem insW_len (x : α) : ∀ l : List α, (insW x l).length = l.length + 1
  | [] => rfl
  | _ :: r => by simp [insW, insW_len x r]
theorem insW_mem (x : α) : ∀ (a b : List α), a ++ x :: b ∈ insW x (a ++ b)
  | [], [] => by simp [insW]
  | [], _ :: _ => by simp [insW]
  | y :: a, b => by
    simp only [List.cons_append, insW, List.mem_cons, List.mem_map]
    exact .inr ⟨_, insW_mem x a b, rfl⟩
theorem insW_perm (x : α) : ∀ (l w : List α), w ∈ insW x l → w.Perm (x :: l)
  | [], w, h => by simp [insW] at h; rw [h]
  | y :: r, w, h => by
    simp only [insW, List.mem_cons, List.mem_map] at h
    rcases h with rfl | ⟨v, hv, rfl⟩
    · exact .refl _
    · exact ((insW_perm x r v hv).cons y).trans (.swap x y r)
def permsW : List α → List (List α)
  | [] => [[]]
  | x :: r => (permsW r).flatMap (insW x)
theorem permsW_mem : ∀ {l w : List α}, w.Perm l → w ∈ permsW l
  | [], w, h => by simp [permsW, List.Perm.eq_nil h]
  | x :: r, w, h => by
    obtain ⟨a, b, rfl⟩ := List.append_of_mem (h.mem_iff.mpr List.mem_cons_self)
    have h2 : (a ++ b).Perm r := List.Perm.cons_inv (List.perm_middle.symm.trans h)
    simp only [permsW, List.mem_flatMap]
    exact ⟨_, permsW_mem h2, insW_mem x a b⟩
theorem permsW_perm : ∀ {l w : List α}, w ∈ permsW l → w.Perm l
  | [], w, h => by simp [permsW] at h; rw [h]
  | x :: r, w, h => by
    simp only [permsW, List.mem_flatMap] at h
    obtain ⟨v, hv, hw⟩ := h
    exact (insW_perm x v w hw).trans ((permsW_perm hv).cons x)
def facW : Nat → Nat
  | 0 => 1
  | n + 1 => facW n * (n + 1)
theorem flat_len {β : Type} {f : List α → List β} {m : Nat} : ∀ {ls : List (List α)}, (∀ l ∈ ls, (f l).length = m) → (ls.flatMap f).length = ls.length * m
  | [], _ => by simp
  | l :: r, h => by
    rw [List.flatMap_cons, List.length_append, h l List.mem_cons_self, flat_len fun l hl => h l (List.mem_cons_of_mem _ hl), List.length_cons, Nat.add_mul, Nat.one_mul, Nat.add_comm]
theorem permsW_len : ∀ l : List α, (permsW l).length = facW l.length
  | [] => rfl
  | x :: r => by
    simp only [permsW]
    rw [flat_len (m := r.length + 1) fun l hl => by rw [insW_len, (permsW_perm hl).length_eq], permsW_len r]
    rfl
end
def swS (ws : List Str) (e : W.Ex4) : List Str := W.swapL ws e.1 e.2.1 e.2.2.1 e.2.2.2
/-- what the walk needs of a measure -/
structure Web (base : List Str) (g : List Str → Nat) : Prop where
  step : ∀ ws, ws.Perm base → ∀ e ∈ W.allE base.length, g (swS ws e) ≤ g ws + 1
  back : ∀ ws d, ws.Perm base → g ws = d + 1 → ∃ us, us.Perm base ∧ g us = d ∧ ∃ e ∈ W.allE base.length, swS us e = ws
structure BfsW (base : List Str) (g : List Str → Nat) (d : Nat) (t : TabT) (later : List (List Str)) : Prop where
  get : ∀ ws, ws.Perm base → dGet t (sk ws) = if g ws ≤ d ∨ ws ∈ later then some (.int (g ws : Nat)) else none
  lat : ∀ ws ∈ later, ws.Perm base ∧ g ws = d + 1
  nd : later.Nodup
  ks : (t.map (·.1)).Nodup
  own : ∀ k ∈ t.map (·.1), ∃ ws, ws.Perm base ∧ k = sk ws
theorem BfsW.all {base : List Str} {g : List Str → Nat} {d : Nat} {t : TabT} (B : BfsW base g d t []) (hd : ∀ ws, ws.Perm base → g ws ≤ d) : ∀ ws, ws.Perm base → dGet t (sk ws) = some (.int (g ws : Nat)) := fun ws h => by
  rw [B.get ws h, if_pos (.inl (hd ws h))]
/-- the least distance from any of S -/
def gS : List (List Str) → List Str → Nat
  | [], _ => 0
  | [s], ws => dist s ws
  | s :: r, ws => min (dist s ws) (gS r ws)
theorem dPut_ksIn {t : TabT} {k : List Key} {v : D} (h : k ∈ t.map (·.1)) : (dPut t k v).map (·.1) = t.map (·.1) := by
  unfold dPut
  rw [if_pos (by
    obtain ⟨e, he, rfl⟩ := List.mem_map.mp h
    exact List.any_eq_true.mpr ⟨e, he, by simp⟩), List.map_map]
  apply List.map_congr_left
  intro e _
  show (if e.1 = k then (e.1, v) else e).1 = e.1
  split <;> rfl
theorem dPut_ksOut {t : TabT} {k : List Key} {v : D} (h : ¬ k ∈ t.map (·.1)) : (dPut t k v).map (·.1) = t.map (·.1) ++ [k] := by
  unfold dPut
  rw [if_neg (fun z => h (by
    obtain ⟨e, he, q⟩ := List.any_eq_true.mp z
    exact List.mem_map.mpr ⟨e, he, of_decide_eq_true q⟩))]
  simp
theorem dGet_someT {t : TabT} {k : List Key} {d : D} (h : dGet t k = some d) : k ∈ t.map (·.1) := by
  induction t with
  | nil => cases h
  | cons e t ih =>
    obtain ⟨k1, d1⟩ := e
    unfold dGet at h
    by_cases e : k1 = k
    · simp [e]
    · rw [if_neg e] at h
      exact List.mem_cons_of_mem _ (ih h)
theorem ks_put {t : TabT} {k : List Key} {v : D} (h : (t.map (·.1)).Nodup) : ((dPut t k v).map (·.1)).Nodup ∧ ∀ x ∈ (dPut t k v).map (·.1), x ∈ t.map (·.1) ∨ x = k := by
  by_cases e : k ∈ t.map (·.1)
  · rw [dPut_ksIn e]; exact ⟨h, fun x hx => .inl hx⟩
  · rw [dPut_ksOut e]
    refine ⟨?_, fun x hx => by simpa using hx⟩
    rw [List.nodup_append]
    refine ⟨h, by simp, fun a ha b hb => ?_⟩
    simp only [List.mem_cons, List.not_mem_nil, or_false] at hb
    subst hb; rintro rfl; exact e ha
theorem BfsW.put {base : List Str} {g : List Str → Nat} {d : Nat} {t : TabT} {later : List (List Str)} (B : BfsW base g d t later) {ws : List Str} (h : ws.Perm base) (hf : g ws ≤ d + 1) (no : dGet t (sk ws) = none) : BfsW base g d (dPut t (sk ws) (.int ((d : Int) + 1))) (later ++ [ws]) := by
  have h0 := B.get ws h
  rw [no] at h0
  have h1 : ¬ (g ws ≤ d ∨ ws ∈ later) := fun z => by rw [if_pos z] at h0; cases h0
  have hd : g ws = d + 1 := by have := fun z => h1 (.inl z); omega
  have kp := ks_put (k := sk ws) (v := .int ((d : Int) + 1)) B.ks
  refine ⟨fun ms hm => ?_, fun ms hm => ?_, ?_, kp.1, fun k hk => ?_⟩
  · rw [dGet_put]
    by_cases e : sk ms = sk ws
    · rw [if_pos e, sk_inj e, if_pos (.inr (by simp)), hd]; congr 2
    · rw [if_neg e, B.get ms hm]
      have : ms ≠ ws := fun z => e (by rw [z])
      simp [this]
  · rcases List.mem_append.mp hm with hm | hm
    · exact B.lat ms hm
    · simp only [List.mem_cons, List.not_mem_nil, or_false] at hm
      subst hm; exact ⟨h, hd⟩
  · rw [List.nodup_append]
    refine ⟨B.nd, by simp, fun a ha b hb => ?_⟩
    simp only [List.mem_cons, List.not_mem_nil, or_false] at hb
    subst hb
    rintro rfl
    exact h1 (.inr ha)
  · rcases kp.2 k hk with z | rfl
    · exact B.own k z
    · exact ⟨ws, h, rfl⟩
theorem flat_nodup {α β : Type} {f : α → List β} {g : β → α} : ∀ {ls : List α}, ls.Nodup → (∀ l ∈ ls, (f l).Nodup) → (∀ l ∈ ls, ∀ w ∈ f l, g w = l) → (ls.flatMap f).Nodup
  | [], _, _, _ => by simp
  | l :: r, h, h1, h2 => by
    rw [List.flatMap_cons, List.nodup_append]
    have hn := List.nodup_cons.mp h
    refine ⟨h1 l List.mem_cons_self, flat_nodup hn.2 (fun l hl => h1 l (List.mem_cons_of_mem _ hl)) (fun l hl => h2 l (List.mem_cons_of_mem _ hl)), fun a ha b hb => ?_⟩
    rintro rfl
    obtain ⟨l2, hl2, hb2⟩ := List.mem_flatMap.mp hb
    have e1 := h2 l List.mem_cons_self a ha
    have e2 := h2 l2 (List.mem_cons_of_mem _ hl2) a hb2
    exact hn.1 (by rw [← e1, e2]; exact hl2)
theorem insW_nodup {x : Str} : ∀ {l : List Str}, ¬ x ∈ l → (insW x l).Nodup ∧ ∀ w ∈ insW x l, w.erase x = l
  | [], _ => by simp [insW]
  | y :: r, h => by
    simp only [List.mem_cons, not_or] at h
    have ih := insW_nodup h.2
    have hy : ¬ y = x := fun z => h.1 z.symm
    refine ⟨?_, fun w hw => ?_⟩
    · simp only [insW]
      refine List.nodup_cons.mpr ⟨fun z => ?_, W.nodup_map_of ih.1 fun a _ b _ e => (List.cons.inj e).2⟩
      obtain ⟨v, _, e⟩ := List.mem_map.mp z
      exact hy (List.cons.inj e).1
    · simp only [insW, List.mem_cons, List.mem_map] at hw
      rcases hw with rfl | ⟨v, hv, rfl⟩
      · simp
      · rw [List.erase_cons, if_neg (by simpa using hy), ih.2 v hv]
theorem permsW_nodup : ∀ {l : List Str}, l.Nodup → (permsW l).Nodup
  | [], _ => by simp [permsW]
  | x :: r, h => by
    have hn := List.nodup_cons.mp h
    simp only [permsW]
    have no : ∀ l ∈ permsW r, ¬ x ∈ l := fun l hl z => hn.1 ((permsW_perm hl).mem_iff.mp z)
    exact flat_nodup (g := fun w => w.erase x) (permsW_nodup hn.2) (fun l hl => (insW_nodup (no l hl)).1) fun l hl => (insW_nodup (no l hl)).2
/-- how many stand in the dict at the end, and on the way -/
theorem BfsW.most {base : List Str} {g : List Str → Nat} {d : Nat} {t : TabT} {later : List (List Str)} (B : BfsW base g d t later) : t.length ≤ facW base.length := by
  have := W.nodup_sub_len (l' := (permsW base).map sk) B.ks fun k hk => by
    obtain ⟨ws, h, rfl⟩ := B.own k hk
    exact List.mem_map.mpr ⟨ws, permsW_mem h, rfl⟩
  rw [List.length_map, List.length_map, permsW_len] at this
  exact this
theorem BfsW.count {base : List Str} {g : List Str → Nat} {d : Nat} {t : TabT} (G : GoodT base) (B : BfsW base g d t []) (hd : ∀ ws, ws.Perm base → g ws ≤ d) : t.length = facW base.length := by
  have n1 : ((permsW base).map sk).Nodup := W.nodup_map_of (permsW_nodup G.nd) fun a _ b _ e => sk_inj e
  have := W.nodup_sub_len (l' := t.map (·.1)) n1 fun k hk => by
    obtain ⟨ws, h, rfl⟩ := List.mem_map.mp hk
    exact dGet_someT (B.all hd ws (permsW_perm h))
  rw [List.length_map, List.length_map, permsW_len] at this
  exact Nat.le_antisymm B.most this
end DL

/-! The deep layer: list(zip(a tuple, a tuple)). -/
namespace DL
variable [DL.Wd] [DL.Fb]
open PySem PySem.Spec PyProof.Rows L2 RZ
section
variable {prog : Program} {w : World} {A : Around} {E : Value → Shared → Prop} {s : Shared} {z TI TO i1 i2 l1 l2 : Nat} {xs ys : Array Value}
/-- the zip in front of turn i -/
def ZtSt (h : Heap) (z TI TO i1 i2 l1 l2 lo : Nat) (i : Nat) : Prop :=
  IsPair h TI (.ref i1) (.ref i2) ∧ h.IsTupleIter i1 l1 i ∧ h.IsTupleIter i2 l2 i ∧ ((IsZip h z TI TO .none ∧ ∃ a b, IsPair h TO a b) ∨ ∃ T f oT, PySem.IsZipHeld h z TI TO T f ∧ h.get? T = some oT ∧ lo ≤ T)
/-- the pairs so far -/
structure ZtP (xs ys : Array Value) (lo : Nat) (h : Heap) (as : List Nat) : Prop where
  nd : as.Nodup
  low : ∀ a ∈ as, lo ≤ a
  at_ : ∀ (j : Nat) (a : Nat), as[j]? = some a → ∃ x y, xs[j]? = some x ∧ ys[j]? = some y ∧ h.get? a = some (tob #[x, y])
end
section
variable {prog : Program} {w : World} {A : Around} {s : Shared} {R : Result → Shared → Prop} {z TI TO i1 i2 l1 l2 S lo : Nat} {xs ys : Array Value}
end
section
variable {prog : Program} {w : World} {A : Around} {E : Value → Shared → Prop} {s : Shared} {z TI TO i1 i2 l1 l2 : Nat} {xs ys : Array Value}
end
end DL

/-! The deep layer: list(zip(a tuple, a tuple)) as an expression. -/
namespace DL
variable [DL.Wd] [DL.Fb]
open PySem PySem.Spec PyProof.Rows L2 RZ
section
variable {fs ex : List Addr} {H H' : Hp} {h h' : Heap} {a : Addr} {o : HO} {P : Program} {w : World}
end
abbrev TZ := Addr × Array Value × List V
def layT (H : Hp) : List TZ → Hp
  | [] => H
  | t :: r => layT (upd H t.1 (.frz (tob t.2.1) (.tup t.2.2))) r
def FreshT (H : Hp) : List TZ → Prop
  | [] => True
  | t :: r => H t.1 = none ∧ FreshT (upd H t.1 (.frz (tob t.2.1) (.tup t.2.2))) r
section
variable {X : Cx} {a b : Expr} {ta tb : TE}
def tListZip (K : PySem.W.Frag) (ta tb : TE) : TE := fun σ H Q => ta σ H fun x H1 => tb σ H1 fun y H2 => ∃ a b xs ys, x = .ref a ∧ y = .ref b ∧ SqT K H2 a xs ∧ SqT K H2 b ys ∧ xs.length = ys.length ∧
  ∀ (ts : List TZ) (p : Addr), FreshT H2 ts → ts.map (fun t => t.2.2) = List.zipWith (fun x y => [x, y]) xs ys → layT H2 ts p = none → Q (.ref p) (upd (layT H2 ts) p (.lst (ts.map fun t => .ref t.1)))
end
section
variable {Ω : Wl} {τ : Sx} {X : Cx} {a b : Expr} {gs : List Str} {vs : List Nat} {da db : DE} {p pos : Pos}
def dListZip (da db : DE) : DE := fun σ M Q E => da σ M (fun x M1 => db σ M1 (fun y M2 => ∃ xs ys : List D, x = .tup xs ∧ y = .tup ys ∧ xs.length = ys.length ∧ Q (.lst (List.zipWith (fun a b => .tup [a, b]) xs ys)) M2) E) E
end
end DL

/-! Plain: the rings told by names, the ends called < and >. -/
namespace DL
variable [DL.Wd] [DL.Fb]
open PySem PySem.Spec PyProof.Rows L2
/-- where each thing stands; what is ahead of each thing -/
def webB (ws : List Str) (k : Nat) : TabK := (List.range k).foldl (fun t i => dPut t (.inr (ws.getD i "")) (.int ((i + 1 : Nat) : Int))) [(.inr "<", .int 0)]
def webK (vs : List Str) (i : Nat) : Str := if i < vs.length then vs.getD i "" else ">"
def webP (vs : List Str) (i : Nat) : Str := if 0 < i then vs.getD (i - 1) "" else "<"
def webL (vs : List Str) : TabK := (List.range (vs.length + 1)).map fun i => (.inr (webK vs i), .str (webP vs i))
def webA (vs : List Str) : TabK := mergeD [] (webL vs)
/-- the first word that is not there yet -/
def lett (i : Nat) : Str := ⟨#[97 + i]⟩
def spareW (w : Str) : List Str := w :: ((List.range 26).map fun i => ("x" : Str) ++ lett i) ++ (List.range 26).map fun i => ("y" : Str) ++ lett i
theorem rows_inj {L K : List (List Str)} : (L.map rowD = K.map rowD) = (L = K) := by
  apply propext
  constructor
  · intro e
    induction L generalizing K with
    | nil => cases K with
      | nil => rfl
      | cons => cases e
    | cons a L ih =>
      cases K with
      | nil => cases e
      | cons b K =>
        simp only [List.map_cons, List.cons.injEq] at e
        rw [rowD_inj] at e
        rw [e.1, ih e.2]
  · rintro rfl; rfl
end DL

/-! The deep layer: comprehensions with two fors. -/
namespace DL
variable [DL.Wd] [DL.Fb]
open PySem PySem.Spec PyProof.Rows L2
section
variable {Ω : Wl} {τ : Sx} {X : Cx} {tg iter tg1 iter1 elt : Expr} {ifs ifs1 : List Expr} {pos : Pos} {de : DE} {dt dt1 : DT}
def LcGo2 (gd : DG) (dt : DT) (di1 : DI) (gd1 : DG) (dt1 : DT) (de : DE) (vs vs1 : List Nat) (σ : DSt) (Q : DQ) (xs : List D) (M1 : MH) : Prop := ∀ p, M1 p = none → ∃ W : List D → MH → Prop, W xs (M1.put p (.lst [])) ∧ (∀ M2, W [] M2 → ∃ acc, M2 p = some (.lst acc) ∧ Q (.lst acc) (M2.del p)) ∧
  ∀ x r M2, W (x :: r) M2 → gd x (wipeD σ vs) M2 (fun σ2 M3 => dt σ2 M3 (fun k M4 => (k = true → di1 σ2 M4 (fun ys M5 => ∃ W1 : List D → MH → Prop, W1 ys M5 ∧ (∀ M6, W1 [] M6 → W r M6) ∧
    ∀ y t M6, W1 (y :: t) M6 → gd1 y (wipeD σ2 vs1) M6 (fun σ3 M7 => dt1 σ3 M7 (fun k1 M8 => (k1 = true → de σ3 M8 (fun z M9 => ∃ acc, M9 p = some (.lst acc) ∧ lenOk (acc.length + 1) ∧ W1 t (M9.put p (.lst (acc ++ [z])))) noE) ∧ (k1 = false → W1 t M8)) noE) noE) noE) ∧ (k = false → W r M4)) noE) noE
def dLc2 (di : DI) (gd : DG) (dt : DT) (di1 : DI) (gd1 : DG) (dt1 : DT) (de : DE) (vs vs1 : List Nat) : DE := fun σ M Q E => di σ M (fun xs M1 => LcGo2 gd dt di1 gd1 dt1 de vs vs1 σ Q xs M1) E
def bI (X : Cx) (scope : Scope) (tg iter : Expr) : TI := fun σ H R => ∀ s H0 C cl fp, wI (X.blk s H0 scope (compEnvC scope cl C X.env) fp) tg iter σ H R
end
end DL

/-! Plain: texts in their order; all orders of some texts, ascending. -/
namespace DL
variable [DL.Wd] [DL.Fb]
open PySem PySem.Spec PyProof.Rows L2
def twD (ws : List Str) : D := .tup (ws.map .str)
def leW (a b : Str) : Bool := decide (a.cps.toList ≤ b.cps.toList)
def sortW (ws : List Str) : List Str := ws.mergeSort leW
theorem sortW_perm (ws : List Str) : (sortW ws).Perm ws := List.mergeSort_perm _ _
/-- all orders of k of the texts s -/
def ordS (s : List Str) : Nat → List (List Str)
  | 0 => [[]]
  | k + 1 => ((ordS s k).map fun l => (s.filter fun e => decide (e ∉ l)).map fun e => l ++ [e]).flatten
theorem ord_mem {s : List Str} : ∀ {k : Nat} {l : List Str}, l ∈ ordS s k → l.length = k ∧ l.Nodup ∧ ∀ x ∈ l, x ∈ s
  | 0, l, h => by
    have : l = [] := by simpa [ordS] using h
    subst this
    exact ⟨rfl, .nil, fun _ h => nomatch h⟩
  | k + 1, l, h => by
    simp only [ordS, List.mem_flatten, List.mem_map] at h
    obtain ⟨_, ⟨m, hm, rfl⟩, h⟩ := h
    obtain ⟨e, he, rfl⟩ := List.mem_map.mp h
    obtain ⟨h1, h2, h3⟩ := ord_mem hm
    rw [List.mem_filter, decide_eq_true_eq] at he
    refine ⟨by rw [List.length_append, h1]; rfl, ?_, fun x hx => ?_⟩
    · rw [List.nodup_append]
      refine ⟨h2, by simp, fun a ha b hb q => ?_⟩
      rw [List.mem_singleton.mp hb] at q
      exact he.2 (q ▸ ha)
    · rcases List.mem_append.mp hx with q | q
      · exact h3 x q
      · rw [List.mem_singleton.mp q]; exact he.1
theorem nodup_perm {l s : List Str} (nd : l.Nodup) (h : ∀ x ∈ l, x ∈ s) (hl : s.length ≤ l.length) : l.Perm s := by
  induction l generalizing s with
  | nil =>
    have : s = [] := List.eq_nil_of_length_eq_zero (by simpa using hl)
    subst this; exact .nil
  | cons a l ih =>
    rw [List.nodup_cons] at nd
    have ha := h a List.mem_cons_self
    have p := List.perm_cons_erase ha
    refine (List.Perm.cons a (ih nd.2 (fun x hx => ?_) ?_)).trans p.symm
    · have hx2 := h x (List.mem_cons_of_mem _ hx)
      exact (List.mem_erase_of_ne (show x ≠ a from fun e => nd.1 (e ▸ hx))).mpr hx2
    · rw [List.length_erase_of_mem ha]; simp at hl; omega
theorem ord_perm {s l : List Str} (h : l ∈ ordS s s.length) : l.Perm s := by
  obtain ⟨h1, h2, h3⟩ := ord_mem h
  exact nodup_perm h2 h3 (by omega)
/-- the least of some numbers -/
def leastN : List Nat → Nat
  | [] => 0
  | [a] => a
  | a :: r => min a (leastN r)
def sumTo (L : List (List Str)) (vs : List Str) : Nat := (L.map fun l => dist l vs).sum
/-- all orders with their sums; the least sum; those that have it -/
def ordW (ws : List Str) : List (List Str) := ordS (sortW ws) ws.length
theorem ordW_perm {ws vs : List Str} (h : vs ∈ ordW ws) : vs.Perm ws := by
  unfold ordW at h
  rw [← (sortW_perm ws).length_eq] at h
  exact (ord_perm h).trans (sortW_perm ws)
end DL

/-! The deep layer: a list that changes no more, ahead of a statement. -/
namespace DL
variable [DL.Wd] [DL.Fb]
open PySem PySem.Spec PyProof.Rows L2
section
variable {Ω : Wl} {τ : Sx} {st : Stmt} {d : DS}
def dFzV (i : Nat) (d : DS) : DS := fun D E σ M => match σ[i]? with
  | some (some (.ref a)) => ∃ xs, M a = some (.lst xs) ∧ d D E (σ.set i (some (.lst xs))) (M.del a)
  | _ => False
end
end DL

/-! The deep layer: min(a list of numbers, default=..). -/
namespace DL
variable [DL.Wd] [DL.Fb]
open PySem PySem.Spec PyProof.Rows L2
section
variable {Ω : Wl} {τ : Sx} {X : Cx} {e : Expr} {gs : List Str} {vs : List Nat} {t u : DA} {p pos : Pos} {kws : List Keyword}
def wCK (X : Cx) (f : Value) (ks : List Str) : List V → List V → Hp → VK → Prop := fun xs zs H Q => ∀ pins s σ us ws, Inv X pins σ H s → Vals xs us → Vals zs ws → wpAny (model X.prog X.w) X.A (call f us (ks.zip ws)) (EP X pins σ Q) X.xe s
def minDefO : D → D → MH → DQ → Prop := fun d z M Q => intsO (fun ns M Q => (ns = [] → Q z M) ∧ ∀ m, m ∈ ns → (∀ y, y ∈ ns → m ≤ y) → Q (.int m) M) d M Q
def dMinDef (t u : DA) : DE := fun σ M Q E => t σ M (fun ds M1 => u σ M1 (fun es M2 => match ds, es with
  | [x], [z] => minDefO x z M2 Q
  | _, _ => False) E) E
end
end DL

/-! Plain: orders to be kept, the nearest rows that keep them. -/
namespace DL
variable [DL.Wd] [DL.Fb]
open PySem PySem.Spec PyProof.Rows L2
def pairD (p : Str × Str) : D := .tup [.str p.1, .str p.2]
theorem pairD_inj {a b : Str × Str} : (pairD a = pairD b) = (a = b) := by
  apply propext
  cases a; cases b
  simp [pairD]
theorem pairs_inj {L K : List (Str × Str)} : (L.map pairD = K.map pairD) = (L = K) := by
  apply propext
  constructor
  · intro e
    induction L generalizing K with
    | nil => cases K with
      | nil => rfl
      | cons => cases e
    | cons a L ih =>
      cases K with
      | nil => cases e
      | cons b K =>
        simp only [List.map_cons, List.cons.injEq] at e
        rw [pairD_inj] at e
        rw [e.1, ih e.2]
  · rintro rfl; rfl
def PairsOk (ws : List Str) (ps : List (Str × Str)) : Prop := ∀ p ∈ ps, p.1 ∈ ws ∧ p.2 ∈ ws ∧ p.1 ≠ p.2
def keptW (vs : List Str) (ps : List (Str × Str)) : Bool := ps.all fun p => decide (vs.idxOf p.1 < vs.idxOf p.2)
def keptL (ws : List Str) (ps : List (Str × Str)) : List (List Str) := (ordW ws).filter fun vs => keptW vs ps
/-- the least, or nothing -/
def nearO (S : List Nat) : D := if S = [] then .non else .int (leastN S : Nat)
def nearW (ws : List Str) (ps : List (Str × Str)) : D := nearO ((keptL ws ps).map (dist ws))
def nearL (ws : List Str) (ps : List (Str × Str)) : List (List Str) := (keptL ws ps).filter fun vs => decide (dist ws vs = leastN ((keptL ws ps).map (dist ws)))
def keptT (ws : List Str) (ps : List (Str × Str)) : List D := (keptL ws ps).map fun vs => .tup [.int (dist ws vs : Nat), twD vs]
end DL

/-! The deep layer: sorted(a dict whose keys are numbers). -/
namespace DL
variable [DL.Wd] [DL.Fb]
open PySem PySem.Spec PyProof.Rows L2
section
variable {Ω : Wl} {τ : Sx} {X : Cx}
def srtDO : D → MH → DQ → Prop := fun d M Q => match d with
  | .ref a => ∃ t : TabK, M a = some (dkO t) ∧ ∃ ks : List Int, t.map (·.1) = ks.map Sum.inl ∧ ks.length < 64 ∧ ∀ ys : List Int, ys.Perm ks → ys.Pairwise (· ≤ ·) → Q (.lst (ys.map D.int)) M
  | _ => False
end
end DL

/-! Plain: how many orders there are at each distance. -/
namespace DL
variable [DL.Wd] [DL.Fb]
open PySem PySem.Spec PyProof.Rows L2
section
variable {α : Type} [DecidableEq α]
def ordG (s : List α) : Nat → List (List α)
  | 0 => [[]]
  | k + 1 => ((ordG s k).map fun l => (s.filter fun e => decide (e ∉ l)).map fun e => l ++ [e]).flatten
theorem ordG_step {s : List α} {k : Nat} {l : List α} : l ∈ ordG s (k + 1) ↔ ∃ m ∈ ordG s k, ∃ e ∈ s, e ∉ m ∧ l = m ++ [e] := by
  show l ∈ ((ordG s k).map fun l => (s.filter fun e => decide (e ∉ l)).map fun e => l ++ [e]).flatten ↔ _
  rw [List.mem_flatten]
  constructor
  · rintro ⟨_, h1, h2⟩
    obtain ⟨m, hm, rfl⟩ := List.mem_map.mp h1
    obtain ⟨e, he, rfl⟩ := List.mem_map.mp h2
    rw [List.mem_filter, decide_eq_true_eq] at he
    exact ⟨m, hm, e, he.1, he.2, rfl⟩
  · rintro ⟨m, hm, e, he, hn, rfl⟩
    exact ⟨_, List.mem_map.mpr ⟨m, hm, rfl⟩, List.mem_map.mpr ⟨e, List.mem_filter.mpr ⟨he, by simpa using hn⟩, rfl⟩⟩
theorem ordG_mem {s : List α} : ∀ {k : Nat} {l : List α}, l ∈ ordG s k → l.length = k ∧ l.Nodup ∧ ∀ x ∈ l, x ∈ s
  | 0, l, h => by
    have : l = [] := by simpa [ordG] using h
    subst this
    exact ⟨rfl, .nil, fun _ h => nomatch h⟩
  | k + 1, l, h => by
    obtain ⟨m, hm, e, he, hn, rfl⟩ := ordG_step.mp h
    obtain ⟨h1, h2, h3⟩ := ordG_mem hm
    refine ⟨by rw [List.length_append, h1]; rfl, ?_, fun x hx => ?_⟩
    · rw [List.nodup_append]
      refine ⟨h2, by simp, fun a ha b hb q => ?_⟩
      rw [List.mem_singleton.mp hb] at q
      exact hn (q ▸ ha)
    · rcases List.mem_append.mp hx with q | q
      · exact h3 x q
      · rw [List.mem_singleton.mp q]; exact he
theorem ordG_all {s : List α} : ∀ {k : Nat} {l : List α}, l.length = k → l.Nodup → (∀ x ∈ l, x ∈ s) → l ∈ ordG s k
  | 0, l, h, _, _ => by
    have : l = [] := List.eq_nil_of_length_eq_zero h
    subst this; simp [ordG]
  | k + 1, l, h, nd, sub => by
    have ne : l ≠ [] := fun z => by rw [z] at h; cases h
    have e := List.dropLast_concat_getLast ne
    rw [← e] at nd sub ⊢
    rw [List.nodup_append] at nd
    refine ordG_step.mpr ⟨l.dropLast, ordG_all (by rw [List.length_dropLast, h]; rfl) nd.1 (fun x hx => sub x (List.mem_append_left _ hx)), l.getLast ne, sub _ (List.mem_append_right _ (by simp)), fun hm => ?_, rfl⟩
    exact nd.2.2 _ hm _ (by simp) rfl
theorem ordG_nd {s : List α} (hs : s.Nodup) : ∀ k, (ordG s k).Nodup
  | 0 => by simp [ordG]
  | k + 1 => by
    show (((ordG s k).map fun l => (s.filter fun e => decide (e ∉ l)).map fun e => l ++ [e]).flatten).Nodup
    have e : ((ordG s k).map fun l => (s.filter fun e => decide (e ∉ l)).map fun e => l ++ [e]).flatten = (ordG s k).flatMap fun l => (s.filter fun e => decide (e ∉ l)).map fun e => l ++ [e] := rfl
    rw [e]
    refine flat_nodup (g := List.dropLast) (ordG_nd hs k) (fun l _ => ?_) (fun l _ w hw => ?_)
    · refine List.Pairwise.map (R := fun a b => a ≠ b) _ (fun a b ne z => ne ?_) (List.Pairwise.filter _ hs)
      have := List.append_cancel_left z
      simpa using this
    · obtain ⟨x, _, rfl⟩ := List.mem_map.mp hw
      simp
theorem perm_of_sub {l s : List α} (nd : l.Nodup) (h : ∀ x ∈ l, x ∈ s) (hl : s.length ≤ l.length) : l.Perm s := by
  induction l generalizing s with
  | nil =>
    have : s = [] := List.eq_nil_of_length_eq_zero (by simpa using hl)
    subst this; exact .nil
  | cons a l ih =>
    rw [List.nodup_cons] at nd
    have ha := h a List.mem_cons_self
    refine (List.Perm.cons a (ih nd.2 (fun x hx => ?_) ?_)).trans (List.perm_cons_erase ha).symm
    · exact (List.mem_erase_of_ne (show x ≠ a from fun e => nd.1 (e ▸ hx))).mpr (h x (List.mem_cons_of_mem _ hx))
    · rw [List.length_erase_of_mem ha]; simp at hl; omega
theorem perm_of_iff {l s : List α} (n1 : l.Nodup) (n2 : s.Nodup) (h : ∀ x, x ∈ l ↔ x ∈ s) : l.Perm s :=
  perm_of_sub n1 (fun x hx => (h x).mp hx) (W.nodup_sub_len n2 fun x hx => (h x).mpr hx)
end
theorem ordS_G {s : List Str} : ∀ k, ordS s k = ordG s k
  | 0 => rfl
  | k + 1 => by
    show ((ordS s k).map _).flatten = ((ordG s k).map _).flatten
    rw [ordS_G k]
theorem ordW_mem {ws vs : List Str} (G : GoodT ws) : vs ∈ ordW ws ↔ vs.Perm ws := by
  refine ⟨ordW_perm, fun h => ?_⟩
  unfold ordW
  rw [ordS_G]
  have p := h.trans (sortW_perm ws).symm
  exact ordG_all h.length_eq (h.nodup_iff.mpr G.nd) fun x hx => p.mem_iff.mp hx
theorem ordW_nd {ws : List Str} (G : GoodT ws) : (ordW ws).Nodup := by
  unfold ordW
  rw [ordS_G]
  exact ordG_nd ((sortW_perm ws).nodup_iff.mpr G.nd) _
theorem nodup_map {α β : Type} {f : α → β} {l : List α} (nd : l.Nodup) (h : ∀ a ∈ l, ∀ b ∈ l, f a = f b → a = b) : (l.map f).Nodup :=
  List.pairwise_map.mpr (List.Pairwise.imp_of_mem (fun {a b} ha hb ne e => ne (h a ha b hb e)) nd)
/-- the numbers of all orders are all orders of the numbers -/
theorem nums_all {ws : List Str} (G : GoodT ws) : ((ordW ws).map fun vs => numsOf vs ws).Perm (ordG (List.range' 1 ws.length) ws.length) := by
  refine perm_of_iff (nodup_map (ordW_nd G) fun a ha b hb e => ?_) (ordG_nd (List.nodup_range' (step := 1)) _) fun ns => ?_
  · have e1 := byN_numsOf (ordW_perm ha)
    have e2 := byN_numsOf (ordW_perm hb)
    have e : numsOf a ws = numsOf b ws := e
    rw [← e1, e, e2]
  · constructor
    · intro h
      obtain ⟨vs, hv, rfl⟩ := List.mem_map.mp h
      have p := ordW_perm hv
      have hP := numsOf_isP (G.perm p) G p
      have nl : (numsOf vs ws).length = ws.length := by rw [numsOf_len]; exact p.length_eq
      unfold W.IsP at hP
      rw [nl] at hP
      exact ordG_all nl (hP.nodup_iff.mpr (List.nodup_range' (step := 1))) fun x hx => hP.mem_iff.mp hx
    · intro h
      obtain ⟨h1, h2, h3⟩ := ordG_mem h
      have hP : W.IsP ns := by
        unfold W.IsP
        rw [h1]
        exact perm_of_sub h2 h3 (by rw [List.length_range', h1]; exact Nat.le_refl _)
      exact List.mem_map.mpr ⟨byN ws ns, (ordW_mem G).mpr (byN_perm hP h1), numsOf_byN G hP h1⟩
theorem dists_all {ws : List Str} (G : GoodT ws) : ((ordW ws).map (dist ws)).Perm ((ordG (List.range' 1 ws.length) ws.length).map W.far) := by
  have e : (ordW ws).map (dist ws) = ((ordW ws).map fun vs => numsOf vs ws).map W.far := by
    rw [List.map_map]
    apply List.map_congr_left
    intro vs hv
    have p := ordW_perm hv
    show dist ws vs = dist vs ws
    exact dist_comm G (G.perm p) p.symm
  rw [e]
  exact (nums_all G).map _
def distTab : Nat → List Nat
  | 1 => [1]
  | 2 => [1, 1]
  | 3 => [1, 5]
  | 4 => [1, 15, 8]
  | 5 => [1, 35, 84]
  | 6 => [1, 70, 469, 180]
  | _ => []
theorem tab1 : ∀ d : _root_.Fin 1, ((ordG (List.range' 1 1) 1).map W.far).count d.val = (distTab 1).getD d 0 := by decide +kernel
theorem tab2 : ∀ d : _root_.Fin 2, ((ordG (List.range' 1 2) 2).map W.far).count d.val = (distTab 2).getD d 0 := by decide +kernel
theorem tab3 : ∀ d : _root_.Fin 2, ((ordG (List.range' 1 3) 3).map W.far).count d.val = (distTab 3).getD d 0 := by decide +kernel
theorem tab4 : ∀ d : _root_.Fin 3, ((ordG (List.range' 1 4) 4).map W.far).count d.val = (distTab 4).getD d 0 := by decide +kernel
theorem tab5 : ∀ d : _root_.Fin 3, ((ordG (List.range' 1 5) 5).map W.far).count d.val = (distTab 5).getD d 0 := by decide +kernel
theorem tab6 : ∀ d : _root_.Fin 4, ((ordG (List.range' 1 6) 6).map W.far).count d.val = (distTab 6).getD d 0 := by decide +kernel
theorem tab_len {n : Nat} (h1 : 1 ≤ n) (h6 : n ≤ 6) : (distTab n).length = n / 2 + 1 ∧ ∀ d, d < n / 2 + 1 → (distTab n).getD d 0 ≠ 0 := by
  have : n = 1 ∨ n = 2 ∨ n = 3 ∨ n = 4 ∨ n = 5 ∨ n = 6 := by omega
  rcases this with rfl | rfl | rfl | rfl | rfl | rfl <;> exact ⟨rfl, by decide⟩
theorem far_half {ns : List Nat} (h : W.IsP ns) (h0 : 0 < ns.length) : W.far ns ≤ ns.length / 2 := by
  have hf := W.permN_lead h
  have : 0 < W.nrings ns := by
    rw [W.nrings, ← W.ringsL_len hf]
    have f0 : W.first (ns.length + 1) (W.lead ns) 0 = true := by
      unfold W.first
      rw [decide_eq_true_eq]
      intro g hg
      exact absurd hg (Nat.not_lt_zero g)
    unfold W.ringsL
    rw [List.length_map]
    exact List.length_pos_of_mem (List.mem_filter.mpr ⟨List.mem_range.mpr (Nat.succ_pos _), f0⟩)
  unfold W.far
  omega
/-- how many orders are so far -/
theorem dists_count {ws : List Str} (G : GoodT ws) (h6 : ws.length ≤ 6) (d : Nat) : ((ordW ws).map (dist ws)).count d = (distTab ws.length).getD d 0 := by
  have h0 := G.some
  obtain ⟨t1, t2⟩ := tab_len (n := ws.length) (by omega) h6
  by_cases hd : d < ws.length / 2 + 1
  · rw [(dists_all G).count_eq]
    have : ws.length = 1 ∨ ws.length = 2 ∨ ws.length = 3 ∨ ws.length = 4 ∨ ws.length = 5 ∨ ws.length = 6 := by omega
    rcases this with e | e | e | e | e | e <;> rw [e] at hd ⊢
    · exact tab1 ⟨d, hd⟩
    · exact tab2 ⟨d, hd⟩
    · exact tab3 ⟨d, hd⟩
    · exact tab4 ⟨d, hd⟩
    · exact tab5 ⟨d, hd⟩
    · exact tab6 ⟨d, hd⟩
  · rw [List.getD_eq_getElem?_getD, List.getElem?_eq_none (by omega), List.count_eq_zero.mpr]
    · rfl
    · intro h
      obtain ⟨vs, hv, e⟩ := List.mem_map.mp h
      have p := ordW_perm hv
      have nl : (numsOf ws vs).length = ws.length := numsOf_len
      have := far_half (numsOf_isP G (G.perm p) p.symm) (by rw [nl]; exact h0)
      rw [nl] at this
      have e2 : dist ws vs = W.far (numsOf ws vs) := rfl
      omega
/-- a count kept in a dict -/
structure CntOk (T : TabK) (c : Nat → Nat) (ks : List Nat) : Prop where
  keys : T.map (·.1) = ks.map fun d : Nat => Sum.inl (d : Int)
  nd : ks.Nodup
  mem : ∀ d : Nat, d ∈ ks ↔ c d ≠ 0
  get : ∀ d : Nat, dGet T (.inl (d : Int)) = if c d = 0 then none else some (.int (c d : Nat))
end DL

/-! The deep layer: attributes among targets; steps that recur. -/
namespace DL
variable [DL.Wd] [DL.Fb]
open PySem PySem.Spec PyProof.Rows L2
section
variable {Ω : Wl} {τ : Sx} {X : Cx} {o : Expr} {f C m : Str} {pos : Pos} {to : TE} {de : DE} {ss : List Stmt}
def gFldG (K : PySem.W.Frag) (to : TE) (f : Str) : TG := fun v σ H Q => to σ H fun x H1 => ∃ a C dx fs, x = .ref a ∧ H1 a = some (.ins C dx fs) ∧ Cls K C ∧ NoAttr K C f ∧ fs.length < 1000 ∧ Q σ (upd H1 a (.ins C dx (putF f v fs)))
def dgFld (C : Str) (f : Str) (de : DE) : DG := fun y σ M Q E => de σ M (fun x M2 => match x with
  | .ref a => ∃ ns fs, M2 a = some (.ins C ns fs) ∧ ns.length < 900 ∧ Q σ (M2.put a (.ins C (putFs ns fs f y).1 (putFs ns fs f y).2))
  | _ => False) E
end
end DL

/-! Plain: boards. -/
namespace DL
variable [DL.Wd] [DL.Fb]
open PySem PySem.Spec PyProof.Rows L2
abbrev boardN : List Str := ["here", "begun", "aim", "done", "past", "rest"]
def pastW (b : List Str) (t : List W.Ex4) : List (List Str) := (List.range t.length).map fun k => W.runE b (t.take k)
/-- a board: where it began, its goal, what was done -/
def boardS (b a : List Str) (t : List W.Ex4) : MO := .ins "Board" boardN [rowD (W.runE b t), rowD b, rowD a, .tup (t.map exT), .tup ((pastW b t).map rowD), .int (dist (W.runE b t) a : Nat)]
structure BrdOk (b a : List Str) (t : List W.Ex4) : Prop where
  G : GoodT b
  Ga : GoodT a
  p : b.Perm a
  ex : ∀ e ∈ t, W.ExchE b.length e
  few : t.length ≤ 900
theorem BrdOk.perm {b a : List Str} {t : List W.Ex4} (h : BrdOk b a t) : (W.runE b t).Perm b := W.runE_perm h.ex
theorem BrdOk.len {b a : List Str} {t : List W.Ex4} (h : BrdOk b a t) : (W.runE b t).length = b.length := h.perm.length_eq
/-- a good exchange of names -/
def GoodS (ws vs : List Str) (e : W.Ex4) : Prop := W.ExchE ws.length e ∧ dist (W.swapL ws e.1 e.2.1 e.2.2.1 e.2.2.2) vs + 1 = dist ws vs
end DL

/-! The deep layer: a for over a list that is named and may be written elsewhere, while it stands still. -/
namespace DL
variable [DL.Wd] [DL.Fb]
open PySem PySem.Spec PyProof.Rows L2
section
variable {Ω : Wl} {τ : Sx} {X : Cx} {tg iter : Expr} {de : DE} {pos : Pos} {sts : List Stmt} {ds : DS}
/-- what is walked while P stands -/
structure WkP (K : PySem.W.Frag) (F : Hp) (J : It) (xs : List D) (P : MH → Prop) : Prop where
  go : ∀ i F1 M H, Ex F F1 → G K F1 M H → P M → i < xs.length → J.go i H
  yld : ∀ i F1 M H v H' d, Ex F F1 → G K F1 M H → P M → xs[i]? = some d → J.yld i H v H' → ∃ F2, Ex F1 F2 ∧ G K F2 M H' ∧ Rp K F2 v d
  stop : ∀ i F1 M H, Ex F F1 → G K F1 M H → P M → xs.length ≤ i → J.stop i H
def ForGoP (P : MH → Prop) (gd : DG) (body : DS) (En : DEnds) (E : EK) (xs : List D) (σ : DSt) (M1 : MH) : Prop := ∃ W : List D → DSt → MH → Prop, W xs σ M1 ∧ (∀ l σ M, W l σ M → P M) ∧ (∀ σ M, W [] σ M → En.nx σ M) ∧
  ∀ x r σ M, W (x :: r) σ M → gd x σ M (fun σ2 M2 => body { En with nx := W r, ct := W r, bk := En.nx } E σ2 M2) E
def dForR (de : DE) (gd : DG) (body : DS) : DS := fun En E σ M => de σ M (fun x M1 => match x with
  | .ref a => ∃ xs, M1 a = some (.lst xs) ∧ ForGoP (fun M => M a = some (.lst xs)) gd body En E xs σ M1
  | .tup xs => ForGo gd body En E xs σ M1
  | .wtp xs => ForGo gd body En E xs σ M1
  | .lst xs => ForGo gd body En E xs σ M1
  | .scr ns => ForGo gd body En E (ns.map D.int) σ M1
  | _ => False) E
def LP (K : PySem.W.Frag) (F : Hp) (R : (MH → Prop) → List D → MH → Prop) : It → Hp → Prop := fun J H => ∃ F' M' xs P, Ex F F' ∧ G K F' M' H ∧ WkP K F' J xs P ∧ R P xs M'
end
end DL

/-! Plain: the very exchange that the program tells; what a board tells of itself; frames. -/
namespace DL
variable [DL.Wd] [DL.Fb]
open PySem PySem.Spec PyProof.Rows L2
namespace W
open Classical in
/-- the exchange that is told for numbers out of order -/
noncomputable def goodF (ns : List Nat) : Ex4 := if h : ∃ p : Nat × Nat, Ahead ns p.1 p.2 then (h.choose.1 - 1, ns.idxOf h.choose.2 + 1, ns.idxOf h.choose.1, endN ns (h.choose.2 + 1)) else (0, 0, 0, 0)
end W
/-- what a board tells of itself -/
def viewD (b a : List Str) (t : List W.Ex4) : List D := [.tup ((W.runE b t).map .str), .tup (b.map .str), .tup (a.map .str), .tup (t.map exT), .int (dist (W.runE b t) a : Nat), .int t.length, .bl true]
/-- other objects stand as they stood -/
def Fr (M N : MH) (as : List Addr) : Prop := ∀ c, c ∉ as → N c = M c
theorem Fr.put {M N : MH} {as : List Addr} (f : Fr M N as) {a : Addr} {o : MO} (h : a ∈ as) : Fr M (N.put a o) as := fun c hc => by
  have ne : c ≠ a := fun z => by subst z; exact hc h
  rw [MH.put_ne ne]; exact f c hc
end DL

/-! The deep layer: xs == () for a tuple of anything. -/
namespace GQ0
open PySem PySem.SeqAt
open AutoSeq1 (wpAny_loadPart')
open MeetsSeq MeetsSeq2 MeetsSeq3 SeqRoads2 GQ
section
variable {prog : Program} {w : World} {A : Around} {R : Result → Shared → Prop}
end
section
variable {prog : Program} {w : World} {A : Around} {E : Value → Shared → Prop} {s : Shared}
end
end GQ0
namespace DL
variable [DL.Wd] [DL.Fb]
open PySem PySem.Spec PyProof.Rows L2
section
variable {Ω : Wl} {τ : Sx} {X : Cx}
/-- xs == (), xs a tuple of anything -/
def eqNil : Op2 := fun x y M Q => match x, y with
  | .tup xs, .tup [] => Q (.bl xs.isEmpty) M
  | _, _ => False
end
end DL

/-! The deep layer: a def of the text handed on as a value, and called by the name that holds it. -/
namespace DL
variable [DL.Wd] [DL.Fb]
open PySem PySem.Spec PyProof.Rows L2
/-- where the defs of the text stand -/
class Fa where
  fa : Str → Addr
def faOf (mg : Str → Option Value) (x : Str) : Addr := match mg x with
  | some (.ref a) => a
  | _ => 0
section
variable [Fa]
def FnA (Ω : Wl) (x : Str) : Prop := Ω.mg x = some (.ref (Fa.fa x))
/-- the def's address -/
def fnD (x : Str) : D := .ref (Fa.fa x)
variable {Ω : Wl} {τ : Sx} {X : Cx} {e : Expr} {es : List Expr} {tl : DA} {p pos : Pos} {x y : Str}
/-- the name at place i holds the def y -/
def dCallV (i : Nat) (y : Str) (n : Nat) (sp : DSp) (t : DA) : DE := fun σ M Q E => (σ[i]? = some (some (fnD y))) ∧ t σ M (fun ds M1 => ds.length = n ∧ sp ds M1 Q fun er M2 => E er σ M2) E
end
end DL

/-! Plain: what was seen in a search in breadth, marked alike; layers counted. -/
namespace DL
variable [DL.Wd] [DL.Fb]
open PySem PySem.Spec PyProof.Rows L2
/-- the same keys, each with True -/
def vT (t : TabT) : TabT := t.map fun p => (p.1, D.bl true)
/-- a layer told in full -/
structure LayOk (ws : List Str) (d : Nat) (L : List (List Str)) : Prop where
  nd : L.Nodup
  mem : ∀ vs, vs ∈ L ↔ vs.Perm ws ∧ dist ws vs = d
theorem LayOk.len {ws : List Str} {d : Nat} {L : List (List Str)} (h : LayOk ws d L) (G : GoodT ws) (h6 : ws.length ≤ 6) : L.length = (distTab ws.length).getD d 0 := by
  rw [← dists_count G h6 d, List.count_eq_countP, List.countP_map, List.countP_eq_length_filter]
  refine (perm_of_iff h.nd ((ordW_nd G).filter _) fun vs => ?_).length_eq
  rw [h.mem vs, List.mem_filter, ordW_mem G]
  simp
end DL

/-! Plain: searches in breadth by any moves. -/
namespace DL
variable [DL.Wd] [DL.Fb]
open PySem PySem.Spec PyProof.Rows L2
section
variable {β ε : Type} (act : β → ε → β) (mv : List ε) (s : β)
/-- k moves lead to x -/
def RX (k : Nat) (x : β) : Prop := ∃ t : List ε, t.length = k ∧ (∀ e ∈ t, e ∈ mv) ∧ t.foldl act s = x
/-- k moves at most -/
def RM (d : Nat) (x : β) : Prop := ∃ k, k ≤ d ∧ RX act mv s k x
/-- k moves at least -/
def RL (d : Nat) (x : β) : Prop := RX act mv s d x ∧ ∀ k, k < d → ¬ RX act mv s k x
variable {act mv s}
theorem RX.zero {x : β} : RX act mv s 0 x ↔ x = s :=
  ⟨fun ⟨t, h1, _, h3⟩ => by rw [List.eq_nil_of_length_eq_zero h1] at h3; exact h3.symm, fun h => ⟨[], rfl, by simp, h.symm⟩⟩
theorem RX.succ {k : Nat} {x : β} : RX act mv s (k + 1) x ↔ ∃ y, RX act mv s k y ∧ ∃ e ∈ mv, act y e = x := by
  constructor
  · rintro ⟨t, h1, h2, h3⟩
    rcases List.eq_nil_or_concat t with rfl | ⟨u, e, rfl⟩
    · cases h1
    · rw [List.concat_eq_append] at h1 h2 h3
      rw [List.foldl_append] at h3
      rw [List.length_append, List.length_singleton] at h1
      exact ⟨u.foldl act s, ⟨u, by omega, fun z hz => h2 z (List.mem_append_left _ hz), rfl⟩, e, h2 e (by simp), h3⟩
  · rintro ⟨y, ⟨t, h1, h2, h3⟩, e, he, hx⟩
    refine ⟨t ++ [e], by simp [h1], fun z hz => ?_, by rw [List.foldl_append, h3]; exact hx⟩
    rcases List.mem_append.mp hz with q | q
    · exact h2 z q
    · rw [List.mem_singleton.mp q]; exact he
theorem RL.one {d e : Nat} {x : β} (h : RL act mv s d x) (k : RL act mv s e x) : d = e := by
  rcases Nat.lt_trichotomy d e with z | z | z
  · exact absurd h.1 (k.2 d z)
  · exact z
  · exact absurd k.1 (h.2 e z)
theorem RL.back {d : Nat} {x : β} (h : RL act mv s (d + 1) x) : ∃ y, RL act mv s d y ∧ ∃ e ∈ mv, act y e = x := by
  obtain ⟨y, hy, e, he, hx⟩ := RX.succ.mp h.1
  exact ⟨y, ⟨hy, fun k hk hz => h.2 (k + 1) (by omega) (RX.succ.mpr ⟨y, hz, e, he, hx⟩)⟩, e, he, hx⟩
theorem RL.self : RL act mv s 0 s := ⟨RX.zero.mpr rfl, fun k hk => absurd hk (by omega)⟩
theorem RL.zero {x : β} (h : RL act mv s 0 x) : x = s := RX.zero.mp h.1
theorem RL.not_le {d : Nat} {x : β} (h : RX act mv s (d + 1) x) (n : ¬ RM act mv s d x) : RL act mv s (d + 1) x := ⟨h, fun k hk hx => n ⟨k, by omega, hx⟩⟩
end
section
variable {β ε : Type} {act : β → ε → β} {mv : List ε} {s : β} {key : β → List Key} {ok : β → Prop}
/-- what stands while layer d + 1 is looked for -/
structure Bf2 (act : β → ε → β) (mv : List ε) (s : β) (key : β → List Key) (ok : β → Prop) (d : Nat) (t : TabT) (later : List β) : Prop where
  get : ∀ x, ok x → ((dGet t (key x)).isSome = true ↔ (RM act mv s d x ∨ x ∈ later))
  lat : ∀ x ∈ later, ok x ∧ RL act mv s (d + 1) x
  nd : later.Nodup
  ks : (t.map (·.1)).Nodup
  own : ∀ k ∈ t.map (·.1), ∃ x, ok x ∧ k = key x
theorem Bf2.put {d : Nat} {t : TabT} {later : List β} (B : Bf2 act mv s key ok d t later) (inj : ∀ x y, key x = key y → x = y) {x : β} (h : ok x) (hx : RX act mv s (d + 1) x) (no : (dGet t (key x)).isSome = false) (v : D) :
    Bf2 act mv s key ok d (dPut t (key x) v) (later ++ [x]) := by
  have h1 : ¬ (RM act mv s d x ∨ x ∈ later) := fun z => by rw [(B.get x h).mpr z] at no; cases no
  have hl : RL act mv s (d + 1) x := RL.not_le hx fun z => h1 (.inl z)
  have kp := ks_put (k := key x) (v := v) B.ks
  refine ⟨fun y hy => ?_, fun y hy => ?_, ?_, kp.1, fun k hk => ?_⟩
  · rw [dGet_put]
    by_cases e : key y = key x
    · rw [if_pos e, inj _ _ e]; simp
    · rw [if_neg e, B.get y hy]
      have : y ≠ x := fun z => e (by rw [z])
      simp [this]
  · rcases List.mem_append.mp hy with hy | hy
    · exact B.lat y hy
    · rw [List.mem_singleton.mp hy]; exact ⟨h, hl⟩
  · rw [List.nodup_append]
    refine ⟨B.nd, by simp, fun a ha b hb => ?_⟩
    rw [List.mem_singleton.mp hb]
    rintro rfl
    exact h1 (.inr ha)
  · rcases kp.2 k hk with z | rfl
    · exact B.own k z
    · exact ⟨x, h, rfl⟩
theorem Bf2.most {d : Nat} {t : TabT} {later : List β} (B : Bf2 act mv s key ok d t later) (al : List β) (h : ∀ x, ok x → x ∈ al) : t.length ≤ al.length := by
  have := W.nodup_sub_len (l' := al.map key) B.ks fun k hk => by
    obtain ⟨x, hx, rfl⟩ := B.own k hk
    exact List.mem_map.mpr ⟨x, h x hx, rfl⟩
  rw [List.length_map, List.length_map] at this
  exact this
/-- from where, by which step -/
def FromOk (act : β → ε → β) (mv : List ε) (s : β) (key : β → List Key) (val : β → ε → D) (t : TabT) : Prop :=
  ∀ x v, dGet t (key x) = some v → (x = s ∧ v = .non) ∨ ∃ y e k, e ∈ mv ∧ act y e = x ∧ v = val y e ∧ RL act mv s k y ∧ RL act mv s (k + 1) x
theorem FromOk.put {val : β → ε → D} {t : TabT} (f : FromOk act mv s key val t) (inj : ∀ x y, key x = key y → x = y) {y : β} {e : ε} {k : Nat} (he : e ∈ mv) (hy : RL act mv s k y) (hx : RL act mv s (k + 1) (act y e)) :
    FromOk act mv s key val (dPut t (key (act y e)) (val y e)) := fun x v h => by
  rw [dGet_put] at h
  by_cases z : key x = key (act y e)
  · rw [if_pos z] at h
    have := inj _ _ z
    exact .inr ⟨y, e, k, he, this.symm, (Option.some.inj h).symm, hy, by rw [this]; exact hx⟩
  · rw [if_neg z] at h; exact f x v h
end
/-! exchanges as moves -/
def swA {α : Type} (xs : List α) (e : W.Ex4) : List α := W.swapL xs e.1 e.2.1 e.2.2.1 e.2.2.2
/-- exchanges of neighbouring stretches -/
def slideE (n : Nat) : List W.Ex4 := (W.allE n).filter fun e => decide (e.2.1 = e.2.2.1)
theorem RX.trans {β ε : Type} {act : β → ε → β} {mv : List ε} {s x y : β} {k j : Nat} (h : RX act mv s k x) (h2 : RX act mv x j y) : RX act mv s (k + j) y := by
  obtain ⟨t, a1, a2, a3⟩ := h
  obtain ⟨u, b1, b2, b3⟩ := h2
  refine ⟨t ++ u, by rw [List.length_append, a1, b1], fun e he => ?_, by rw [List.foldl_append, a3, b3]⟩
  rcases List.mem_append.mp he with q | q
  · exact a2 e q
  · exact b2 e q
/-- the layers of a search, told in full -/
structure Lays {β ε : Type} (act : β → ε → β) (mv : List ε) (s : β) (Ls : List (List β)) : Prop where
  mem : ∀ d, d < Ls.length → ∀ x, x ∈ Ls.getD d [] ↔ RL act mv s d x
  all : ∀ d x, RL act mv s d x → d < Ls.length
end DL

/-! The deep layer: sorted of a tuple of ints. -/
namespace DL
variable [DL.Wd] [DL.Fb]
open PySem PySem.Spec PyProof.Rows L2
section
variable {Ω : Wl} {τ : Sx} {X : Cx}
/-- sorted, of ints in a tuple -/
def srtTI : D → MH → DQ → Prop := fun d M Q => match d with
  | .tup xs => ∃ ns : List Int, xs = ns.map .int ∧ ns.length < 64 ∧ ∀ ys : List Int, ys.Perm ns → ys.Pairwise (· ≤ ·) → Q (.lst (ys.map D.int)) M
  | _ => False
end
end DL

/-! The deep layer: x(lambda: e), the lambda called within x. -/
namespace DL
variable [DL.Wd] [DL.Fb]
open PySem PySem.Spec PyProof.Rows L2
def dAct (i : Nat) : DE := fun σ M Q E => σ[i]? = some (some (.ref Fb.ag)) ∧ Fb.atl M Q fun er M' => E er σ M'
/-- what is wanted may be less -/
def MonoT (tl : LamT) : Prop := ∀ M Q Q' E E', tl M Q E → (∀ v M, Q v M → Q' v M) → (∀ er M, E er M → E' er M) → tl M Q' E'
def upT (tl : LamT) : LamT := fun M Q E => ∃ Q1 E1, tl M Q1 E1 ∧ (∀ v M, Q1 v M → Q v M) ∧ ∀ er M, E1 er M → E er M
/-- the place of a def that calls what it got -/
def Sx.fnA (N : List Str) (sc : Scope) (k : Nat) (a : Str) : Sx := ⟨N, sc, k, true, fun _ => true, true, none, some (0, a)⟩
/-- the place of a lambda's body -/
def Sx.lm (τ : Sx) (scope : Scope) (k : Nat) : Sx := ⟨τ.N, scope, k, true, fun _ => false, false, none, none⟩
/-- the lambda's context, its air told by where no other error is in the air -/
def lamX (X : Cx) (A : Around) (out : List Env) (t : Shared) (H : Hp) (E : XK) (scope : Scope) (f c : Addr) : Cx := { LamX.lamCx X A out t H E scope f c with
  xe := fun u z => wpAny (model X.prog X.w) (A.deeper (LamX.lamEnv X scope t.heap.objs.size f c)) («leaving» (LamX.lamEnv X scope t.heap.objs.size f c) u) (fun _ z' => L2N.CX X.prog X.w out H t E u z') (fun u' z' => L2N.CX X.prog X.w out H t E u' z') z }
section
variable {Ω : Wl} {τ : Sx} {X : Cx} {pins : List (Addr × Obj)} {σ : L2.St} {σ' : DSt} {s : Shared} {A : Around} {out : List Env} {t : Shared} {H : Hp} {E : XK} {scope : Scope} {f c : Addr} {k : Nat}
end
/-- a def that calls what it got, by what the lambda does; nothing is let out of it -/
def CalA (Ω : Wl) (x a : Str) (k : Nat) (sp : LamT → MH → DQ → Prop) : Prop := ∃ (f : Addr) (fd : FuncData) (st : Stmt) (N : List Str) (d : Fb → DS), Fun Ω.K x x st f fd ∧ Ω.mg x = some (.ref f) ∧ Binds Ω.K fd [a] [] ∧ FnScope N [a] (defScope st) ∧
  (∀ B : Fb, @DPSs _ B Ω (Sx.fnA N (defScope st) k a) (defBody st) (d B)) ∧ ∀ (B : Fb) M Q, MonoT B.atl → sp B.atl M Q → d B (ends Q) (fun _ _ _ => False) (dstart N [.ref B.ag]) M
/-- a def's code object, its table -/
structure LamF (Ω : Wl) (x : Str) : Prop where
  tb : LamX.TabB Ω.base Ω.mg (Wd.lc x).1 (Wd.lc x).2
  mem : ((Wd.lc x).2, (x ++ ".<locals>.") ++ "<lambda>") ∈ Wd.ts
  one : ∀ p ∈ Wd.ts, p.1 = (Wd.lc x).2 → p.2 = (x ++ ".<locals>.") ++ "<lambda>"
def dLam (sp : LamT → MH → DQ → Prop) (db : DE) : DE := fun σ M Q _ => sp (upT fun M1 Q1 E1 => db σ M1 Q1 fun er _ M2 => E1 er M2) M Q
section
variable {Ω : Wl} {τ : Sx} {vs : List Nat} {gs : List Str}
end
end DL

/-! The deep layer: raise C() of an own class without own __init__; what is told of exception classes. -/
namespace DL
variable [DL.Wd] [DL.Fb]
open PySem PySem.Spec PyProof.Rows L2
/-- what must be seen of an own exception class without own __init__ -/
structure Xc0 (Ω : Wl) (x : Str) : Prop where
  ex : ∃ (C : Addr) (B newId initId : String) (bmB : List Value), clsV Ω.K x = .ref C ∧ Ω.mg x = some (.ref C) ∧ PySem.W.keepIn Ω.K (.ref C) = true ∧ PySem.W.subIn Ω.K (.ref C) (.type "BaseException") = some true ∧ PySem.W.typeIn Ω.K (.ref C) = some (.type "type") ∧ ExcBaseFacts B newId initId bmB ∧ PySem.W.excIn Ω.K C bmB newId = true
def dRaise0 (C : Str) : DS := fun _ E σ M => E ⟨C, [], []⟩ σ M
end DL

/-! What is told of exception classes, made from what is seen of the written part. -/
namespace DL
open PySem PySem.Spec PyProof.Rows L2
theorem xc0_mk {P : Program} {w : World} {K : PySem.W.Frag} {mg : Str → Option Value} {base h : Heap} {x : Str} {C : Addr} {B newId i : String} {bmB : List Value} (X : K.In h) (G : h.Ns mainGlobals mg) (FB : ExcBaseFacts B newId i bmB) (g : PySem.W.nsIn K mainGlobals x = some (some (.ref C)))
    (keep : PySem.W.keepIn K (.ref C) = true) (subB : PySem.W.subIn K (.ref C) (.type "BaseException") = some true) (ty : PySem.W.typeIn K (.ref C) = some (.type "type")) (q : PySem.W.excIn K C bmB newId = true) : Xc0 ⟨P, w, K, mg, base⟩ x :=
  ⟨C, B, newId, i, bmB, clsV_of g, PySem.W.mg_of X G g, keep, subB, ty, FB, q⟩
theorem look_in {α β : Type} [BEq α] [LawfulBEq α] {a : α} {b : β} : ∀ {l : List (α × β)}, l.lookup a = some b → (a, b) ∈ l
  | [], h => by simp at h
  | (x, y) :: l, h => by
    rw [List.lookup_cons] at h
    split at h
    · rename_i e
      cases h
      rw [eq_of_beq e]; exact List.mem_cons_self
    · exact List.mem_cons_of_mem _ (look_in h)
theorem exK_of {Ω : Wl} {L : List ((Str × Str) × Bool)} (h : ∀ p ∈ L, PySem.W.exmOne Ω.K (clsV Ω.K p.1.1) (clsV Ω.K p.1.2) = some p.2) : ExK Ω fun c d => L.lookup (c, d) := fun c d b e => h ((c, d), b) (look_in e)
theorem ex1 {K : PySem.W.Frag} {c d : Str} {C D : Addr} {b : Bool} (hc : PySem.W.nsIn K mainGlobals c = some (some (.ref C))) (hd : PySem.W.nsIn K mainGlobals d = some (some (.ref D))) (h : PySem.W.exmOne K (.ref C) (.ref D) = some b) : PySem.W.exmOne K (clsV K c) (clsV K d) = some b := by
  rw [clsV_of hc, clsV_of hd]; exact h
theorem xfK_of {Ω : Wl} {L : List (Str × Str)} (h : ∀ p ∈ L, ∃ C, clsV Ω.K p.1 = .ref C ∧ XfC Ω.K C ∧ PySem.W.findIn Ω.K (.ref C) p.2 = some none) : XfK Ω fun c f => L.contains (c, f) := fun c f e => h (c, f) (List.contains_iff_mem.mp e)
theorem xf1 {K : PySem.W.Frag} {c f : Str} {C : Addr} (hc : PySem.W.nsIn K mainGlobals c = some (some (.ref C))) (h1 : PySem.W.findIn K (.ref C) "__getattribute__" = some (some (.builtin "BaseException.__getattribute__"))) (h2 : PySem.W.findIn K (.ref C) "__getattr__" = some none) (h3 : PySem.W.subIn K (.ref C) (.type "BaseException") = some true)
    (h4 : PySem.W.hasDictIn K C = true) (h5 : PySem.W.findIn K (.ref C) f = some none) : ∃ C, clsV K c = .ref C ∧ XfC K C ∧ PySem.W.findIn K (.ref C) f = some none := ⟨C, clsV_of hc, ⟨h1, h2, h3, h4⟩, h5⟩
end DL

/-! Helps for the laws of refusals. -/
namespace DL
variable [DL.Wd] [DL.Fb]
open PySem PySem.Spec PyProof.Rows L2
theorem datD_of {v : D} {M : MH} {R : D → Prop} (h : ∀ a, v ≠ .ref a) (r : R v) : datD v M R := by
  cases v <;> first | exact r | exact absurd rfl (h _)
/-- what can be shown -/
structure ShD (v : D) : Prop where
  ok : okN 50 v
  sh : showB v = true
  no : ∀ a, v ≠ .ref a
theorem look1 {f : Str} {v : D} : List.lookup f ([f].zip [v]) = some v := by simp [List.lookup]
/-- an error of one field -/
abbrev er1 (c f : Str) (v : D) : Er := ⟨c, [f], [v]⟩
theorem okN_mono : ∀ {n m : Nat} {d : D}, okN n d → n ≤ m → okN m d := by
  intro n
  induction n with
  | zero => intro m d h _; cases d <;> cases m <;> first | exact h.elim | exact h | trivial
  | succ n ih =>
    intro m d h hm
    obtain ⟨m, rfl⟩ : ∃ k, m = k + 1 := ⟨m - 1, by omega⟩
    cases d <;> first | exact h.elim | exact h | trivial | skip
    all_goals exact fun x hx => ih (h x hx) (by omega)
end DL

/-! What repr gives is a text. -/
namespace DL
open PySem PySem.Spec PyProof.Rows L2
theorem tx_iff {x : Str} : PyData.strOk x = true ↔ ∀ c ∈ x.cps.toList, c < 0x110000 := by
  unfold PyData.strOk
  rw [Array.all_eq_true_iff_forall_mem]
  constructor
  · intro h c hc
    simpa using h c (Array.mem_toList_iff.mp hc)
  · intro h c hc
    simpa using h c (Array.mem_toList_iff.mpr hc)
theorem tx_app {x y : Str} (h : PyData.strOk x = true) (k : PyData.strOk y = true) : PyData.strOk (x ++ y) = true := by
  rw [tx_iff] at h k ⊢
  intro c hc
  have e : (x ++ y).cps = x.cps ++ y.cps := rfl
  rw [e, Array.toList_append, List.mem_append] at hc
  exact hc.elim (h c) (k c)
theorem tx_lit (s : String) : PyData.strOk (Str.ofString s) = true := by
  rw [tx_iff, Str.ofString_eq_toList]
  intro c hc
  simp only [List.mem_map] at hc
  obtain ⟨d, _, rfl⟩ := hc
  have := d.valid
  unfold UInt32.isValidChar Nat.isValidChar at this
  have e : d.toNat = d.val.toNat := rfl
  rcases this with h | h <;> omega
theorem tx_char {q c : Nat} (hq : q < 0x110000) (h : c < 0x110000) : ∀ z ∈ Builtin.Str.reprChar q c, z < 0x110000 := by
  have dig : ∀ n : Nat, ∀ z ∈ (Nat.toDigits 16 n).map Char.toNat, z < 0x110000 := fun n z hz => by
    obtain ⟨d, _, rfl⟩ := List.mem_map.mp hz
    have := d.valid
    unfold UInt32.isValidChar Nat.isValidChar at this
    have e : d.toNat = d.val.toNat := rfl
    rcases this with h | h <;> omega
  have hx : ∀ w : Nat, ∀ z ∈ List.replicate (w - ((Nat.toDigits 16 c).map Char.toNat).length) 48 ++ (Nat.toDigits 16 c).map Char.toNat, z < 0x110000 := fun w z hz => by
    rcases List.mem_append.mp hz with hz | hz
    · rw [(List.mem_replicate.mp hz).2]; omega
    · exact dig c z hz
  intro z hz
  unfold Builtin.Str.reprChar at hz
  simp only [] at hz
  repeat' split at hz
  all_goals
    simp only [List.mem_cons, List.not_mem_nil, or_false, List.cons_append, List.nil_append] at hz
    first
      | (rcases hz with rfl | rfl <;> omega)
      | (rcases hz with rfl | rfl | hz
         · omega
         · omega
         · exact hx _ _ hz)
      | (subst hz; omega)
theorem tx_repr {x : Str} (h : PyData.strOk x = true) : PyData.strOk (reprText x) = true := by
  rw [tx_iff] at h ⊢
  have hq : reprQuote x < 0x110000 := by unfold reprQuote; split <;> omega
  have go : ∀ (l : List Nat) (acc : Array Nat), (∀ c ∈ l, c < 0x110000) → (∀ c ∈ acc.toList, c < 0x110000) → ∀ c ∈ (l.foldl (fun out c => out ++ (Builtin.Str.reprChar (reprQuote x) c).toArray) acc).toList, c < 0x110000 := by
    intro l
    induction l with
    | nil => intro acc _ h2; exact h2
    | cons a l ih =>
      intro acc h1 h2
      refine ih _ (fun c hc => h1 c (List.mem_cons_of_mem _ hc)) fun c hc => ?_
      rw [Array.toList_append, List.mem_append] at hc
      rcases hc with hc | hc
      · exact h2 c hc
      · exact tx_char hq (h1 a List.mem_cons_self) c hc
  intro c hc
  unfold reprText at hc
  rw [Array.toList_push, List.mem_append, ← Array.foldl_toList] at hc
  rcases hc with hc | hc
  · exact go _ _ h (fun c hc => by have : c = reprQuote x := by simpa using hc
                                   rw [this]; exact hq) c hc
  · have : c = reprQuote x := by simpa using hc
    rw [this]; exact hq
theorem tx_join {s : Str} (hs : PyData.strOk s = true) : ∀ {l : List Str}, (∀ x ∈ l, PyData.strOk x = true) → PyData.strOk (Str.join s l) = true
  | [], _ => tx_lit ""
  | [x], h => h x List.mem_cons_self
  | x :: y :: l, h => by
    rw [Str.join]
    · exact tx_app (tx_app (h x List.mem_cons_self) hs) (tx_join hs fun z hz => h z (List.mem_cons_of_mem _ hz))
    · intro z; cases z
theorem tx_shown : ∀ (n : Nat) (d : D), okN n d → PyData.strOk d.py.shown = true := by
  intro n
  induction n with
  | zero =>
    intro d h
    cases d <;> first | exact h.elim | skip
    · simp only [D.py, PyData.shown]; exact tx_lit _
    · simp only [D.py, PyData.shown]; split <;> exact tx_lit _
    · simp only [D.py, PyData.shown]; exact tx_lit _
    · simp only [D.py, PyData.shown]; exact tx_repr h
  | succ n ih =>
    intro d h
    have sub : ∀ xs : List D, (∀ x ∈ xs, okN n x) → ∀ t ∈ PyData.shownAll (D.pyL xs), PyData.strOk t = true := by
      intro xs
      induction xs with
      | nil => intro _ t ht; simp [D.pyL, PyData.shownAll] at ht
      | cons a xs ih2 =>
        intro hx t ht
        simp only [D.pyL, PyData.shownAll, List.mem_cons] at ht
        rcases ht with rfl | ht
        · exact ih a (hx a List.mem_cons_self)
        · exact ih2 (fun z hz => hx z (List.mem_cons_of_mem _ hz)) t ht
    cases d <;> first | exact h.elim | skip
    · simp only [D.py, PyData.shown]; exact tx_lit _
    · simp only [D.py, PyData.shown]; split <;> exact tx_lit _
    · simp only [D.py, PyData.shown]; exact tx_lit _
    · simp only [D.py, PyData.shown]; exact tx_repr h
    · rw [D.py, PyData.shown_tuple]
      exact tx_app (tx_app (tx_lit _) (tx_join (tx_lit _) (sub _ h))) (by split <;> exact tx_lit _)
    · rw [D.py, PyData.shown_list]
      exact tx_app (tx_app (tx_lit _) (tx_join (tx_lit _) (sub _ h))) (tx_lit _)
end DL

/-! The deep layer: a def that raises nothing, called where an error is being handled. -/
namespace DL
variable [DL.Wd] [DL.Fb]
open PySem PySem.Spec PyProof.Rows L2
structure FnGH (P : Program) (w : World) (K : PySem.W.Frag) (mg : Str → Option Value) (base : Heap) (CX : CXT) (k : Nat) (f : Addr) (fd : FuncData) (ps : List Str) (sp : Sp) : Prop where
  size : ∀ ws H Q E, sp ws H Q E → ws.length = ps.length
  go : ∀ (A : Around) (out : List Env) (t : Shared) (H : Hp) (ag : Args) (us : List Value) (ws : List V) (Q : VK) (E : XK), RoomH k A → A.guards = some [] → Env0 P w K mg base A out t H → BindsTo t fd ag (ps.zip us) → Vals ws us → sp ws H Q E →
    codeAny (model P w) A (.call (.ref f) ag) (CR CX out P w H t Q E) t
/-- the place of a def that is called where an error is handled -/
def Sx.fnH (N : List Str) (sc : Scope) (k : Nat) : Sx := ⟨N, sc, k, false, fun _ => true, true, none, none⟩
abbrev OkdH (Ω : Wl) (f : Addr) (fd : FuncData) (k : Nat) (ps : List Str) (sp : DSp) : Prop := FnGH Ω.P Ω.w Ω.K Ω.mg Ω.base (L2N.CX Ω.P Ω.w) k f fd ps (lift Ω.K ps.length sp)
def CalH (Ω : Wl) (x : Str) (k : Nat) (ps : List Str) (sp : DSp) : Prop := ∃ f fd, OkdH Ω f fd k ps sp ∧ Ω.mg x = some (.ref f) ∧ PySem.W.keepIn Ω.K (.ref f) = true ∧ Binds Ω.K fd ps []
section
variable {Ω : Wl} {τ : Sx} {x : Str} {k : Nat} {ps N : List Str} {sp : DSp} {st : Stmt} {d : DS} {vs : List Nat} {gs : List Str} {e : Expr} {es : List Expr} {tl : DA} {p pos : Pos}
/-- the call; nothing may be raised there -/
def dCallH (n : Nat) (sp : DSp) (t : DA) : DE := fun σ M Q E => t σ M (fun ds M1 => ds.length = n ∧ sp ds M1 Q fun _ _ => False) E
end
end DL

/-! try .. except whose clauses may name several classes in a tuple. -/
namespace DL
variable [DL.Wd] [DL.Fb]
open PySem PySem.Spec PyProof.Rows L2
/-- what the head of a clause is tested by -/
def TestOk (X : Cx) (t : Expr) (m : Value → Option Bool) : Prop := ∀ {cls : Value} {b : Bool}, m cls = some b → ∀ {a : Addr} {oe : Obj} {pn : List (Addr × Obj)} {s : Shared} {σ : L2.St} {H : Hp} {Q : Bool → Shared → Prop} {E : Value → Shared → Prop},
  Inv (X.suite a ((a, oe) :: pn)) [] σ H s → s.heap.get? a = some oe → oe.cls = cls → (∀ h', (∀ b o, s.heap.get? b = some o → h'.get? b = some o) → Q b { s with heap := h' }) →
    wpAny (model X.prog X.w) (X.A.mark (some (.ref a))) (eval t X.env) (fun v s1 => wpAny (model X.prog X.w) (X.A.mark (some (.ref a))) (excMatches (.ref a) v) Q E s1) E s
theorem names_ev {X : Cx} {x : Str} {c : Value} {np : Pos} (hc : Names X x c) {a : Addr} {oe : Obj} {pn : List (Addr × Obj)} {s : Shared} {σ : L2.St} {H : Hp} {Q : Value → Shared → Prop} {E : Value → Shared → Prop} (S3 : Inv (X.suite a ((a, oe) :: pn)) [] σ H s) (q : Q c s) :
    wpAny (model X.prog X.w) (X.A.mark (some (.ref a))) (eval (.Name x np) X.env) Q E s := by
  obtain ⟨hg, hdbg, hm | ⟨hm, hv, hnn⟩⟩ := hc
  · exact ld_glob (X := X.suite a ((a, oe) :: pn)) S3 hg hm q hdbg
  · exact ld_blt (X := X.suite a ((a, oe) :: pn)) S3 hg hm hv q hnn hdbg
theorem test_2 {X : Cx} {x1 x2 : Str} {c1 c2 : Value} {p1 p2 pos : Pos} {kk : Nat} (n1 : Names X x1 c1) (n2 : Names X x2 c2) : TestOk X (.Tuple [.Name x1 p1, .Name x2 p2] kk pos) (fun cls => PySem.W.exmAny X.K cls [c1, c2]) := by
  intro cls b hb1 a oe pn s σ H Q E S3 he hz q
  have LT : PySem.W.Looks (model X.prog X.w) s.heap (typeOf (.ref a)) cls := fun A Q E s k q => wpAny_typeOf_ref (k _ _ he) (by rw [hz]; exact q)
  refine wpAny_Tuple ?_
  refine wpAny_items_cons (names_ev n1 S3 ?_)
  refine wpAny_items_cons (names_ev n2 S3 ?_)
  refine wpAny_items_nil ⟨by size_fits, ?_⟩
  have kp : ∀ q o, s.heap.get? q = some o → (s.heap.push { cls := .type "tuple", data := .seq [c1, c2].toArray }).get? q = some o := fun _ _ z => Heap.get?_push_of_some _ z
  exact (PySem.W.exm_tup2 (S3.kIn.keeps kp) (LT.keeps kp) (Heap.get?_push_size s.heap rfl) hb1).here (q _ kp)
/-- the clauses: what each asks of an exception of the body -/
inductive HdsU (X : Cx) (D : Ends) (Wout : WX) : List ExceptHandler → WX → Prop
  | nil : HdsU X D Wout [] Wout
  | one {t : Expr} {m : Value → Option Bool} {b₀ : Stmt} {suite : List Stmt} {pos' : Pos} {hds : List ExceptHandler} {W : WX} {ts : Value → Option Addr → TS} (hc : TestOk X t m)
      (hsu : ∀ (a : Addr) (cls : Value) (d : Option Addr) (pn : List (Addr × Obj)), PSs (X.suite a pn) (b₀ :: suite) (ts cls d)) (r : HdsU X D Wout hds W) :
      HdsU X D Wout (.ExceptHandler (some t) none (b₀ :: suite) pos' :: hds)
        (fun cls d σ H => ∃ b, m cls = some b ∧ (b = true → ∀ a, H a = none → ts cls d D σ (upd H a (xcO a cls d))) ∧ (b = false → W cls d σ H))
  | as_ {t : Expr} {m : Value → Option Bool} {n : Str} {i : Nat} {b₀ : Stmt} {suite : List Stmt} {pos' : Pos} {hds : List ExceptHandler} {W : WX} {ts : Value → Option Addr → TS} (hc : TestOk X t m) (hN : X.N.Nodup) (hi : X.N[i]? = some n) (hln : X.env.kindOf n = some .local)
      (hsu : ∀ (a : Addr) (cls : Value) (d : Option Addr) (pn : List (Addr × Obj)), PSs (X.suite a pn) (b₀ :: suite) (ts cls d)) (r : HdsU X D Wout hds W) :
      HdsU X D Wout (.ExceptHandler (some t) (some n) (b₀ :: suite) pos' :: hds)
        (fun cls d σ H => ∃ b, m cls = some b ∧ (b = true → ∀ a, H a = none → ts cls d (goneE i D) (σ.set i (some (.ref a))) (upd H a (xcO a cls d))) ∧ (b = false → W cls d σ H))
section
variable {X : Cx} {body : List Stmt} {h₀ : ExceptHandler} {hds : List ExceptHandler} {pos : Pos} {Wout : WX}
end
section
variable {Ω : Wl} {τ : Sx} {X : Cx} {gs : List Str} {vs : List Nat}
def DHU (Ω : Wl) (τ : Sx) (hds : List ExceptHandler) (dh : DHs) : Prop := Hd (∀ X, Fit Ω τ X → ∀ (F0 : Hp) (E : EK) (F : Hp) (D : DEnds), Ex F0 F → ∃ W, HdsU X (LE X.K F D) (LX X.K F0 E) hds W ∧ ∀ cls d σ H, LX X.K F (fun er σ' M => dh er D E σ' M) cls d σ H → W cls d σ H)
/-- a clause that names several classes -/
def esAny (es : Str → Str → Option Bool) (c : Str) : List Str → Option Bool
  | [] => some false
  | x :: r => match es c x, esAny es c r with
    | some b, some d => some (b || d)
    | _, _ => none
def dHAsT (es : Str → Str → Option Bool) (xs : List Str) (i : Nat) (ds : DS) (r : DHs) : DHs := fun er D E σ M => ∃ b, esAny es er.cls xs = some b ∧ (b = true → ds (goneD i D) noE (σ.set i (some (.exc er.cls er.ns er.fs))) M) ∧ (b = false → r er D E σ M)
theorem ht2 {x1 x2 : Str} {p1 p2 pos : Pos} {kk : Nat} (S : ScOk τ.N vs gs τ.sc) (h1 : Ω.mg x1 = some (clsV Ω.K x1)) (h2 : Ω.mg x2 = some (clsV Ω.K x2))
    (g1 : x1 ∈ gs := by decide) (g2 : x2 ∈ gs := by decide) (d1 : (x1 == ("__debug__" : Str)) = false := by decide) (d2 : (x2 == ("__debug__" : Str)) = false := by decide) :
    ∀ X, Fit Ω τ X → TestOk X (.Tuple [.Name x1 p1, .Name x2 p2] kk pos) fun cls => PySem.W.exmAny X.K cls ([x1, x2].map (clsV Ω.K)) := fun X ft =>
  test_2 ⟨fit_gl ft S g1, d1, .inl (by rw [ft.mg]; exact h1)⟩ ⟨fit_gl ft S g2, d2, .inl (by rw [ft.mg]; exact h2)⟩
end
end DL

/-! The deep layer: isinstance of what was caught. -/
namespace DL
variable [DL.Wd] [DL.Fb]
open PySem PySem.Spec PyProof.Rows L2
/-- a table of which exceptions are of which class -/
def EiK (Ω : Wl) (ei : Str → Str → Option Bool) : Prop := ∀ c t b, ei c t = some b → ∃ D, clsV Ω.K c = .ref D ∧ (PySem.W.clsIn Ω.K D).isSome = true ∧ L2.ExcC Ω.K D ∧ PySem.W.kitOne Ω.K (.ref D) (clsV Ω.K t) = some b
def rIsX (K : PySem.W.Frag) : List V → Hp → VK → Prop := fun xs H Q => ∃ (a D : Addr) (d : Option Addr) (c : V) (cv : Value) (b : Bool), xs = [.ref a, c] ∧ H a = some (xcO a (.ref D) d) ∧ (∀ dd, d = some dd → ∃ fs, H dd = some (.xd fs)) ∧ (PySem.W.clsIn K D).isSome = true ∧ L2.ExcC K D ∧ ClsV c cv ∧ PySem.W.kitOne K (.ref D) cv = some b ∧ Q (.bl b) H
theorem call_isX {X : Cx} : CallR X (.builtin "isinstance") (rIsX X.K) := by
  intro pins s σ H xs us Q I r h
  obtain ⟨a, D, d, c, cv, b, rfl, ha, hd, hcl, T, k, e, q⟩ := h
  obtain ⟨u1, u2, rfl, r1, r2⟩ := r.two
  have e2 := k.eq r2
  subst e2
  obtain rfl : u1 = Value.ref a := r1
  obtain ⟨⟨oe, vs, he, hcls, hdict, hdata⟩, _, _⟩ := I.hok a _ ha
  have nc : PySem.W.notCls oe = true := by unfold PySem.W.notCls; rw [hdata] <;> rfl
  cases d with
  | none =>
    have J : PySem.W.InstAt s.heap a oe D none := ⟨he, hcls, nc, by rw [hdict]; trivial⟩
    exact PySem.W.kia_one (PySem.W.kitx_exc hcl T.hg T.hk T.hs T.ha T.hn T.ht T.hm) I.kIn J e (fun z => nomatch z) fun tk => ⟨.bl b, H, I.tok tk, rfl, q⟩
  | some dd =>
    obtain ⟨fs, hf⟩ := hd dd rfl
    obtain ⟨mA, hns, hr⟩ := I.hok dd _ hf
    obtain ⟨od, ho, hlk⟩ := lookIn_ns hns
    have J : PySem.W.InstAt s.heap a oe D (some od) := ⟨he, hcls, nc, by rw [hdict]; exact ho⟩
    exact PySem.W.kia_one (PySem.W.kitx_exc hcl T.hg T.hk T.hs T.ha T.hn T.ht T.hm) I.kIn J e (fun z => nomatch z) fun tk => ⟨.bl b, H, I.tok tk, rfl, q⟩
def dIsE (ei : Str → Str → Option Bool) (T : Str) (de : DE) : DE := fun σ M Q E => de σ M (fun x M1 => match x with
  | .exc C _ _ => ∃ b, ei C T = some b ∧ Q (.bl b) M1
  | _ => False) E
section
variable {Ω : Wl} {τ : Sx} {X : Cx} {gs : List Str} {vs : List Nat} {e : Expr} {de : DE} {x : Str} {p p2 pos : Pos}
theorem dp_isX {ei : Str → Str → Option Bool} {c : V} (k : EiK Ω ei) (S : ScOk τ.N vs gs τ.sc) (hm : Ω.mg "isinstance" = none) (hc : ClsV c (clsV Ω.K x)) (hN : ∀ X, Fit Ω τ X → PE X (.Name x p2) (tC c)) (he : DP Ω τ e de) (hg : ("isinstance" : Str) ∈ gs := by decide)
    (hs : ∀ env, starEach [e, .Name x p2] env = [(false, eval e env), (false, eval (.Name x p2) env)] := by intro _; rfl) : DP Ω τ (.Call (.Name "isinstance" p) [e, .Name x p2] [] pos) (dIsE ei x de) := Hd.mk fun X ft F0 E tk F M H σ σ' Q e0 g r h => by
  refine wE_of (pe_callB call_isX (fit_gl ft S hg) (by rw [ft.mg]; exact hm) boot_isinstance (pa_cons pe_wE (pa_cons (hN X ft) pa_nil (by rfl)) (by rw [hs]; rfl)) (by decide) (by decide) (by rw [hs]; rfl) (by rfl)) ?_
  refine wE_mono (he.run X ft F0 E tk F M H σ σ' _ e0 g r h) ?_
  rintro v H1 ⟨F1, M1, d, e1, g1, r1, q⟩
  cases d <;> first | exact q.elim | skip
  rename_i C ns fs
  obtain ⟨b, hb, hq⟩ := q
  obtain ⟨D, hD, hcl, T, hk⟩ := k _ _ _ hb
  have fin : LQ X.K F Q (.bl b) H1 := ⟨F1, M1, _, e1, g1, .bl _, hq⟩
  rw [← ft.K] at hD hcl T hk hc
  cases r1 with
  | exc0 h1 => exact ⟨_, D, none, c, _, b, rfl, by rw [← hD]; exact g1.ex _ _ h1, (fun _ z => by cases z), hcl, T, hc, hk, fin⟩
  | @exc1 a dd _ fs' _ _ h1 h2 h3 h4 => exact ⟨_, D, some dd, c, _, b, rfl, by rw [← hD]; exact g1.ex _ _ h1, (fun _ z => by cases z; exact ⟨_, g1.ex _ _ h2⟩), hcl, T, hc, hk, fin⟩
theorem dp_isXO {ei : Str → Str → Option Bool} (k : EiK Ω ei) (S : ScOk τ.N vs gs τ.sc) (hm : Ω.mg "isinstance" = none) (hC : ∃ C, clsV Ω.K x = .ref C ∧ Ω.mg x = some (.ref C)) (he : DP Ω τ e de) (hg : ("isinstance" : Str) ∈ gs := by decide) (hgx : x ∈ gs := by decide) (hdb : (x == ("__debug__" : Str)) = false := by decide)
    (hs : ∀ env, starEach [e, .Name x p2] env = [(false, eval e env), (false, eval (.Name x p2) env)] := by intro _; rfl) : DP Ω τ (.Call (.Name "isinstance" p) [e, .Name x p2] [] pos) (dIsE ei x de) :=
  hC.elim fun C hC => dp_isX (c := .ref C) k S hm (by rw [hC.1]; exact .own C) (fun X ft => pe_glob (fit_gl ft S hgx) (by rw [ft.mg]; exact hC.2) rfl hdb) he hg hs
theorem dp_isXB {ei : Str → Str → Option Bool} {T : String} (k : EiK Ω ei) (S : ScOk τ.N vs gs τ.sc) (hm : Ω.mg "isinstance" = none) (hC : clsV Ω.K x = .type T) (hm2 : Ω.mg x = none) (hv : bootBuiltins x = some (.type T)) (he : DP Ω τ e de) (hg : ("isinstance" : Str) ∈ gs := by decide) (hgx : x ∈ gs := by decide) (hn : x ≠ "__name__" := by decide) (hdb : (x == ("__debug__" : Str)) = false := by decide)
    (hs : ∀ env, starEach [e, .Name x p2] env = [(false, eval e env), (false, eval (.Name x p2) env)] := by intro _; rfl) : DP Ω τ (.Call (.Name "isinstance" p) [e, .Name x p2] [] pos) (dIsE ei x de) :=
  dp_isX (c := .ty T) k S hm (by rw [hC]; exact .ty T) (fun X ft => pe_bltn (fit_gl ft S hgx) (by rw [ft.mg]; exact hm2) hv rfl hn hdb) he hg hs
end
end DL

/-! The deep layer: count and index in a list of truth values. -/
namespace DL
variable [DL.Wd] [DL.Fb]
open PySem PySem.Spec PyProof.Rows L2
def rCntB (K : PySem.W.Frag) : V → List V → Hp → VK → Prop := fun x xs H Q => ∃ (p : Addr) (bs : List Bool) (k : Bool), x = .ref p ∧ xs = [.bl k] ∧ SqL K H p (bs.map V.bl) ∧ Q (.int (bs.count k : Nat)) H
/-- bs.count(b) -/
def countBM : OpM := fun x ys M Q => match ys with
  | [.bl k] => lstD x M fun xs => ∃ bs : List Bool, xs = bs.map .bl ∧ Q (.int (bs.count k : Nat)) M
  | _ => False
/-- bs.index(b), there -/
def indexBM : OpM := fun x ys M Q => match ys with
  | [.bl k] => lstD x M fun xs => ∃ bs : List Bool, xs = bs.map .bl ∧ k ∈ bs ∧ Q (.int (bs.idxOf k : Nat)) M
  | _ => False
/-! ### the table of classes -/
omit [DL.Wd] [DL.Fb] in
theorem clsV_ty {K : PySem.W.Frag} {t : Str} (T : String) (h : PySem.W.nsIn K mainGlobals t = some none) (e : t.toString = T) : clsV K t = .type T := by
  unfold clsV; rw [h, e]
omit [DL.Wd] [DL.Fb] in
theorem eiK_of {Ω : Wl} {L : List ((Str × Str) × Bool)} (h : ∀ p ∈ L, ∃ D, clsV Ω.K p.1.1 = .ref D ∧ (PySem.W.clsIn Ω.K D).isSome = true ∧ L2.ExcC Ω.K D ∧ PySem.W.kitOne Ω.K (.ref D) (clsV Ω.K p.1.2) = some p.2) : EiK Ω fun c d => L.lookup (c, d) := fun c d b e => h ((c, d), b) (look_in e)
end DL

/-! Own exception classes of two fields: made. -/
namespace PySem.W
open PySem PySem.Calls PyProof.Rows
section
variable {prog : Program} {w : World} {A : Around} {E : Value → Shared → Prop} {s : Shared} {mg mb : Str → Option Value} {K : Frag} {C f cc cda : Addr} {B newId i : String} {bmB : List Value} {nm qu fld fld2 a1 a2 : Str} {par : Arguments} {scope : Scope} {p0 p1 p2 p3 p4 p5 p6 p7 p8 p9 p10 p11 p12 : Pos}
theorem call_exc2 {v v2 : Value} {Q : Value → Shared → Prop} (X : K.In s.heap) (hg : s.heap.Ns mainGlobals mg) (hb : s.heap.Ns builtinsNs mb) (hbb : ∀ x : Str, x ≠ "__name__" → mb x = bootBuiltins x) (hlim : s.heap.NoLimit) (hroom : A.depth + 5 < recursionLimit)
    (T : XcF prog K C B newId i bmB f cc cda nm qu par [.Expr (.Call (.Attribute (.Call (.Name "super" p0) [] [] p1) "__init__" p2) [] [] p3) p4, .Assign [.Attribute (.Name "self" p5) fld p6] (.Name a1 p7) p8, .Assign [.Attribute (.Name "self" p9) fld2 p10] (.Name a2 p11) p12] scope ["self", a1, a2])
    (ht : takerIn K C fld = some none) (ht2 : takerIn K C fld2 = some none) (ne : a1 ≠ ("self" : Str)) (ne2 : a2 ≠ ("self" : Str)) (ne3 : a1 ≠ a2) (nf : fld ≠ fld2) (hdb : (a1 == ("__debug__" : Str)) = false) (hdb2 : (a2 == ("__debug__" : Str)) = false)
    (hev : ∀ env, ∃ pl, eval (.Call (.Attribute (.Call (.Name "super" p0) [] [] p1) "__init__" p2) [] [] p3) env = (do
      let ov ← attributeBase (.Call (.Name "super" p0) [] [] p1) "__init__" env (eval (.Call (.Name "super" p0) [] [] p1) env)
      standAt p2.atName
      let (f, first) ← holding [ov] (getMethod ov "__init__" pl)
      callWith p3 f first (backTo p3 (starEach [] env)) []))
    (hs1 : ∀ env, swapsWith (.Call (.Attribute (.Call (.Name "super" p0) [] [] p1) "__init__" p2) [] [] p3) none p4.line env = pure false)
    (hs2 : ∀ env, swapsWith (.Name a1 p7) (some (.Attribute (.Name "self" p5) fld p6)) p8.line env = pure false)
    (hs3 : ∀ env, swapsWith (.Name a2 p11) (some (.Attribute (.Name "self" p9) fld2 p10)) p12.line env = pure false)
    (h : ∀ e dx t h' tk tk' tk2, (∀ b o, s.heap.get? b = some o → h'.get? b = some o) → s.heap.get? e = none → s.heap.objs.size ≤ dx → dx ≠ e → h'.get? e = some (excObj C t (some dx) .none) →
      h'.get? dx = some (dictOf [⟨PyData.keyHash w.params fld, .str fld tk', v⟩, ⟨PyData.keyHash w.params fld2, .str fld2 tk2, v2⟩] 2) → Q (.ref e) { s with heap := h', toks := tk }) : wpAny (model prog w) A (call (.ref C) [v, v2]) Q E s := by
  obtain ⟨nm', N', qn, bs, bm, hdct, sn, sub, ab, col, dd, k0, k1, k2, k3, k5, hC, hT⟩ := excInit_of X T.q
  obtain ⟨oI, hoI, hcI⟩ : ∃ oI, s.heap.get? f = some oI ∧ oI.cls = .type "function" := by
    obtain ⟨o, ho, hc⟩ := Option.map_eq_some_iff.mp (show (K.lookup f).map (·.cls) = some (.type "function") from beq_iff_eq.mp T.fn)
    exact ⟨o, X _ _ ho, hc⟩
  have hi' : Looks (model prog w) s.heap (typeLookup (.ref C) "__init__") (some (.ref f)) := looks_findIn X T.hi
  obtain ⟨oc, od, dV, kV, doc, pm, an, ct, osl, lk, hbind⟩ := T.lk
  obtain ⟨ccl, cdd, cvs, ccs, file, tf, code1, code2, code3⟩ := T.code
  obtain ⟨cl, cld, csl, cell1⟩ := T.cell
  obtain ⟨cdD, cls1⟩ := T.cls
  obtain ⟨ar, ar1, ar2⟩ := T.par1
  obtain ⟨hh, g, d, tk, os⟩ := s
  have k2' : ∀ b o, hh.get? b = some o → ((hh.push (kdv_tup [v, v2])).push (excObj C hh.objs.size none .none)).get? b = some o := fun b o e => Heap.get?_push_of_some _ (Heap.get?_push_of_some _ e)
  have neLt : ∀ a, hh.objs.size ≤ a → hh.get? a = none := fun a ha => by
    cases z : hh.get? a with
    | none => rfl
    | some o => exact absurd (Heap.lt_size z) (Nat.not_lt.mpr ha)
  refine wpAny_call (PX.call_own T.FB hT hC hi' (fun self => exc_bind hoI hcI self) (by show 2 ≤ sizeLine; rw [sizeLine_eq]; omega) ?_)
  refine ks_codeAny_call_defAt (fd := ksFn nm qu par _ scope dV kV doc pm an (.ref cda) ct cc) (binds := [("self", .ref (hh.objs.size + 1)), (a1, v), (a2, v2)]) ?room (k2' _ _ (X _ _ lk)) rfl (hlim.keeps k2') (codeRec_of (X.keeps k2') T.cd) rfl (hbind _ [.ref (hh.objs.size + 1), v, v2] rfl) T.sc4 ?loc (fun h₁ hns hk => ?_) T.sc5.1 T.sc5.2.1 T.sc5.2.2
  case room => rw [depth_under_make]; show A.depth + 1 < _; omega
  case loc =>
    intro x hx
    simp only [List.mem_cons, List.not_mem_nil, or_false] at hx
    rcases hx with rfl | rfl | rfl
    · exact T.sc3 _ (by simp)
    · exact T.sc3 _ (by simp)
    · exact T.sc3 _ (by simp)
  have sz2 : ((hh.push (kdv_tup [v, v2])).push (excObj C hh.objs.size none .none)).objs.size = hh.objs.size + 2 := by rw [Heap.size_push, Heap.size_push]
  have F : Fr hh _ h₁ _ := ⟨hns, fun b o e => hk b o (k2' b o e), by show hh.objs.size ≤ ((hh.push (kdv_tup [v, v2])).push (excObj C hh.objs.size none .none)).objs.size; rw [sz2]; omega⟩
  have N : News hh ((hh.push (kdv_tup [v, v2])).push (excObj C hh.objs.size none .none)).objs.size h₁ [(hh.objs.size + 1, excObj C hh.objs.size none .none), (hh.objs.size, kdv_tup [v, v2])] := by
    intro p hp
    simp only [List.mem_cons, List.not_mem_nil, or_false] at hp
    rcases hp with rfl | rfl
    · exact ⟨hk _ _ (Heap.get?_push_at (Heap.size_push ..).symm rfl), by rw [sz2]; exact Nat.ne_of_lt (by omega), neLt _ (by omega)⟩
    · exact ⟨hk _ _ (Heap.get?_push_of_some _ (Heap.get?_push_size _ rfl)), by rw [sz2]; exact Nat.ne_of_lt (by omega), neLt _ (by omega)⟩
  generalize hL : ((hh.push (kdv_tup [v, v2])).push (excObj C hh.objs.size none .none)).objs.size = L at *
  have ms : ([(("self" : Str), Value.ref (hh.objs.size + 1)), (a1, v), (a2, v2)] : List (Str × Value)).reverse.lookup ("self" : Str) = some (.ref (hh.objs.size + 1)) := by
    have h1 : (("self" : Str) == a1) = false := by simpa using fun z => ne z.symm
    have h2 : (("self" : Str) == a2) = false := by simpa using fun z => ne2 z.symm
    simp [List.lookup, h1, h2]
  have ma : ([(("self" : Str), Value.ref (hh.objs.size + 1)), (a1, v), (a2, v2)] : List (Str × Value)).reverse.lookup a1 = some v := by
    have h1 : (a1 == a2) = false := by simpa using ne3
    simp [List.lookup, h1]
  have ma2 : ([(("self" : Str), Value.ref (hh.objs.size + 1)), (a1, v), (a2, v2)] : List (Str × Value)).reverse.lookup a2 = some v2 := by simp [List.lookup]
  obtain ⟨pl, hev⟩ := hev (ksEnv qu scope L f (.ref cda) cc)
  have hint : interactive (ksEnv qu scope L f (.ref cda) cc) = false := by
    show (scope.kind == .module && _) = false
    rw [T.sc5.2.2]; rfl
  have ek : callEnv (ksFn nm qu par [.Expr (.Call (.Attribute (.Call (.Name "super" p0) [] [] p1) "__init__" p2) [] [] p3) p4, .Assign [.Attribute (.Name "self" p5) fld p6] (.Name a1 p7) p8, .Assign [.Attribute (.Name "self" p9) fld2 p10] (.Name a2 p11) p12] scope dV kV doc pm an (.ref cda) ct cc) L f = ksEnv qu scope L f (.ref cda) cc := rfl
  rw [ek]
  generalize hA : (A.under (.builtin "type.__call__" ⟨[.ref C, v, v2], []⟩)).deeper (ksEnv qu scope L f (.ref cda) cc) = A2
  refine ks_wpAt_execs_cons (ks_wpAt_Expr_any (hi := hint) (hs := hs1 _) (ks_wpAt_MethodCall (pl := pl) (he := hev) (node2 (attr := "__init__") (s := ⟨h₁, g, d, tk + 3, os⟩) (D := C) (C := C) (x := hh.objs.size + 1) F X N hg hb hbb lk ar1 (by rw [ar2]; exact ms) (InstAt.of_exc0 (x := hh.objs.size + 1) (t := hh.objs.size) (c2 := .none) N (by simp)) code1 code2 code3 cell1 cls1 T.mro T.noSuper (by decide) T.sc1 T.sc2 (by rw [ar2]; exact T.sc3 _ (by simp)) T.sc5.2.2 T.top (by decide +kernel) ?_)))
  intro so h2 F2 N2 lt2
  refine kxs_method (s := ⟨h2, g, d, tk + 3, os⟩) (x := hh.objs.size + 1) (D := C) (C := C) T.KF F2 X N2 (by simp) (InstAt.of_exc0 (x := hh.objs.size + 1) (t := hh.objs.size) (c2 := .none) N2 (by simp)) T.third T.sup T.sub (by decide) fun u h3 F3 N3 lt3 => ?_
  refine kxs_callWith0 (i := i) (x := hh.objs.size + 1) N3 (by simp) ?_
  refine kxs_call (x := hh.objs.size + 1) (t := hh.objs.size) (dv := none) (c2 := .none) F3 X N3 T.FB T.q (by simp) (.tail ?u1 (.tail ?u2 (.head ?u3))) (by show 0 ≤ sizeLine; omega) fun t4 h4 F4 N4 lt4 => ?_
  case u1 => exact Nat.ne_of_gt (lt3 (hh.objs.size + 1, excObj C hh.objs.size none .none) (by simp))
  case u2 => exact Nat.ne_of_gt (lt2 (hh.objs.size + 1, excObj C hh.objs.size none .none) (by simp))
  case u3 =>
    intro p hp
    simp only [List.mem_cons, List.not_mem_nil, or_false] at hp
    subst hp
    exact Nat.ne_of_lt (Nat.lt_succ_self _)
  dsimp only
  have lo : ∀ {x : Str} {val : Value} {Q : Value → Shared → Prop} {E : Value → Shared → Prop} {M : Model} {A : Around} {s : Shared} {pos : Pos}, s.heap.Ns L (fun y => ([(("self" : Str), Value.ref (hh.objs.size + 1)), (a1, v), (a2, v2)] : List (Str × Value)).reverse.lookup y) → ([(("self" : Str), Value.ref (hh.objs.size + 1)), (a1, v), (a2, v2)] : List (Str × Value)).reverse.lookup x = some val → scope.names.lookup x = some .local → (x == ("__debug__" : Str)) = false → Q val s →
      wpAny M A (eval (.Name x pos) (ksEnv qu scope L f (.ref cda) cc)) Q E s := fun hn hv hl hd hq => wpAny_Name (wpAny_loadName_local (env := ksEnv qu scope L f (.ref cda) cc) T.sc5.2.2 hl hn hv hq) hd
  refine ks_wpAt_execs_cons (ks_wpAt_Assign_Attr (hs := hs2 _) (wpAt_of_wpAny (lo F4.ns ma (T.sc3 _ (by simp)) hdb (lo F4.ns ms (T.sc3 _ (by simp)) (by decide) ?_))))
  refine set_exc0 (s := ⟨h4, g, d, tk + 3 + 1, os⟩) (x := hh.objs.size + 1) (t := t4) (c2 := .none) T.SF F4 X N4 (by simp) T.sa T.over ht T.dict rfl (.tail ?v1 (.tail ?v2 (.tail ?v3 (.head ?v4)))) (by simp [putL]) fun dx h5 F5 N5 lt5 => ?_
  case v1 => exact Nat.ne_of_gt (lt4 (hh.objs.size + 1, excObj C hh.objs.size none .none) (by simp))
  case v2 => exact Nat.ne_of_gt (lt3 (hh.objs.size + 1, excObj C hh.objs.size none .none) (by simp))
  case v3 => exact Nat.ne_of_gt (lt2 (hh.objs.size + 1, excObj C hh.objs.size none .none) (by simp))
  case v4 =>
    intro p hp
    simp only [List.mem_cons, List.not_mem_nil, or_false] at hp
    subst hp
    exact Nat.ne_of_lt (Nat.lt_succ_self _)
  dsimp only
  have xd : dx ≠ hh.objs.size + 1 := Nat.ne_of_gt (lt5 (hh.objs.size + 1, excObj C t4 none .none) (by simp))
  refine ks_wpAt_execs_cons (ks_wpAt_Assign_Attr (hs := hs3 _) (wpAt_of_wpAny (lo F5.ns ma2 (T.sc3 _ (by simp)) hdb2 (lo F5.ns ms (T.sc3 _ (by simp)) (by decide) ?_))))
  have nb : (fld == fld2) = false := by simpa using nf
  dsimp only at N5
  generalize tk + 3 + 1 + 1 = tk1 at N5 ⊢
  have ed : putL fld (PyData.keyHash w.params fld) (Value.str fld tk1) v [] = [⟨PyData.keyHash w.params fld, .str fld tk1, v⟩] := by simp [putL]
  have en : putN fld ([] : List DictEntry) 0 = 1 := by simp [putN, getL]
  rw [ed, en] at N5
  have M1 := N5 _ (.head _)
  have nb2 : (fld2 == fld) = false := by simpa using fun z : fld2 = fld => nf z.symm
  have nl : ¬ fld = fld2 := nf
  have nl2 : ¬ fld2 = fld := fun z => nf z.symm
  refine set_excD (x := hh.objs.size + 1) (t := t4) (dx := dx) (c2 := .none) (es' := [⟨PyData.keyHash w.params fld, .str fld tk1, v⟩, ⟨PyData.keyHash w.params fld2, .str fld2 (tk + 3 + 1 + 2 + 1), v2⟩]) (n' := 2) T.SF F5 X N5 ?mx T.sa T.over ht2 T.dict (.head _) ?hl ?pe (.head ?hu) ?hz fun h6 F6 N6 => ?hf
  case mx => simp
  case hl =>
    simp [getL, Value.isStr, nb, nb2, nl, nl2]
    rfl
  case pe => simp [putL, putN, getL, Value.isStr, nb, nb2, nl, nl2]
  case hu =>
    intro p hp
    simp only [List.mem_cons, List.not_mem_nil, or_false] at hp
    rcases hp with rfl | rfl | rfl | rfl | rfl
    · exact Nat.ne_of_lt (lt5 (t4, excTup []) (by simp))
    · exact Nat.ne_of_lt (lt5 (u, kxs_mw i (hh.objs.size + 1)) (by simp))
    · exact Nat.ne_of_lt (lt5 (so, ks_superObj C (hh.objs.size + 1) C) (by simp))
    · exact xd.symm
    · exact Nat.ne_of_lt (lt5 (hh.objs.size, kdv_tup [v, v2]) (by simp))
  case hz => simp
  case hf =>
    dsimp only
    refine wpAt_of_wpAny (wpAny_execs_nil ⟨rfl, ?_⟩)
    have m1 := N6 _ (.head _)
    exact h (hh.objs.size + 1) dx t4 h6 _ tk1 _ F6.keep (neLt _ (by omega)) (by have := lt5 (hh.objs.size + 1, excObj C t4 none .none) (by simp); show hh.objs.size ≤ dx; exact Nat.le_of_lt (Nat.lt_trans (Nat.lt_succ_self _) this)) xd (N6 (hh.objs.size + 1, excObj C t4 (some dx) .none) (by simp)).1 m1.1
end
end PySem.W

/-! An own exception of two fields, as what is raised. -/
namespace DL
variable [DL.Wd] [DL.Fb]
open PySem PySem.Spec PyProof.Rows L2
theorem ns1_two {h : Heap} {a : Addr} {fld fld2 : Str} {hs hs2 : Int} {tk tk2 : Tok} {u u2 : Value} (nf : fld ≠ fld2) (e : h.get? a = some (PySem.W.dictOf [⟨hs, .str fld tk, u⟩, ⟨hs2, .str fld2 tk2, u2⟩] 2)) : h.Ns1 a (fun y => if y = fld then some u else if y = fld2 then some u2 else none) := by
  refine ⟨_, _, _, e, rfl, ?_, ?_, ?_⟩
  · intro x hx
    simp at hx
    rcases hx with rfl | rfl <;> exact ⟨_, _, rfl⟩
  · simp [UniqKeys]
    intro n h1
    have e2 : fld = n := by simpa [Value.isStr] using h1
    subst e2
    have h2 : ¬ fld2 = fld := fun z => nf z.symm
    simp [Value.isStr, h2]
  · intro y
    by_cases hy : y = fld
    · subst hy
      simp [nsFind, findBy, Value.isStr]
    · have h1 : ¬ fld = y := fun z => hy z.symm
      by_cases hy2 : y = fld2
      · subst hy2
        simp [nsFind, findBy, Value.isStr, hy, h1]
      · have h2 : ¬ fld2 = y := fun z => hy2 z.symm
        simp [nsFind, findBy, Value.isStr, hy, h1, hy2, h2]
theorem vals2 {v v2 : V} {us : List Value} (h : Vals [v, v2] us) : ∃ u u2, us = [u, u2] ∧ RelV v u ∧ RelV v2 u2 := by
  cases h with | cons r1 h =>
  cases h with | cons r2 h =>
  cases h
  exact ⟨_, _, rfl, r1, r2⟩
section
variable {X : Cx}
theorem mk_exc2 {pins : List (Addr × Obj)} {σ : L2.St} {H : Hp} {Q : XK} {s : Shared} {h' : Heap} {e dx t : Addr} {C : Addr} {fld fld2 : Str} {hs hs2 : Int} {tk tk' tk2 : Tok} {u u2 : Value} {v v2 : V} (nf : fld ≠ fld2) (I : Inv X pins σ H s) (rv : RelV v u) (rv2 : RelV v2 u2) (k : ∀ b o, s.heap.get? b = some o → h'.get? b = some o) (ne : s.heap.get? e = none) (hd : s.heap.objs.size ≤ dx) (hde : dx ≠ e)
    (he : h'.get? e = some (PySem.W.excObj C t (some dx) .none)) (hdx : h'.get? dx = some (PySem.W.dictOf [⟨hs, .str fld tk', u⟩, ⟨hs2, .str fld2 tk2, u2⟩] 2)) (r : Raises X (.ref C)) (q : Q (.ref C) (some dx) (upd H dx (.xd [(fld, v), (fld2, v2)]))) :
    L2N.MkP X pins σ Q (.ref e) { s with heap := h', toks := tk } := by
  obtain ⟨G, g1, g2⟩ := restrict h' fun b => (s.heap.get? b).isSome || decide (b = dx)
  have gS : ∀ b o, s.heap.get? b = some o → G.get? b = some o := fun b o z => by rw [g1 b (by simp [z])]; exact k b o z
  have gD : G.get? dx = some (PySem.W.dictOf [⟨hs, .str fld tk', u⟩, ⟨hs2, .str fld2 tk2, u2⟩] 2) := by rw [g1 dx (by simp)]; exact hdx
  have hn : H dx = none := I.hok.fresh hd
  have J : Inv X pins σ (upd H dx (.xd [(fld, v), (fld2, v2)])) { s with heap := G, toks := tk } := I.laid gS hd ⟨_, ns1_two nf gD, fun f => by
    by_cases hf : f = fld
    · subst hf
      simp [List.lookup]
      exact rv
    · have h2 : (f == fld) = false := by simpa using hf
      by_cases hf2 : f = fld2
      · subst hf2
        simp [List.lookup, hf, h2]
        exact rv2
      · have h3 : (f == fld2) = false := by simpa using hf2
        simp [List.lookup, hf, h2, hf2, h3]
        exact True.intro⟩
  refine ⟨e, _, _, _, _, .ref C, some dx, rfl, J, fun b o z => ?_, ?_, he, ⟨rfl, rfl, fun vs z => by cases z; rfl⟩, rfl, rfl, ?_, rfl, J.bare, r, q⟩
  · cases w : (s.heap.get? b).isSome || decide (b = dx) with
    | true => rw [g1 b w] at z; exact z
    | false => rw [g2 b w] at z; cases z
  · show G.get? e = none
    exact g2 e (by simp [ne, Ne.symm hde])
  · rw [upd_ne (Ne.symm hde)]
    cases w : H e with
    | none => rfl
    | some o =>
      obtain ⟨u', z⟩ := L2.objOk_get (I.hok e o w)
      rw [ne] at z; cases z
theorem pmk_exc2 {x : Str} {C f cc cda : Addr} {B newId i : String} {bmB : List Value} {nm qu fld fld2 a1 a2 : Str} {par : Arguments} {scope : Scope} {p0 p1 p2 p3 p4 p5 p6 p7 p8 p9 p10 p11 p12 p pos : Pos} {e e2 : Expr} {t : TA}
    (T : PySem.W.XcF X.prog X.K C B newId i bmB f cc cda nm qu par [.Expr (.Call (.Attribute (.Call (.Name "super" p0) [] [] p1) "__init__" p2) [] [] p3) p4, .Assign [.Attribute (.Name "self" p5) fld p6] (.Name a1 p7) p8, .Assign [.Attribute (.Name "self" p9) fld2 p10] (.Name a2 p11) p12] scope ["self", a1, a2])
    (ht : PySem.W.takerIn X.K C fld = some none) (ht2 : PySem.W.takerIn X.K C fld2 = some none) (ne : a1 ≠ ("self" : Str)) (ne2 : a2 ≠ ("self" : Str)) (ne3 : a1 ≠ a2) (nf : fld ≠ fld2) (hda : (a1 == ("__debug__" : Str)) = false) (hda2 : (a2 == ("__debug__" : Str)) = false)
    (hev : ∀ env, ∃ pl, eval (.Call (.Attribute (.Call (.Name "super" p0) [] [] p1) "__init__" p2) [] [] p3) env = (do
      let ov ← attributeBase (.Call (.Name "super" p0) [] [] p1) "__init__" env (eval (.Call (.Name "super" p0) [] [] p1) env)
      standAt p2.atName
      let (f, first) ← holding [ov] (getMethod ov "__init__" pl)
      callWith p3 f first (backTo p3 (starEach [] env)) []))
    (hs1 : ∀ env, swapsWith (.Call (.Attribute (.Call (.Name "super" p0) [] [] p1) "__init__" p2) [] [] p3) none p4.line env = pure false)
    (hs2 : ∀ env, swapsWith (.Name a1 p7) (some (.Attribute (.Name "self" p5) fld p6)) p8.line env = pure false)
    (hs3 : ∀ env, swapsWith (.Name a2 p11) (some (.Attribute (.Name "self" p9) fld2 p10)) p12.line env = pure false)
    (gC : X.mg x = some (.ref C)) (kC : PySem.W.keepIn X.K (.ref C) = true) (r : Raises X (.ref C)) (hg : Gl X x) (hroom : X.A.depth + 5 < recursionLimit) (ha : PA X [e, e2] t) (hdb : (x == ("__debug__" : Str)) = false)
    (hse : starEach [e, e2] X.env = (false, eval e X.env) :: starEach [e2] X.env) (hpl : (backTo pos (starEach [e2] X.env)).any (·.1) = false) :
    L2N.PMk X (.Call (.Name x p) [e, e2] [] pos) (fun σ H Q => t σ H fun vs H1 => ∃ v v2, vs = [v, v2] ∧ ∀ dx, H1 dx = none → Q (.ref C) (some dx) (upd H1 dx (.xd [(fld, v), (fld2, v2)]))) := by
  intro pins s σ H Q I h
  refine wpAny_Call_Name_kw (ld_glob I hg gC ?_ hdb)
  refine PySem.W.callWith_K (h₀ := X.base) I.ok.mod.kin kC (thn (ha.run pos pins s σ H _ I h) fun us s1 hh => ?_) hse hpl
  obtain ⟨vs, H1, I1, r1, v, v2, rfl, q⟩ := hh
  refine ⟨I1.kIn, ?_⟩
  obtain ⟨u, u2, eu, ru, ru2⟩ := vals2 r1
  subst eu
  obtain ⟨mb, hb, hbb⟩ := I1.mod.blt
  exact PySem.W.call_exc2 I1.kIn (I1.mod.glob.keeps I1.bk) (hb.keeps I1.bk) hbb I1.nolimit hroom T ht ht2 ne ne2 ne3 nf hda hda2 hev hs1 hs2 hs3 fun e dx t h' tk tk' tk2 k n1 n2 n3 n4 n5 => mk_exc2 nf I1 ru ru2 k n1 n2 n3 n4 n5 r (q dx (I1.hok.fresh n2))
end
section
variable {Ω : Wl} {τ : Sx} {X : Cx} {gs : List Str} {vs : List Nat}
/-! ### raise C(e, e2) -/
def dRaise2 (C fld fld2 : Str) (t : DA) : DS := fun _ E σ M => t σ M (fun xs M1 => ∃ x y, xs = [x, y] ∧ E ⟨C, [fld, fld2], [x, y]⟩ σ M1) E
/-- what must be seen of an own exception class of two fields -/
structure Xc2 (Ω : Wl) (x fld fld2 : Str) : Prop where
  ex : ∃ (C f cc cda : Addr) (B newId i : String) (bmB : List Value) (nm qu a1 a2 : Str) (par : Arguments) (scope : Scope) (p0 p1 p2 p3 p4 p5 p6 p7 p8 p9 p10 p11 p12 : Pos), clsV Ω.K x = .ref C ∧ Ω.mg x = some (.ref C) ∧ PySem.W.keepIn Ω.K (.ref C) = true ∧
    PySem.W.subIn Ω.K (.ref C) (.type "BaseException") = some true ∧ PySem.W.typeIn Ω.K (.ref C) = some (.type "type") ∧
    PySem.W.XcF Ω.P Ω.K C B newId i bmB f cc cda nm qu par [.Expr (.Call (.Attribute (.Call (.Name "super" p0) [] [] p1) "__init__" p2) [] [] p3) p4, .Assign [.Attribute (.Name "self" p5) fld p6] (.Name a1 p7) p8, .Assign [.Attribute (.Name "self" p9) fld2 p10] (.Name a2 p11) p12] scope ["self", a1, a2] ∧
    PySem.W.takerIn Ω.K C fld = some none ∧ PySem.W.takerIn Ω.K C fld2 = some none ∧ a1 ≠ ("self" : Str) ∧ a2 ≠ ("self" : Str) ∧ a1 ≠ a2 ∧ fld ≠ fld2 ∧ (a1 == ("__debug__" : Str)) = false ∧ (a2 == ("__debug__" : Str)) = false ∧
    (∀ env, ∃ pl, eval (.Call (.Attribute (.Call (.Name "super" p0) [] [] p1) "__init__" p2) [] [] p3) env = (do
      let ov ← attributeBase (.Call (.Name "super" p0) [] [] p1) "__init__" env (eval (.Call (.Name "super" p0) [] [] p1) env)
      standAt p2.atName
      let (f, first) ← holding [ov] (getMethod ov "__init__" pl)
      callWith p3 f first (backTo p3 (starEach [] env)) [])) ∧
    (∀ env, swapsWith (.Call (.Attribute (.Call (.Name "super" p0) [] [] p1) "__init__" p2) [] [] p3) none p4.line env = pure false) ∧
    (∀ env, swapsWith (.Name a1 p7) (some (.Attribute (.Name "self" p5) fld p6)) p8.line env = pure false) ∧
    ∀ env, swapsWith (.Name a2 p11) (some (.Attribute (.Name "self" p9) fld2 p10)) p12.line env = pure false
theorem dps_raise2 {x fld fld2 : Str} {e e2 : Expr} {tl : DA} {p pos rpos : Pos} (T : Xc2 Ω x fld fld2) (S : ScOk τ.N vs gs τ.sc) (ha : DPA Ω τ [e, e2] tl) (hg : x ∈ gs := by decide) (hdb : (x == ("__debug__" : Str)) = false := by decide) (hc : τ.calm = true := by rfl)
    (hse : ∀ env, starEach [e, e2] env = (false, eval e env) :: starEach [e2] env := by intro _; rfl) (hpl : ∀ env, (backTo pos (starEach [e2] env)).any (·.1) = false := by intro _; rfl) : DPS Ω τ (.Raise (some (.Call (.Name x p) [e, e2] [] pos)) none rpos) (dRaise2 x fld fld2 tl) := Hd.mk fun X ft F0 E tk F M H σ σ' D e0 g r h => by
  obtain ⟨C, f, cc, cda, B, newId, i, bmB, nm, qu, a1, a2, par, scope, p0, p1, p2, p3, p4, p5, p6, p7, p8, p9, p10, p11, p12, h1, h2, h3, h4, h5, h6, h7, h72, h8, h82, h83, h84, h9, h92, h10, h11, h12, h13⟩ := T.ex
  rw [← ft.K] at h1 h3 h4 h5 h6 h7 h72
  rw [← ft.P] at h6
  refine wS_of (L2N.ps_raise (ft.calm hc) tk (pmk_exc2 h6 h7 h72 h8 h82 h83 h84 h9 h92 h10 h11 h12 h13 (by rw [ft.mg]; exact h2) h3 (raises_own h4 h5) (fit_gl ft S hg) (by have := ft.room.dp; omega) pa_wA hdb (hse _) (hpl _))) (wA_mono (ha.run X ft F0 E tk F M H σ σ' _ e0 g r h) ?_)
  rintro vs H1 ⟨F1, M1, ys, e1, g1, r1, y, y2, rfl, q⟩
  cases r1 with | cons ra rb =>
  cases rb with | cons rb rc =>
  cases rc
  refine ⟨_, _, rfl, fun dx hdx => ?_⟩
  rename_i v v2
  have gn := g1.new hdx (.xd [(fld, v), (fld2, v2)])
  exact ⟨upd F1 dx (.xd [(fld, v), (fld2, v2)]), M1, σ', ⟨x, [fld, fld2], [y, y2]⟩, (e0.trans e1).trans gn.2, gn.1, r.mono (e1.trans gn.2), ⟨h1, .inr ⟨dx, [(fld, v), (fld2, v2)], rfl, upd_same, rfl, .cons (ra.mono gn.2) (.cons (rb.mono gn.2) .nil)⟩⟩, q⟩
end
end DL

/-! A call of an own exception class with keywords: the keywords are looked at by __init__ alone. -/
namespace DL
open PySem PySem.W PySem.Calls
section
variable {newId B initId : String} {bmB : List Value}
theorem ck_new (F : ExcBaseFacts B newId initId bmB) (p : List Value) (kw : List (Str × Value)) : checkBuiltinCall newId ⟨p, kw⟩ = checkBuiltinCall newId ⟨p, []⟩ := by
  cases p <;> simp only [checkBuiltinCall, F.newKind, F.newSplit, F.newRow] <;> rfl
theorem ck_type (p : List Value) (kw : List (Str × Value)) : checkBuiltinCall "type.__call__" ⟨p, kw⟩ = checkBuiltinCall "type.__call__" ⟨p, []⟩ := by
  cases p <;> simp only [checkBuiltinCall, tc_kind, tc_split] <;> rfl
end
section
variable {M : Model} {h : Heap} {nm q : Str} {C N : Addr} {bs bm bmB : List Value} {hdct : Bool} {sn : List Str} {sub : List Value} {ab : Bool} {col : Option Bool} {dd : Option Addr} {k0 k1 k2 k3 k5 : Option Value} {B newId initId : String}
/-- what the class tells, looked at and nothing else -/
structure XSee (M : Model) (h : Heap) (C : Addr) (bm : List Value) (newId : String) : Prop where
  obj : ∃ o cd, h.get? C = some o ∧ o.data = .cls cd ∧ cd.hasDel = false ∧ o.cls = .type "type"
  ty : Looks M h (isType (.ref C)) true
  sub : ∀ T, Looks M h (isSubtype (.ref C) T) ((Value.ref C :: bm).contains T)
  mro : Looks M h (mroOf (.ref C)) (.ref C :: bm)
  made : Looks M h (Bind.madeBy (.ref C)) (some newId)
  here : Looks M h (Bind.madeHere "BaseException.__new__" (.ref C)) ()
  new : ∀ rest kw, Looks M h (checkBuiltinCall newId ⟨.ref C :: rest, kw⟩) ()
  call : ∀ rest kw, Looks M h (checkBuiltinCall "type.__call__" ⟨.ref C :: rest, kw⟩) ()
theorem XSee.of (F : ExcBaseFacts B newId initId bmB) (hT : ∀ X : String, bm.contains (.type X) = bmB.contains (.type X)) (hC : h.get? C = some (excClassObj nm q C N bs bm hdct sn sub ab col dd k0 k1 k2 k3 k5 newId)) : XSee M h C bm newId where
  obj := ⟨_, _, hC, rfl, rfl, rfl⟩
  ty := fun _ _ _ _ k z => wpAny_bind (wpAny_loadPart (k _ _ hC) (wpAny_pure z))
  sub _ := fun _ _ _ _ k z => wpAny_isSubtype_exc (k _ _ hC) z
  mro := fun _ _ _ _ k z => wpAny_mroOf_exc (k _ _ hC) z
  made := fun _ _ _ _ k z => wpAny_madeBy_exc (k _ _ hC) z
  here := fun _ _ _ _ k z => wpAny_madeHere_exc F.canon (k _ _ hC) z
  new _ _ := ck_new F _ _ ▸ fun _ _ _ _ k z => PX.check_new_own F hT (k _ _ hC) z
  call _ _ := ck_type _ _ ▸ fun _ _ _ _ k z => wpAny_check_type_call_sub (k _ _ hC) z
theorem XSee.keeps {h' : Heap} (x : XSee M h C bm newId) (k : ∀ b o, h.get? b = some o → h'.get? b = some o) : XSee M h' C bm newId :=
  ⟨x.obj.imp fun _ y => y.imp fun _ e => ⟨k _ _ e.1, e.2⟩, x.ty.keeps k, fun T => (x.sub T).keeps k, x.mro.keeps k, x.made.keeps k, x.here.keeps k, fun r kw => (x.new r kw).keeps k, fun r kw => (x.call r kw).keeps k⟩
end
section
variable {prog : Program} {w : World} {A : Around} {E : Value → Shared → Prop} {R : Result → Shared → Prop} {s : Shared} {C fI : Addr} {bm bmB : List Value} {B newId initId : String} {rest : List Value} {kw : List (Str × Value)}
/-- the two objects that come about -/
abbrev born (s : Shared) (C : Addr) (rest : List Value) : Shared := { s with heap := (s.heap.push (kdv_tup rest)).push (PX.excO C s.heap.objs.size) }
theorem born_at (s : Shared) : (born s C rest).heap.get? (s.heap.objs.size + 1) = some (PX.excO C s.heap.objs.size) := by
  refine Heap.get?_push_at ?_ rfl
  rw [Heap.size_push]
theorem born_old {b : Addr} {o : Obj} (e : s.heap.get? b = some o) : (born s C rest).heap.get? b = some o := Heap.get?_push_of_some _ (Heap.get?_push_of_some _ e)
theorem born_ty {M : Model} : Looks M (born s C rest).heap (typeOf (.ref (s.heap.objs.size + 1))) (.ref C) := fun _ _ _ _ k z => wpAny_bind (wpAny_loadPart (k _ _ (born_at s)) (wpAny_pure z))
theorem born_is {M : Model} {bm : List Value} {newId : String} (y : XSee M (born s C rest).heap C bm newId) : Looks M (born s C rest).heap (isInstance (.ref (s.heap.objs.size + 1)) (.ref C)) true :=
  .andThen born_ty (by simpa using y.sub (.ref C))
theorem new_any (F : ExcBaseFacts B newId initId bmB) (hT : ∀ X : String, bm.contains (.type X) = bmB.contains (.type X)) (x : XSee (model prog w) s.heap C bm newId) (few : rest.length ≤ sizeLine)
    (z : R (.ok (.ret (.ref (s.heap.objs.size + 1)))) (born s C rest)) : codeAny (model prog w) A (.builtin newId ⟨.ref C :: rest, kw⟩) R s := by
  have hasT : ∀ {T : String} {b : Bool}, bmB.contains (.type T) = b → Looks (model prog w) s.heap (isSubtype (.ref C) (.type T)) b := fun {T b} e => by
    have y := x.sub (.type T)
    rwa [List.contains_cons, hT, e, show (Value.type T == Value.ref C) = false from rfl, Bool.false_or] at y
  refine codeAny_builtinAt F.entry (wpAt_bind (wpAt_mono (Q := fun o s' => o = B ∧ s' = s) (E := fun _ _ => False) ?_ ?_ fun _ _ => False.elim))
  · show wpAt _ _ _ (stack >>= _) _ _ _
    refine wpAt_bind (wpAt_stack fun _ _ => wpAt_of_wpAny ?_)
    simp only [F.ends, if_true]
    exact wpAny_pure ⟨F.owner, rfl⟩
  · rintro _ _ ⟨rfl, rfl⟩
    refine wpAt_of_wpAny (wpAny_bind (x.ty.here ?_))
    simp only [Bool.not_true, Bool.false_eq_true, if_false]
    refine wpAny_bind ((hasT F.hasB).here ?_)
    simp only [Bool.not_true, Bool.false_eq_true, if_false]
    refine wpAny_bind (x.here.here (wpAny_bind (wpAny_bind ((hasT F.noAttr).here ?_))))
    simp only [Bool.false_eq_true, if_false]
    refine wpAny_bind ((hasT F.noName).here ?_)
    simp only [Bool.false_eq_true, if_false]
    refine wpAny_pure (wpAny_bind (wpAny_newTuple ?_ few))
    wp_walk
    obtain ⟨o, cd, ho, hd, hn, _⟩ := x.obj
    refine wpAny_load (born_old (rest := rest) ho) ?_
    rw [hd]
    refine wpAny_pure ?_
    rw [hn]
    rw [Heap.size_push]
    exact wpAny_pure (wpAny_pure z)
/-- then __init__ is called, with the keywords -/
theorem type_any (F : ExcBaseFacts B newId initId bmB) (hT : ∀ X : String, bm.contains (.type X) = bmB.contains (.type X)) (x : XSee (model prog w) s.heap C bm newId) (few : rest.length ≤ sizeLine) {Q : Fin → Shared → Prop}
    (hi : Looks (model prog w) s.heap (typeLookup (.ref C) "__init__") (some (.ref fI))) (hb : ∀ self, Looks (model prog w) s.heap (bindSpecial (.ref fI) self) (.ref fI, [self]))
    (z : codeAny (model prog w) A (.call (.ref fI) ⟨.ref (s.heap.objs.size + 1) :: rest, kw⟩) (InitBack (s.heap.objs.size + 1) fun r s' => match r with
      | .ok f => Q (.done f) s'
      | .error e => E e s') (born s C rest)) : wpAny (model prog w) A (Builtin.«type.__call__» ⟨.ref C :: rest, kw⟩) Q E s := by
  unfold Builtin.«type.__call__»
  show wpAny _ _ (mroOf (.ref C) >>= _) _ _ _
  refine wpAny_bind (x.mro.here ?_)
  simp only [List.isEmpty_cons, Bool.false_eq_true, if_false]
  refine wpAny_bind (x.made.here (wpAny_bind (wpAny_pure (wpAny_bind (wpAny_holding (wpAny_call ?_))))))
  refine codeAny_call_builtin_code (Code.quiet_builtin _ F.quiet) ((x.new _ _).here (new_any F hT x few ?_))
  have y : XSee (model prog w) (born s C rest).heap C bm newId := x.keeps fun _ _ e => born_old e
  refine wpAny_bind ((born_is y).here ?_)
  simp only [Bool.not_true, Bool.false_eq_true, if_false]
  refine wpAny_bind (wpAny_holding ?_)
  unfold callSpecial?
  have old : ∀ b o, s.heap.get? b = some o → (born s C rest).heap.get? b = some o := fun _ _ e => born_old e
  have look : Looks (model prog w) (born s C rest).heap (specialOf (.ref (s.heap.objs.size + 1)) "__init__") (some (.ref fI)) := .andThen born_ty (hi.keeps old)
  refine wpAny_bind (look.here (wpAny_holding (wpAny_bind (((hb _).keeps old).here (wpAny_bind (wpAny_call (codeAny_mono z fun r s' y => ?_)))))))
  match r, y with
  | .error _, y => exact y
  | .ok (.ret v), ⟨e, y⟩ =>
    subst e
    exact wpAny_pure (wpAny_pure y)
/-- the class is called: type.__call__ is found and gives what __init__ makes -/
theorem call_any (F : ExcBaseFacts B newId initId bmB) (hT : ∀ X : String, bm.contains (.type X) = bmB.contains (.type X)) (x : XSee (model prog w) s.heap C bm newId) (few : rest.length ≤ sizeLine)
    (hi : Looks (model prog w) s.heap (typeLookup (.ref C) "__init__") (some (.ref fI))) (hb : ∀ self, Looks (model prog w) s.heap (bindSpecial (.ref fI) self) (.ref fI, [self]))
    (z : codeAny (model prog w) (A.under (.builtin "type.__call__" ⟨.ref C :: rest, kw⟩)) (.call (.ref fI) ⟨.ref (s.heap.objs.size + 1) :: rest, kw⟩) (InitBack (s.heap.objs.size + 1) R) (born s C rest)) : codeAny (model prog w) A (.call (.ref C) ⟨rest, kw⟩) R s := by
  obtain ⟨o, cd, ho, hd, _, ht⟩ := x.obj
  refine codeAny_of_tree ?_
  show wpAny _ _ (callAny (.ref C) _) _ _ _
  unfold callAny
  refine wpAny_bind (wpAny_load ho ?_)
  rw [hd]
  have ty : Looks (model prog w) s.heap (typeOf (.ref C)) (.type "type") := fun _ _ _ _ k z => wpAny_bind (wpAny_loadPart (k _ _ ho) (by rw [ht]; exact wpAny_pure z))
  have look : Looks (model prog w) s.heap (specialOf (.ref C) "__call__") (some (.builtin "type.__call__")) := .andThen ty (.of_pure tc_lookup)
  show wpAny _ _ (specialOf (.ref C) "__call__" >>= _) _ _ _
  have b := tc_bind (.ref C)
  have p : Looks (model prog w) s.heap (callAny.plainCallee (.builtin "type.__call__")) true := .of_pure rfl
  refine wpAny_bind (look.here (wpAny_bind ((Looks.of_pure b).here (wpAny_bind (p.here (wpAny_pure ⟨rfl, ?_⟩))))))
  exact codeAny_call_builtin_at (Code.quiet_builtin _ (by decide +kernel)) entry_typeCall ((x.call _ _).here (type_any F hT x few hi hb z))
end
end DL

/-! Own exceptions made by keyword, with two fields, held as values. -/
namespace PySem.W
open PySem PySem.Calls PyProof.Rows
section
variable {prog : Program} {w : World} {A : Around} {E : Value → Shared → Prop} {s : Shared} {mg mb : Str → Option Value} {K : Frag} {C f cc cda : Addr} {B newId i : String} {bmB : List Value} {nm qu fld a1 fld2 a2 : Str} {par : Arguments} {scope : Scope} {p0 p1 p2 p3 p4 p5 p6 p7 p8 p9 p10 p11 p12 : Pos} {rest : List Value} {kw : List (Str × Value)}
theorem call_excK {v : Value} {Q : Value → Shared → Prop} (X : K.In s.heap) (hg : s.heap.Ns mainGlobals mg) (hb : s.heap.Ns builtinsNs mb) (hbb : ∀ x : Str, x ≠ "__name__" → mb x = bootBuiltins x) (hlim : s.heap.NoLimit) (hroom : A.depth + 5 < recursionLimit)
    (T : XcF prog K C B newId i bmB f cc cda nm qu par [.Expr (.Call (.Attribute (.Call (.Name "super" p0) [] [] p1) "__init__" p2) [] [] p3) p4, .Assign [.Attribute (.Name "self" p5) fld p6] (.Name a1 p7) p8] scope ["self", a1])
    (few : rest.length ≤ 100) (bnd : ∀ (oc : Value) (od : Option Addr) (dV kV doc pm ct : Value) (an : Option Addr) (osl : Array (Option Value)), K.lookup f = some ⟨oc, od, .func (ksFn nm qu par [.Expr (.Call (.Attribute (.Call (.Name "super" p0) [] [] p1) "__init__" p2) [] [] p3) p4, .Assign [.Attribute (.Name "self" p5) fld p6] (.Name a1 p7) p8] scope dV kV doc pm an (.ref cda) ct cc), osl⟩ → ∀ (s : Shared) (self : Value), BindsTo s (ksFn nm qu par [.Expr (.Call (.Attribute (.Call (.Name "super" p0) [] [] p1) "__init__" p2) [] [] p3) p4, .Assign [.Attribute (.Name "self" p5) fld p6] (.Name a1 p7) p8] scope dV kV doc pm an (.ref cda) ct cc) ⟨self :: rest, kw⟩ [("self", self), (a1, v)])
    (ht : takerIn K C fld = some none) (ne : a1 ≠ ("self" : Str)) (hdb : (a1 == ("__debug__" : Str)) = false)
    (hev : ∀ env, ∃ pl, eval (.Call (.Attribute (.Call (.Name "super" p0) [] [] p1) "__init__" p2) [] [] p3) env = (do
      let ov ← attributeBase (.Call (.Name "super" p0) [] [] p1) "__init__" env (eval (.Call (.Name "super" p0) [] [] p1) env)
      standAt p2.atName
      let (f, first) ← holding [ov] (getMethod ov "__init__" pl)
      callWith p3 f first (backTo p3 (starEach [] env)) []))
    (hs1 : ∀ env, swapsWith (.Call (.Attribute (.Call (.Name "super" p0) [] [] p1) "__init__" p2) [] [] p3) none p4.line env = pure false)
    (hs2 : ∀ env, swapsWith (.Name a1 p7) (some (.Attribute (.Name "self" p5) fld p6)) p8.line env = pure false)
    (h : ∀ e dx t h' tk tk', (∀ b o, s.heap.get? b = some o → h'.get? b = some o) → s.heap.get? e = none → s.heap.objs.size ≤ dx → dx ≠ e → h'.get? e = some (excObj C t (some dx) .none) →
      h'.get? dx = some (dictOf [⟨PyData.keyHash w.params fld, .str fld tk', v⟩] 1) → Q (.ref e) { s with heap := h', toks := tk }) : wpAny (model prog w) A (call (.ref C) rest kw) Q E s := by
  obtain ⟨nm', N', qn, bs, bm, hdct, sn, sub, ab, col, dd, k0, k1, k2, k3, k5, hC, hT⟩ := excInit_of X T.q
  obtain ⟨oI, hoI, hcI⟩ : ∃ oI, s.heap.get? f = some oI ∧ oI.cls = .type "function" := by
    obtain ⟨o, ho, hc⟩ := Option.map_eq_some_iff.mp (show (K.lookup f).map (·.cls) = some (.type "function") from beq_iff_eq.mp T.fn)
    exact ⟨o, X _ _ ho, hc⟩
  have hi' : Looks (model prog w) s.heap (typeLookup (.ref C) "__init__") (some (.ref f)) := looks_findIn X T.hi
  obtain ⟨oc, od, dV, kV, doc, pm, an, ct, osl, lk, hbind⟩ := T.lk
  obtain ⟨ccl, cdd, cvs, ccs, file, tf, code1, code2, code3⟩ := T.code
  obtain ⟨cl, cld, csl, cell1⟩ := T.cell
  obtain ⟨cdD, cls1⟩ := T.cls
  obtain ⟨ar, ar1, ar2⟩ := T.par1
  obtain ⟨hh, g, d, tk, os⟩ := s
  have k2' : ∀ b o, hh.get? b = some o → ((hh.push (kdv_tup rest)).push (excObj C hh.objs.size none .none)).get? b = some o := fun b o e => Heap.get?_push_of_some _ (Heap.get?_push_of_some _ e)
  have neLt : ∀ a, hh.objs.size ≤ a → hh.get? a = none := fun a ha => by
    cases z : hh.get? a with
    | none => rfl
    | some o => exact absurd (Heap.lt_size z) (Nat.not_lt.mpr ha)
  refine wpAny_call (DL.call_any T.FB hT (.of T.FB hT hC) (by rw [sizeLine_eq]; omega) hi' (fun self => exc_bind hoI hcI self) ?_)
  refine ks_codeAny_call_defAt (fd := ksFn nm qu par _ scope dV kV doc pm an (.ref cda) ct cc) (binds := [("self", .ref (hh.objs.size + 1)), (a1, v)]) ?room (k2' _ _ (X _ _ lk)) rfl (hlim.keeps k2') (codeRec_of (X.keeps k2') T.cd) rfl (bnd _ _ _ _ _ _ _ _ _ lk _ _) T.sc4 ?loc (fun h₁ hns hk => ?_) T.sc5.1 T.sc5.2.1 T.sc5.2.2
  case room => show A.depth + 1 < _; omega
  case loc =>
    intro x hx
    simp only [List.mem_cons, List.not_mem_nil, or_false] at hx
    rcases hx with rfl | rfl
    · exact T.sc3 _ (by simp)
    · exact T.sc3 _ (by simp)
  have sz2 : ((hh.push (kdv_tup rest)).push (excObj C hh.objs.size none .none)).objs.size = hh.objs.size + 2 := by rw [Heap.size_push, Heap.size_push]
  have F : Fr hh _ h₁ _ := ⟨hns, fun b o e => hk b o (k2' b o e), by show hh.objs.size ≤ ((hh.push (kdv_tup rest)).push (excObj C hh.objs.size none .none)).objs.size; rw [sz2]; omega⟩
  have N : News hh ((hh.push (kdv_tup rest)).push (excObj C hh.objs.size none .none)).objs.size h₁ [(hh.objs.size + 1, excObj C hh.objs.size none .none), (hh.objs.size, kdv_tup rest)] := by
    intro p hp
    simp only [List.mem_cons, List.not_mem_nil, or_false] at hp
    rcases hp with rfl | rfl
    · exact ⟨hk _ _ (Heap.get?_push_at (Heap.size_push ..).symm rfl), by rw [sz2]; exact Nat.ne_of_lt (by omega), neLt _ (by omega)⟩
    · exact ⟨hk _ _ (Heap.get?_push_of_some _ (Heap.get?_push_size _ rfl)), by rw [sz2]; exact Nat.ne_of_lt (by omega), neLt _ (by omega)⟩
  generalize hL : ((hh.push (kdv_tup rest)).push (excObj C hh.objs.size none .none)).objs.size = L at *
  have ms : ([(("self" : Str), Value.ref (hh.objs.size + 1)), (a1, v)] : List (Str × Value)).reverse.lookup ("self" : Str) = some (.ref (hh.objs.size + 1)) := by
    have : (("self" : Str) == a1) = false := by simpa using fun z => ne z.symm
    simp [List.lookup, this]
  have ma : ([(("self" : Str), Value.ref (hh.objs.size + 1)), (a1, v)] : List (Str × Value)).reverse.lookup a1 = some v := by simp [List.lookup]
  obtain ⟨pl, hev⟩ := hev (ksEnv qu scope L f (.ref cda) cc)
  have hint : interactive (ksEnv qu scope L f (.ref cda) cc) = false := by
    show (scope.kind == .module && _) = false
    rw [T.sc5.2.2]; rfl
  generalize hA : (A.under (.builtin "type.__call__" ⟨.ref C :: rest, kw⟩)).deeper (ksEnv qu scope L f (.ref cda) cc) = A2
  refine ks_wpAt_execs_cons (ks_wpAt_Expr_any (hi := hint) (hs := hs1 _) (ks_wpAt_MethodCall (pl := pl) (he := hev) (node2 (s := ⟨h₁, g, d, tk + 2, os⟩) (D := C) (C := C) (x := hh.objs.size + 1) F X N hg hb hbb lk ar1 (by rw [ar2]; exact ms) (InstAt.of_exc0 (x := hh.objs.size + 1) (t := hh.objs.size) (c2 := .none) N (by simp)) code1 code2 code3 cell1 cls1 T.mro T.noSuper (by decide) T.sc1 T.sc2 (by rw [ar2]; exact T.sc3 _ (by simp)) T.sc5.2.2 T.top (by decide +kernel) ?_)))
  intro so h2 F2 N2 lt2
  refine kxs_method (s := ⟨h2, g, d, tk + 2, os⟩) (x := hh.objs.size + 1) (D := C) (C := C) T.KF F2 X N2 (by simp) (InstAt.of_exc0 (x := hh.objs.size + 1) (t := hh.objs.size) (c2 := .none) N2 (by simp)) T.third T.sup T.sub (by decide) fun u h3 F3 N3 lt3 => ?_
  refine kxs_callWith0 (i := i) (x := hh.objs.size + 1) N3 (by simp) ?_
  refine kxs_call (x := hh.objs.size + 1) (t := hh.objs.size) (dv := none) (c2 := .none) F3 X N3 T.FB T.q (by simp) (.tail ?u1 (.tail ?u2 (.head ?u3))) (by show 0 ≤ sizeLine; omega) fun t4 h4 F4 N4 lt4 => ?_
  case u1 => exact Nat.ne_of_gt (lt3 (hh.objs.size + 1, excObj C hh.objs.size none .none) (by simp))
  case u2 => exact Nat.ne_of_gt (lt2 (hh.objs.size + 1, excObj C hh.objs.size none .none) (by simp))
  case u3 =>
    intro p hp
    simp only [List.mem_cons, List.not_mem_nil, or_false] at hp
    subst hp
    exact Nat.ne_of_lt (Nat.lt_succ_self _)
  dsimp only
  have lo : ∀ {x : Str} {val : Value} {Q : Value → Shared → Prop} {E : Value → Shared → Prop} {M : Model} {A : Around} {s : Shared} {pos : Pos}, s.heap.Ns L (fun y => ([(("self" : Str), Value.ref (hh.objs.size + 1)), (a1, v)] : List (Str × Value)).reverse.lookup y) → ([(("self" : Str), Value.ref (hh.objs.size + 1)), (a1, v)] : List (Str × Value)).reverse.lookup x = some val → scope.names.lookup x = some .local → (x == ("__debug__" : Str)) = false → Q val s →
      wpAny M A (eval (.Name x pos) (ksEnv qu scope L f (.ref cda) cc)) Q E s := fun hn hv hl hd hq => wpAny_Name (wpAny_loadName_local (env := ksEnv qu scope L f (.ref cda) cc) T.sc5.2.2 hl hn hv hq) hd
  refine ks_wpAt_execs_cons (ks_wpAt_Assign_Attr (hs := hs2 _) (wpAt_of_wpAny (lo F4.ns ma (T.sc3 _ (by simp)) hdb (lo F4.ns ms (T.sc3 _ (by simp)) (by decide) ?_))))
  refine set_exc0 (s := ⟨h4, g, d, tk + 2 + 1, os⟩) (x := hh.objs.size + 1) (t := t4) (c2 := .none) T.SF F4 X N4 (by simp) T.sa T.over ht T.dict rfl (.tail ?v1 (.tail ?v2 (.tail ?v3 (.head ?v4)))) (by simp [putL]) fun dx h5 F5 N5 lt5 => ?_
  case v1 => exact Nat.ne_of_gt (lt4 (hh.objs.size + 1, excObj C hh.objs.size none .none) (by simp))
  case v2 => exact Nat.ne_of_gt (lt3 (hh.objs.size + 1, excObj C hh.objs.size none .none) (by simp))
  case v3 => exact Nat.ne_of_gt (lt2 (hh.objs.size + 1, excObj C hh.objs.size none .none) (by simp))
  case v4 =>
    intro p hp
    simp only [List.mem_cons, List.not_mem_nil, or_false] at hp
    subst hp
    exact Nat.ne_of_lt (Nat.lt_succ_self _)
  dsimp only
  refine wpAt_of_wpAny (wpAny_execs_nil ⟨rfl, ?_⟩)
  have m1 := N5 _ (.head _)
  exact h (hh.objs.size + 1) dx t4 h5 (tk + 2 + 1 + 2) (tk + 2 + 1 + 1) F5.keep (neLt _ (by omega)) (by have := lt5 (hh.objs.size + 1, excObj C t4 none .none) (by simp); show hh.objs.size ≤ dx; exact Nat.le_of_lt (Nat.lt_trans (Nat.lt_succ_self _) this)) (Nat.ne_of_gt (lt5 (hh.objs.size + 1, excObj C t4 none .none) (by simp))) (N5 (hh.objs.size + 1, excObj C t4 (some dx) .none) (by simp)).1 m1.1
theorem call_excKK {v v2 : Value} {Q : Value → Shared → Prop} (X : K.In s.heap) (hg : s.heap.Ns mainGlobals mg) (hb : s.heap.Ns builtinsNs mb) (hbb : ∀ x : Str, x ≠ "__name__" → mb x = bootBuiltins x) (hlim : s.heap.NoLimit) (hroom : A.depth + 5 < recursionLimit)
    (T : XcF prog K C B newId i bmB f cc cda nm qu par [.Expr (.Call (.Attribute (.Call (.Name "super" p0) [] [] p1) "__init__" p2) [] [] p3) p4, .Assign [.Attribute (.Name "self" p5) fld p6] (.Name a1 p7) p8, .Assign [.Attribute (.Name "self" p9) fld2 p10] (.Name a2 p11) p12] scope ["self", a1, a2])
    (few : rest.length ≤ 100) (bnd : ∀ (oc : Value) (od : Option Addr) (dV kV doc pm ct : Value) (an : Option Addr) (osl : Array (Option Value)), K.lookup f = some ⟨oc, od, .func (ksFn nm qu par [.Expr (.Call (.Attribute (.Call (.Name "super" p0) [] [] p1) "__init__" p2) [] [] p3) p4, .Assign [.Attribute (.Name "self" p5) fld p6] (.Name a1 p7) p8, .Assign [.Attribute (.Name "self" p9) fld2 p10] (.Name a2 p11) p12] scope dV kV doc pm an (.ref cda) ct cc), osl⟩ → ∀ (s : Shared) (self : Value), BindsTo s (ksFn nm qu par [.Expr (.Call (.Attribute (.Call (.Name "super" p0) [] [] p1) "__init__" p2) [] [] p3) p4, .Assign [.Attribute (.Name "self" p5) fld p6] (.Name a1 p7) p8, .Assign [.Attribute (.Name "self" p9) fld2 p10] (.Name a2 p11) p12] scope dV kV doc pm an (.ref cda) ct cc) ⟨self :: rest, kw⟩ [("self", self), (a1, v), (a2, v2)])
    (ht : takerIn K C fld = some none) (ht2 : takerIn K C fld2 = some none) (ne : a1 ≠ ("self" : Str)) (ne2 : a2 ≠ ("self" : Str)) (ne3 : a1 ≠ a2) (nf : fld ≠ fld2) (hdb : (a1 == ("__debug__" : Str)) = false) (hdb2 : (a2 == ("__debug__" : Str)) = false)
    (hev : ∀ env, ∃ pl, eval (.Call (.Attribute (.Call (.Name "super" p0) [] [] p1) "__init__" p2) [] [] p3) env = (do
      let ov ← attributeBase (.Call (.Name "super" p0) [] [] p1) "__init__" env (eval (.Call (.Name "super" p0) [] [] p1) env)
      standAt p2.atName
      let (f, first) ← holding [ov] (getMethod ov "__init__" pl)
      callWith p3 f first (backTo p3 (starEach [] env)) []))
    (hs1 : ∀ env, swapsWith (.Call (.Attribute (.Call (.Name "super" p0) [] [] p1) "__init__" p2) [] [] p3) none p4.line env = pure false)
    (hs2 : ∀ env, swapsWith (.Name a1 p7) (some (.Attribute (.Name "self" p5) fld p6)) p8.line env = pure false)
    (hs3 : ∀ env, swapsWith (.Name a2 p11) (some (.Attribute (.Name "self" p9) fld2 p10)) p12.line env = pure false)
    (h : ∀ e dx t h' tk tk' tk2, (∀ b o, s.heap.get? b = some o → h'.get? b = some o) → s.heap.get? e = none → s.heap.objs.size ≤ dx → dx ≠ e → h'.get? e = some (excObj C t (some dx) .none) →
      h'.get? dx = some (dictOf [⟨PyData.keyHash w.params fld, .str fld tk', v⟩, ⟨PyData.keyHash w.params fld2, .str fld2 tk2, v2⟩] 2) → Q (.ref e) { s with heap := h', toks := tk }) : wpAny (model prog w) A (call (.ref C) rest kw) Q E s := by
  obtain ⟨nm', N', qn, bs, bm, hdct, sn, sub, ab, col, dd, k0, k1, k2, k3, k5, hC, hT⟩ := excInit_of X T.q
  obtain ⟨oI, hoI, hcI⟩ : ∃ oI, s.heap.get? f = some oI ∧ oI.cls = .type "function" := by
    obtain ⟨o, ho, hc⟩ := Option.map_eq_some_iff.mp (show (K.lookup f).map (·.cls) = some (.type "function") from beq_iff_eq.mp T.fn)
    exact ⟨o, X _ _ ho, hc⟩
  have hi' : Looks (model prog w) s.heap (typeLookup (.ref C) "__init__") (some (.ref f)) := looks_findIn X T.hi
  obtain ⟨oc, od, dV, kV, doc, pm, an, ct, osl, lk, hbind⟩ := T.lk
  obtain ⟨ccl, cdd, cvs, ccs, file, tf, code1, code2, code3⟩ := T.code
  obtain ⟨cl, cld, csl, cell1⟩ := T.cell
  obtain ⟨cdD, cls1⟩ := T.cls
  obtain ⟨ar, ar1, ar2⟩ := T.par1
  obtain ⟨hh, g, d, tk, os⟩ := s
  have k2' : ∀ b o, hh.get? b = some o → ((hh.push (kdv_tup rest)).push (excObj C hh.objs.size none .none)).get? b = some o := fun b o e => Heap.get?_push_of_some _ (Heap.get?_push_of_some _ e)
  have neLt : ∀ a, hh.objs.size ≤ a → hh.get? a = none := fun a ha => by
    cases z : hh.get? a with
    | none => rfl
    | some o => exact absurd (Heap.lt_size z) (Nat.not_lt.mpr ha)
  refine wpAny_call (DL.call_any T.FB hT (.of T.FB hT hC) (by rw [sizeLine_eq]; omega) hi' (fun self => exc_bind hoI hcI self) ?_)
  refine ks_codeAny_call_defAt (fd := ksFn nm qu par _ scope dV kV doc pm an (.ref cda) ct cc) (binds := [("self", .ref (hh.objs.size + 1)), (a1, v), (a2, v2)]) ?room (k2' _ _ (X _ _ lk)) rfl (hlim.keeps k2') (codeRec_of (X.keeps k2') T.cd) rfl (bnd _ _ _ _ _ _ _ _ _ lk _ _) T.sc4 ?loc (fun h₁ hns hk => ?_) T.sc5.1 T.sc5.2.1 T.sc5.2.2
  case room => show A.depth + 1 < _; omega
  case loc =>
    intro x hx
    simp only [List.mem_cons, List.not_mem_nil, or_false] at hx
    rcases hx with rfl | rfl | rfl
    · exact T.sc3 _ (by simp)
    · exact T.sc3 _ (by simp)
    · exact T.sc3 _ (by simp)
  have sz2 : ((hh.push (kdv_tup rest)).push (excObj C hh.objs.size none .none)).objs.size = hh.objs.size + 2 := by rw [Heap.size_push, Heap.size_push]
  have F : Fr hh _ h₁ _ := ⟨hns, fun b o e => hk b o (k2' b o e), by show hh.objs.size ≤ ((hh.push (kdv_tup rest)).push (excObj C hh.objs.size none .none)).objs.size; rw [sz2]; omega⟩
  have N : News hh ((hh.push (kdv_tup rest)).push (excObj C hh.objs.size none .none)).objs.size h₁ [(hh.objs.size + 1, excObj C hh.objs.size none .none), (hh.objs.size, kdv_tup rest)] := by
    intro p hp
    simp only [List.mem_cons, List.not_mem_nil, or_false] at hp
    rcases hp with rfl | rfl
    · exact ⟨hk _ _ (Heap.get?_push_at (Heap.size_push ..).symm rfl), by rw [sz2]; exact Nat.ne_of_lt (by omega), neLt _ (by omega)⟩
    · exact ⟨hk _ _ (Heap.get?_push_of_some _ (Heap.get?_push_size _ rfl)), by rw [sz2]; exact Nat.ne_of_lt (by omega), neLt _ (by omega)⟩
  generalize hL : ((hh.push (kdv_tup rest)).push (excObj C hh.objs.size none .none)).objs.size = L at *
  have ms : ([(("self" : Str), Value.ref (hh.objs.size + 1)), (a1, v), (a2, v2)] : List (Str × Value)).reverse.lookup ("self" : Str) = some (.ref (hh.objs.size + 1)) := by
    have h1 : (("self" : Str) == a1) = false := by simpa using fun z => ne z.symm
    have h2 : (("self" : Str) == a2) = false := by simpa using fun z => ne2 z.symm
    simp [List.lookup, h1, h2]
  have ma : ([(("self" : Str), Value.ref (hh.objs.size + 1)), (a1, v), (a2, v2)] : List (Str × Value)).reverse.lookup a1 = some v := by
    have h1 : (a1 == a2) = false := by simpa using ne3
    simp [List.lookup, h1]
  have ma2 : ([(("self" : Str), Value.ref (hh.objs.size + 1)), (a1, v), (a2, v2)] : List (Str × Value)).reverse.lookup a2 = some v2 := by simp [List.lookup]
  obtain ⟨pl, hev⟩ := hev (ksEnv qu scope L f (.ref cda) cc)
  have hint : interactive (ksEnv qu scope L f (.ref cda) cc) = false := by
    show (scope.kind == .module && _) = false
    rw [T.sc5.2.2]; rfl
  have ek : callEnv (ksFn nm qu par [.Expr (.Call (.Attribute (.Call (.Name "super" p0) [] [] p1) "__init__" p2) [] [] p3) p4, .Assign [.Attribute (.Name "self" p5) fld p6] (.Name a1 p7) p8, .Assign [.Attribute (.Name "self" p9) fld2 p10] (.Name a2 p11) p12] scope dV kV doc pm an (.ref cda) ct cc) L f = ksEnv qu scope L f (.ref cda) cc := rfl
  rw [ek]
  generalize hA : (A.under (.builtin "type.__call__" ⟨.ref C :: rest, kw⟩)).deeper (ksEnv qu scope L f (.ref cda) cc) = A2
  refine ks_wpAt_execs_cons (ks_wpAt_Expr_any (hi := hint) (hs := hs1 _) (ks_wpAt_MethodCall (pl := pl) (he := hev) (node2 (attr := "__init__") (s := ⟨h₁, g, d, tk + 3, os⟩) (D := C) (C := C) (x := hh.objs.size + 1) F X N hg hb hbb lk ar1 (by rw [ar2]; exact ms) (InstAt.of_exc0 (x := hh.objs.size + 1) (t := hh.objs.size) (c2 := .none) N (by simp)) code1 code2 code3 cell1 cls1 T.mro T.noSuper (by decide) T.sc1 T.sc2 (by rw [ar2]; exact T.sc3 _ (by simp)) T.sc5.2.2 T.top (by decide +kernel) ?_)))
  intro so h2 F2 N2 lt2
  refine kxs_method (s := ⟨h2, g, d, tk + 3, os⟩) (x := hh.objs.size + 1) (D := C) (C := C) T.KF F2 X N2 (by simp) (InstAt.of_exc0 (x := hh.objs.size + 1) (t := hh.objs.size) (c2 := .none) N2 (by simp)) T.third T.sup T.sub (by decide) fun u h3 F3 N3 lt3 => ?_
  refine kxs_callWith0 (i := i) (x := hh.objs.size + 1) N3 (by simp) ?_
  refine kxs_call (x := hh.objs.size + 1) (t := hh.objs.size) (dv := none) (c2 := .none) F3 X N3 T.FB T.q (by simp) (.tail ?u1 (.tail ?u2 (.head ?u3))) (by show 0 ≤ sizeLine; omega) fun t4 h4 F4 N4 lt4 => ?_
  case u1 => exact Nat.ne_of_gt (lt3 (hh.objs.size + 1, excObj C hh.objs.size none .none) (by simp))
  case u2 => exact Nat.ne_of_gt (lt2 (hh.objs.size + 1, excObj C hh.objs.size none .none) (by simp))
  case u3 =>
    intro p hp
    simp only [List.mem_cons, List.not_mem_nil, or_false] at hp
    subst hp
    exact Nat.ne_of_lt (Nat.lt_succ_self _)
  dsimp only
  have lo : ∀ {x : Str} {val : Value} {Q : Value → Shared → Prop} {E : Value → Shared → Prop} {M : Model} {A : Around} {s : Shared} {pos : Pos}, s.heap.Ns L (fun y => ([(("self" : Str), Value.ref (hh.objs.size + 1)), (a1, v), (a2, v2)] : List (Str × Value)).reverse.lookup y) → ([(("self" : Str), Value.ref (hh.objs.size + 1)), (a1, v), (a2, v2)] : List (Str × Value)).reverse.lookup x = some val → scope.names.lookup x = some .local → (x == ("__debug__" : Str)) = false → Q val s →
      wpAny M A (eval (.Name x pos) (ksEnv qu scope L f (.ref cda) cc)) Q E s := fun hn hv hl hd hq => wpAny_Name (wpAny_loadName_local (env := ksEnv qu scope L f (.ref cda) cc) T.sc5.2.2 hl hn hv hq) hd
  refine ks_wpAt_execs_cons (ks_wpAt_Assign_Attr (hs := hs2 _) (wpAt_of_wpAny (lo F4.ns ma (T.sc3 _ (by simp)) hdb (lo F4.ns ms (T.sc3 _ (by simp)) (by decide) ?_))))
  refine set_exc0 (s := ⟨h4, g, d, tk + 3 + 1, os⟩) (x := hh.objs.size + 1) (t := t4) (c2 := .none) T.SF F4 X N4 (by simp) T.sa T.over ht T.dict rfl (.tail ?v1 (.tail ?v2 (.tail ?v3 (.head ?v4)))) (by simp [putL]) fun dx h5 F5 N5 lt5 => ?_
  case v1 => exact Nat.ne_of_gt (lt4 (hh.objs.size + 1, excObj C hh.objs.size none .none) (by simp))
  case v2 => exact Nat.ne_of_gt (lt3 (hh.objs.size + 1, excObj C hh.objs.size none .none) (by simp))
  case v3 => exact Nat.ne_of_gt (lt2 (hh.objs.size + 1, excObj C hh.objs.size none .none) (by simp))
  case v4 =>
    intro p hp
    simp only [List.mem_cons, List.not_mem_nil, or_false] at hp
    subst hp
    exact Nat.ne_of_lt (Nat.lt_succ_self _)
  dsimp only
  have xd : dx ≠ hh.objs.size + 1 := Nat.ne_of_gt (lt5 (hh.objs.size + 1, excObj C t4 none .none) (by simp))
  refine ks_wpAt_execs_cons (ks_wpAt_Assign_Attr (hs := hs3 _) (wpAt_of_wpAny (lo F5.ns ma2 (T.sc3 _ (by simp)) hdb2 (lo F5.ns ms (T.sc3 _ (by simp)) (by decide) ?_))))
  have nb : (fld == fld2) = false := by simpa using nf
  dsimp only at N5
  generalize tk + 3 + 1 + 1 = tk1 at N5 ⊢
  have ed : putL fld (PyData.keyHash w.params fld) (Value.str fld tk1) v [] = [⟨PyData.keyHash w.params fld, .str fld tk1, v⟩] := by simp [putL]
  have en : putN fld ([] : List DictEntry) 0 = 1 := by simp [putN, getL]
  rw [ed, en] at N5
  have M1 := N5 _ (.head _)
  have nb2 : (fld2 == fld) = false := by simpa using fun z : fld2 = fld => nf z.symm
  have nl : ¬ fld = fld2 := nf
  have nl2 : ¬ fld2 = fld := fun z => nf z.symm
  refine set_excD (x := hh.objs.size + 1) (t := t4) (dx := dx) (c2 := .none) (es' := [⟨PyData.keyHash w.params fld, .str fld tk1, v⟩, ⟨PyData.keyHash w.params fld2, .str fld2 (tk + 3 + 1 + 2 + 1), v2⟩]) (n' := 2) T.SF F5 X N5 ?mx T.sa T.over ht2 T.dict (.head _) ?hl ?pe (.head ?hu) ?hz fun h6 F6 N6 => ?hf
  case mx => simp
  case hl =>
    simp [getL, Value.isStr, nb, nb2, nl, nl2]
    rfl
  case pe => simp [putL, putN, getL, Value.isStr, nb, nb2, nl, nl2]
  case hu =>
    intro p hp
    simp only [List.mem_cons, List.not_mem_nil, or_false] at hp
    rcases hp with rfl | rfl | rfl | rfl | rfl
    · exact Nat.ne_of_lt (lt5 (t4, excTup []) (by simp))
    · exact Nat.ne_of_lt (lt5 (u, kxs_mw i (hh.objs.size + 1)) (by simp))
    · exact Nat.ne_of_lt (lt5 (so, ks_superObj C (hh.objs.size + 1) C) (by simp))
    · exact xd.symm
    · exact Nat.ne_of_lt (lt5 (hh.objs.size, kdv_tup rest) (by simp))
  case hz => simp
  case hf =>
    dsimp only
    refine wpAt_of_wpAny (wpAny_execs_nil ⟨rfl, ?_⟩)
    have m1 := N6 _ (.head _)
    exact h (hh.objs.size + 1) dx t4 h6 _ tk1 _ F6.keep (neLt _ (by omega)) (by have := lt5 (hh.objs.size + 1, excObj C t4 none .none) (by simp); show hh.objs.size ≤ dx; exact Nat.le_of_lt (Nat.lt_trans (Nat.lt_succ_self _) this)) xd (N6 (hh.objs.size + 1, excObj C t4 (some dx) .none) (by simp)).1 m1.1
end
end PySem.W
namespace DL
variable [DL.Wd] [DL.Fb]
open PySem PySem.Spec PyProof.Rows L2
/-! an exception laid as a value -/
section
variable {X : Cx}
theorem xco_ok {P : Program} {w : World} {H : Hp} {h : Heap} {e t dx : Addr} {C : Addr} (he : h.get? e = some (PySem.W.excObj C t (some dx) .none)) : ObjOk P w H h e (xcO e (.ref C) (some dx)) :=
  ⟨⟨_, _, he, rfl, rfl, rfl⟩, ⟨_, he⟩, fun _ _ ⟨o, v, q, r⟩ k => ⟨o, v, k o q, r⟩⟩
theorem lay_exc {pins : List (Addr × Obj)} {σ : L2.St} {H : Hp} {Q : VK} {s : Shared} {h' : Heap} {e dx t : Addr} {C tk : Nat} {od : Obj} {fs : List (Str × V)} (I : Inv X pins σ H s) (k : ∀ b o, s.heap.get? b = some o → h'.get? b = some o) (ne : s.heap.get? e = none) (hd : s.heap.objs.size ≤ dx) (hde : dx ≠ e)
    (he : h'.get? e = some (PySem.W.excObj C t (some dx) .none)) (hdx : h'.get? dx = some od) (new : ∀ (H' : Hp) (G : Heap), G.get? dx = some od → ObjOk X.prog X.w H' G dx (.xd fs))
    (q : H dx = none → H e = none → Q (.ref e) (upd (upd H dx (.xd fs)) e (xcO e (.ref C) (some dx)))) : EP X pins σ Q (.ref e) { s with heap := h', toks := tk } := by
  obtain ⟨G, g1, g2⟩ := restrict h' fun b => (s.heap.get? b).isSome || decide (b = dx)
  have gS : ∀ b o, s.heap.get? b = some o → G.get? b = some o := fun b o z => by rw [g1 b (by simp [z])]; exact k b o z
  have gD : G.get? dx = some od := by rw [g1 dx (by simp)]; exact hdx
  have hn : H dx = none := I.hok.fresh hd
  have hn2 : H e = none := by
    cases w : H e with
    | none => rfl
    | some o =>
      obtain ⟨u', z⟩ := L2.objOk_get (I.hok e o w)
      rw [ne] at z; cases z
  have J : Inv X pins σ (upd H dx (.xd fs)) { s with heap := G, toks := tk } := I.laid gS hd (new _ _ gD)
  have up : ∀ b o, G.get? b = some o → h'.get? b = some o := fun b o z => by
    cases w : (s.heap.get? b).isSome || decide (b = dx) with
    | true => rw [g1 b w] at z; exact z
    | false => rw [g2 b w] at z; cases z
  have J2 := J.laidN (t' := tk) (a := e) (o := xcO e (.ref C) (some dx)) up (g2 e (by simp [ne, Ne.symm hde])) (by rw [upd_ne (Ne.symm hde)]; exact hn2) (xco_ok he)
  exact ⟨.ref e, _, J2, rfl, q hn hn2⟩
theorem xd1_new {fld : Str} {hs : Int} {tk : Tok} {u : Value} {v : V} (rv : RelV v u) (H : Hp) (G : Heap) {a : Addr} (e : G.get? a = some (PySem.W.dictOf [⟨hs, .str fld tk, u⟩] 1)) : ObjOk X.prog X.w H G a (.xd [(fld, v)]) := ⟨_, ns1_one e, fun f => by
  by_cases hf : f = fld
  · subst hf
    simp [List.lookup]
    exact rv
  · have h2 : (f == fld) = false := by simpa using hf
    simp [List.lookup, hf, h2]
    exact True.intro⟩
theorem xd2_new {fld fld2 : Str} {hs hs2 : Int} {tk tk2 : Tok} {u u2 : Value} {v v2 : V} (nf : fld ≠ fld2) (rv : RelV v u) (rv2 : RelV v2 u2) (H : Hp) (G : Heap) {a : Addr} (e : G.get? a = some (PySem.W.dictOf [⟨hs, .str fld tk, u⟩, ⟨hs2, .str fld2 tk2, u2⟩] 2)) : ObjOk X.prog X.w H G a (.xd [(fld, v), (fld2, v2)]) := ⟨_, ns1_two nf e, fun f => by
  by_cases hf : f = fld
  · subst hf
    simp [List.lookup]
    exact rv
  · have h2 : (f == fld) = false := by simpa using hf
    by_cases hf2 : f = fld2
    · subst hf2
      simp [List.lookup, hf, h2]
      exact rv2
    · have h3 : (f == fld2) = false := by simpa using hf2
      simp [List.lookup, hf, h2, hf2, h3]
      exact True.intro⟩
end
structure Xk1 (Ω : Wl) (x fld a1 : Str) : Prop where
  ex : ∃ (C f cc cda : Addr) (B newId i : String) (bmB : List Value) (nm qu : Str) (par : Arguments) (scope : Scope) (p0 p1 p2 p3 p4 p5 p6 p7 p8 : Pos), clsV Ω.K x = .ref C ∧ Ω.mg x = some (.ref C) ∧ PySem.W.keepIn Ω.K (.ref C) = true ∧
    PySem.W.subIn Ω.K (.ref C) (.type "BaseException") = some true ∧ PySem.W.typeIn Ω.K (.ref C) = some (.type "type") ∧
    PySem.W.XcF Ω.P Ω.K C B newId i bmB f cc cda nm qu par [.Expr (.Call (.Attribute (.Call (.Name "super" p0) [] [] p1) "__init__" p2) [] [] p3) p4, .Assign [.Attribute (.Name "self" p5) fld p6] (.Name a1 p7) p8] scope ["self", a1] ∧
    PySem.W.takerIn Ω.K C fld = some none ∧ a1 ≠ ("self" : Str) ∧ (a1 == ("__debug__" : Str)) = false ∧
    (∀ env, ∃ pl, eval (.Call (.Attribute (.Call (.Name "super" p0) [] [] p1) "__init__" p2) [] [] p3) env = (do
      let ov ← attributeBase (.Call (.Name "super" p0) [] [] p1) "__init__" env (eval (.Call (.Name "super" p0) [] [] p1) env)
      standAt p2.atName
      let (f, first) ← holding [ov] (getMethod ov "__init__" pl)
      callWith p3 f first (backTo p3 (starEach [] env)) [])) ∧
    (∀ env, swapsWith (.Call (.Attribute (.Call (.Name "super" p0) [] [] p1) "__init__" p2) [] [] p3) none p4.line env = pure false) ∧
    (∀ env, swapsWith (.Name a1 p7) (some (.Attribute (.Name "self" p5) fld p6)) p8.line env = pure false) ∧
    (∀ (oc : Value) (od : Option Addr) (dV kV doc pm ct : Value) (an : Option Addr) (osl : Array (Option Value)), Ω.K.lookup f = some ⟨oc, od, .func (PySem.W.ksFn nm qu par [.Expr (.Call (.Attribute (.Call (.Name "super" p0) [] [] p1) "__init__" p2) [] [] p3) p4, .Assign [.Attribute (.Name "self" p5) fld p6] (.Name a1 p7) p8] scope dV kV doc pm an (.ref cda) ct cc), osl⟩ → ∀ (s : Shared) (self v : Value), BindsTo s (PySem.W.ksFn nm qu par [.Expr (.Call (.Attribute (.Call (.Name "super" p0) [] [] p1) "__init__" p2) [] [] p3) p4, .Assign [.Attribute (.Name "self" p5) fld p6] (.Name a1 p7) p8] scope dV kV doc pm an (.ref cda) ct cc) ⟨[self], [(a1, v)]⟩ [("self", self), (a1, v)])
structure Xk2 (Ω : Wl) (x fld fld2 a1 a2 : Str) : Prop where
  ex : ∃ (C f cc cda : Addr) (B newId i : String) (bmB : List Value) (nm qu : Str) (par : Arguments) (scope : Scope) (p0 p1 p2 p3 p4 p5 p6 p7 p8 p9 p10 p11 p12 : Pos), clsV Ω.K x = .ref C ∧ Ω.mg x = some (.ref C) ∧ PySem.W.keepIn Ω.K (.ref C) = true ∧
    PySem.W.subIn Ω.K (.ref C) (.type "BaseException") = some true ∧ PySem.W.typeIn Ω.K (.ref C) = some (.type "type") ∧
    PySem.W.XcF Ω.P Ω.K C B newId i bmB f cc cda nm qu par [.Expr (.Call (.Attribute (.Call (.Name "super" p0) [] [] p1) "__init__" p2) [] [] p3) p4, .Assign [.Attribute (.Name "self" p5) fld p6] (.Name a1 p7) p8, .Assign [.Attribute (.Name "self" p9) fld2 p10] (.Name a2 p11) p12] scope ["self", a1, a2] ∧
    PySem.W.takerIn Ω.K C fld = some none ∧ PySem.W.takerIn Ω.K C fld2 = some none ∧ a1 ≠ ("self" : Str) ∧ a2 ≠ ("self" : Str) ∧ a1 ≠ a2 ∧ fld ≠ fld2 ∧ (a1 == ("__debug__" : Str)) = false ∧ (a2 == ("__debug__" : Str)) = false ∧
    (∀ env, ∃ pl, eval (.Call (.Attribute (.Call (.Name "super" p0) [] [] p1) "__init__" p2) [] [] p3) env = (do
      let ov ← attributeBase (.Call (.Name "super" p0) [] [] p1) "__init__" env (eval (.Call (.Name "super" p0) [] [] p1) env)
      standAt p2.atName
      let (f, first) ← holding [ov] (getMethod ov "__init__" pl)
      callWith p3 f first (backTo p3 (starEach [] env)) [])) ∧
    (∀ env, swapsWith (.Call (.Attribute (.Call (.Name "super" p0) [] [] p1) "__init__" p2) [] [] p3) none p4.line env = pure false) ∧
    (∀ env, swapsWith (.Name a1 p7) (some (.Attribute (.Name "self" p5) fld p6)) p8.line env = pure false) ∧
    (∀ env, swapsWith (.Name a2 p11) (some (.Attribute (.Name "self" p9) fld2 p10)) p12.line env = pure false) ∧
    (∀ (oc : Value) (od : Option Addr) (dV kV doc pm ct : Value) (an : Option Addr) (osl : Array (Option Value)), Ω.K.lookup f = some ⟨oc, od, .func (PySem.W.ksFn nm qu par [.Expr (.Call (.Attribute (.Call (.Name "super" p0) [] [] p1) "__init__" p2) [] [] p3) p4, .Assign [.Attribute (.Name "self" p5) fld p6] (.Name a1 p7) p8, .Assign [.Attribute (.Name "self" p9) fld2 p10] (.Name a2 p11) p12] scope dV kV doc pm an (.ref cda) ct cc), osl⟩ → ∀ (s : Shared) (self v v2 : Value), BindsTo s (PySem.W.ksFn nm qu par [.Expr (.Call (.Attribute (.Call (.Name "super" p0) [] [] p1) "__init__" p2) [] [] p3) p4, .Assign [.Attribute (.Name "self" p5) fld p6] (.Name a1 p7) p8, .Assign [.Attribute (.Name "self" p9) fld2 p10] (.Name a2 p11) p12] scope dV kV doc pm an (.ref cda) ct cc) ⟨[self], [(a2, v2), (a1, v)]⟩ [("self", self), (a1, v), (a2, v2)])
theorem Xk1.c {Ω : Wl} {x fld a1 : Str} (T : Xk1 Ω x fld a1) : Xc1 Ω x fld := by
  obtain ⟨C, f, cc, cda, B, newId, i, bmB, nm, qu, par, scope, p0, p1, p2, p3, p4, p5, p6, p7, p8, h1, h2, h3, h4, h5, h6, h7, h8, h9, h10, h11, h12, hk⟩ := T.ex
  exact ⟨C, f, cc, cda, B, newId, i, bmB, nm, qu, a1, par, scope, p0, p1, p2, p3, p4, p5, p6, p7, p8, h1, h2, h3, h4, h5, h6, h7, h8, h9, h10, h11, h12⟩
theorem Xk2.c {Ω : Wl} {x fld fld2 a1 a2 : Str} (T : Xk2 Ω x fld fld2 a1 a2) : Xc2 Ω x fld fld2 := by
  obtain ⟨C, f, cc, cda, B, newId, i, bmB, nm, qu, par, scope, p0, p1, p2, p3, p4, p5, p6, p7, p8, p9, p10, p11, p12, h1, h2, h3, h4, h5, h6, h7, h72, h8, h82, h83, h84, h9, h92, h10, h11, h12, h13, hk⟩ := T.ex
  exact ⟨C, f, cc, cda, B, newId, i, bmB, nm, qu, a1, a2, par, scope, p0, p1, p2, p3, p4, p5, p6, p7, p8, p9, p10, p11, p12, h1, h2, h3, h4, h5, h6, h7, h72, h8, h82, h83, h84, h9, h92, h10, h11, h12, h13⟩
/-- C(..), an own exception, as a value -/
def dExc (C : Str) (ns : List Str) (t : DA) : DE := fun σ M Q E => t σ M (fun ds M1 => ds.length = ns.length ∧ Q (.exc C ns ds) M1) E
/-- C(b=.., a=..) -/
def dExcR (C : Str) (ns : List Str) (t : DA) : DE := fun σ M Q E => t σ M (fun ds M1 => ds.length = ns.length ∧ Q (.exc C ns ds.reverse) M1) E
section
variable {Ω : Wl} {τ : Sx} {x fld fld2 a1 a2 : Str} {e e2 : Expr} {tl : DA} {p pos : Pos} {gs : List Str} {vs : List Nat} {kws : List Keyword}
theorem lq_exc {K : PySem.W.Frag} {F H : Hp} {M : MH} {e dx C : Addr} {x : Str} {fs : List (Str × V)} {ns : List Str} {ds : List D} {Q : DQ} (g : G K F M H) (h1 : clsV K x = .ref C) (hn : H dx = none) (hn2 : H e = none) (hde : dx ≠ e) (e1 : fs.map (·.1) = ns) (r : RpL K F (fs.map (·.2)) ds) (q : Q (.exc x ns ds) M) :
    LQ K F Q (.ref e) (upd (upd H dx (.xd fs)) e (xcO e (.ref C) (some dx))) := by
  have ga := g.new hn (.xd fs)
  have n2 : (upd H dx (.xd fs)) e = none := by rw [upd_ne (Ne.symm hde)]; exact hn2
  have gb := ga.1.new n2 (xcO e (.ref C) (some dx))
  have f2 := (ga.1.fresh n2).1
  exact ⟨_, M, .exc x ns ds, ga.2.trans gb.2, gb.1, exc_rp (er := ⟨x, ns, ds⟩) f2 ⟨h1, .inr ⟨dx, fs, rfl, upd_same, e1, r.mono ga.2⟩⟩, q⟩
def dExc0 (C : Str) : DE := fun _ M Q _ => Q (.exc C [] []) M
theorem dp_exc0 (T : Xc0 Ω x) (S : ScOk τ.N vs gs τ.sc) (hg : x ∈ gs := by decide) (hdb : (x == ("__debug__" : Str)) = false := by decide) : DP Ω τ (.Call (.Name x p) [] [] pos) (dExc0 x) := Hd.mk fun X ft F0 E tk F M H σ σ' Q e0 g r h pins s I => by
  obtain ⟨C, B, newId, initId, bmB, h1, h2, h3, h4, h5, h6, h7⟩ := T.ex
  rw [← ft.K] at h1 h3 h4 h5 h7
  refine wpAny_Call_Name_kw (ld_glob I (fit_gl ft S hg) (by rw [ft.mg]; exact h2) ?_ hdb)
  refine PySem.W.callWith_K0 I.kIn h3 ?_
  obtain ⟨bm, N, nm, qn, bs, hdct, sn, sub, ab, col, dd, k0, k1, k2, k3, k5, mN, hC, hN, hni, T⟩ := exc_obj I.kIn h7
  refine wpAny_call_exc_subT h6 T hC hN hni (fun h' e hm => ?_) (Nat.zero_le _)
  have hn := I.hok.gone hm.new
  obtain ⟨t, ht, _, _⟩ := hm.there
  have gb := g.new hn (xcO e (.ref C) none)
  exact ⟨.ref e, upd H e (xcO e (.ref C) none), I.laidN hm.keeps hm.new hn ⟨⟨_, _, ht, rfl, rfl, rfl⟩, ⟨_, ht⟩, fun _ _ ⟨o, v, q, r⟩ k => ⟨o, v, k o q, r⟩⟩, rfl, _, M, .exc x [] [], gb.2, gb.1, exc_rp (er := ⟨x, [], []⟩) (g.fresh hn).1 ⟨h1, .inl ⟨rfl, rfl, rfl⟩⟩, h⟩
theorem dp_exc1 (T : Xc1 Ω x fld) (S : ScOk τ.N vs gs τ.sc) (ha : DPA Ω τ [e] tl) (hg : x ∈ gs := by decide) (hdb : (x == ("__debug__" : Str)) = false := by decide)
    (hse : ∀ env, starEach [e] env = (false, eval e env) :: starEach [] env := by intro _; rfl) : DP Ω τ (.Call (.Name x p) [e] [] pos) (dExc x [fld] tl) := Hd.mk fun X ft F0 E tk F M H σ σ' Q e0 g r h pins s I => by
  obtain ⟨C, f, cc, cda, B, newId, i, bmB, nm, qu, a1, par, scope, p0, p1, p2, p3, p4, p5, p6, p7, p8, h1, h2, h3, h4, h5, h6, h7, h8, h9, h10, h11, h12⟩ := T.ex
  rw [← ft.K] at h1 h3 h4 h5 h6 h7
  rw [← ft.P] at h6
  refine wpAny_Call_Name_kw (ld_glob I (fit_gl ft S hg) (by rw [ft.mg]; exact h2) ?_ hdb)
  refine PySem.W.callWith_K (h₀ := X.base) I.ok.mod.kin h3 (thn (ha.run X ft F0 E tk F M H σ σ' _ e0 g r h pos pins s I) ?_) (hse _) rfl
  rintro us s1 ⟨ws, H1, I1, rv, F2, M2, ds, e2, g2, r2, hl, q⟩
  refine ⟨I1.kIn, ?_⟩
  match ds, r2, hl, q with
  | [y], .cons ra .nil, _, q =>
  obtain ⟨u, eu, ru⟩ := vals1 rv
  subst eu
  obtain ⟨mb, hb, hbb⟩ := I1.mod.blt
  exact PySem.W.call_exc1 I1.kIn (I1.mod.glob.keeps I1.bk) (hb.keeps I1.bk) hbb I1.nolimit (by have := ft.room.dp; omega) h6 h7 h8 h9 h10 h11 h12 fun e dx t h' tk tk' k n1 n2 n3 n4 n5 =>
    lay_exc I1 k n1 n2 n3 n4 n5 (fun H' G z => xd1_new ru H' G z) fun m1 m2 => LQ.back e2 (lq_exc g2 h1 m1 m2 n3 rfl (.cons ra .nil) q)
theorem dp_exc1K (T : Xk1 Ω x fld a1) (S : ScOk τ.N vs gs τ.sc) (hkw : DPK Ω τ kws tl) (hg : x ∈ gs := by decide) (hdb : (x == ("__debug__" : Str)) = false := by decide)
    (hall : ∀ env, (backToKw pos (keywordEach kws env)).all (·.1.isSome) = true := by intro _; rfl) (hks : ∀ env, (backToKw pos (keywordEach kws env)).filterMap (·.1) = [a1] := by intro _; rfl)
    (hpl : ∀ env, ((backTo pos (starEach [] env)).any (·.1) || (backToKw pos (keywordEach kws env)).any (·.1.isNone)) = false := by intro _; rfl) : DP Ω τ (.Call (.Name x p) [] kws pos) (dExc x [fld] tl) := Hd.mk fun X ft F0 E tk F M H σ σ' Q e0 g r h pins s I => by
  obtain ⟨C, f, cc, cda, B, newId, i, bmB, nm, qu, par, scope, p0, p1, p2, p3, p4, p5, p6, p7, p8, h1, h2, h3, h4, h5, h6, h7, h8, h9, h10, h11, h12, hk⟩ := T.ex
  rw [← ft.K] at h1 h3 h4 h5 h6 h7 hk
  rw [← ft.P] at h6
  refine wpAny_Call_Name_kw (ld_glob I (fit_gl ft S hg) (by rw [ft.mg]; exact h2) ?_ hdb)
  refine PySem.W.callWith_KW0 (h₀ := X.base) I.ok.mod.kin h3 (hall _) (thn (hkw.run X ft F0 E tk F M H σ σ' _ e0 g r h pos pins s I) ?_) (hpl _)
  rintro us s1 ⟨ws, H1, I1, rv, F2, M2, ds, e2, g2, r2, hl, q⟩
  rw [hks]
  refine ⟨I1.kIn, ?_⟩
  match ds, r2, hl, q with
  | [y], .cons ra .nil, _, q =>
  obtain ⟨u, eu, ru⟩ := vals1 rv
  subst eu
  obtain ⟨mb, hb, hbb⟩ := I1.mod.blt
  exact PySem.W.call_excK (rest := []) (kw := [(a1, u)]) (v := u) I1.kIn (I1.mod.glob.keeps I1.bk) (hb.keeps I1.bk) hbb I1.nolimit (by have := ft.room.dp; omega) h6 (by decide) (fun _ _ _ _ _ _ _ _ _ q _ _ => hk _ _ _ _ _ _ _ _ _ q _ _ _) h7 h8 h9 h10 h11 h12 fun e dx t h' tk tk' k n1 n2 n3 n4 n5 =>
    lay_exc I1 k n1 n2 n3 n4 n5 (fun H' G z => xd1_new ru H' G z) fun m1 m2 => LQ.back e2 (lq_exc g2 h1 m1 m2 n3 rfl (.cons ra .nil) q)
theorem dp_exc2 (T : Xc2 Ω x fld fld2) (S : ScOk τ.N vs gs τ.sc) (ha : DPA Ω τ [e, e2] tl) (hg : x ∈ gs := by decide) (hdb : (x == ("__debug__" : Str)) = false := by decide)
    (hse : ∀ env, starEach [e, e2] env = (false, eval e env) :: starEach [e2] env := by intro _; rfl) (hpl : ∀ env, (backTo pos (starEach [e2] env)).any (·.1) = false := by intro _; rfl) : DP Ω τ (.Call (.Name x p) [e, e2] [] pos) (dExc x [fld, fld2] tl) := Hd.mk fun X ft F0 E tk F M H σ σ' Q e0 g r h pins s I => by
  obtain ⟨C, f, cc, cda, B, newId, i, bmB, nm, qu, a1, a2, par, scope, p0, p1, p2, p3, p4, p5, p6, p7, p8, p9, p10, p11, p12, h1, h2, h3, h4, h5, h6, h7, h72, h8, h82, h83, h84, h9, h92, h10, h11, h12, h13⟩ := T.ex
  rw [← ft.K] at h1 h3 h4 h5 h6 h7 h72
  rw [← ft.P] at h6
  refine wpAny_Call_Name_kw (ld_glob I (fit_gl ft S hg) (by rw [ft.mg]; exact h2) ?_ hdb)
  refine PySem.W.callWith_K (h₀ := X.base) I.ok.mod.kin h3 (thn (ha.run X ft F0 E tk F M H σ σ' _ e0 g r h pos pins s I) ?_) (hse _) (hpl _)
  rintro us s1 ⟨ws, H1, I1, rv, F2, M2, ds, e2, g2, r2, hl, q⟩
  refine ⟨I1.kIn, ?_⟩
  obtain ⟨y, y2, rfl⟩ : ∃ y y2, ds = [y, y2] := match ds, hl with | [y, y2], _ => ⟨y, y2, rfl⟩
  cases r2 with | cons ra rb =>
  cases rb with | cons rb rc =>
  cases rc
  obtain ⟨u, u2, eu, ru, ru2⟩ := vals2 rv
  subst eu
  obtain ⟨mb, hb, hbb⟩ := I1.mod.blt
  exact PySem.W.call_exc2 I1.kIn (I1.mod.glob.keeps I1.bk) (hb.keeps I1.bk) hbb I1.nolimit (by have := ft.room.dp; omega) h6 h7 h72 h8 h82 h83 h84 h9 h92 h10 h11 h12 h13 fun e dx t h' tk tk' tk2 k n1 n2 n3 n4 n5 =>
    lay_exc I1 k n1 n2 n3 n4 n5 (fun H' G z => xd2_new h84 ru ru2 H' G z) fun m1 m2 => LQ.back e2 (lq_exc g2 h1 m1 m2 n3 rfl (.cons ra (.cons rb .nil)) q)
theorem dp_exc2R (T : Xk2 Ω x fld fld2 a1 a2) (S : ScOk τ.N vs gs τ.sc) (hkw : DPK Ω τ kws tl) (hg : x ∈ gs := by decide) (hdb : (x == ("__debug__" : Str)) = false := by decide)
    (hall : ∀ env, (backToKw pos (keywordEach kws env)).all (·.1.isSome) = true := by intro _; rfl) (hks : ∀ env, (backToKw pos (keywordEach kws env)).filterMap (·.1) = [a2, a1] := by intro _; rfl)
    (hpl : ∀ env, ((backTo pos (starEach [] env)).any (·.1) || (backToKw pos (keywordEach kws env)).any (·.1.isNone)) = false := by intro _; rfl) : DP Ω τ (.Call (.Name x p) [] kws pos) (dExcR x [fld, fld2] tl) := Hd.mk fun X ft F0 E tk F M H σ σ' Q e0 g r h pins s I => by
  obtain ⟨C, f, cc, cda, B, newId, i, bmB, nm, qu, par, scope, p0, p1, p2, p3, p4, p5, p6, p7, p8, p9, p10, p11, p12, h1, h2, h3, h4, h5, h6, h7, h72, h8, h82, h83, h84, h9, h92, h10, h11, h12, h13, hk⟩ := T.ex
  rw [← ft.K] at h1 h3 h4 h5 h6 h7 h72 hk
  rw [← ft.P] at h6
  refine wpAny_Call_Name_kw (ld_glob I (fit_gl ft S hg) (by rw [ft.mg]; exact h2) ?_ hdb)
  refine PySem.W.callWith_KW0 (h₀ := X.base) I.ok.mod.kin h3 (hall _) (thn (hkw.run X ft F0 E tk F M H σ σ' _ e0 g r h pos pins s I) ?_) (hpl _)
  rintro us s1 ⟨ws, H1, I1, rv, F2, M2, ds, e2, g2, r2, hl, q⟩
  rw [hks]
  refine ⟨I1.kIn, ?_⟩
  obtain ⟨y2, y, rfl⟩ : ∃ y2 y, ds = [y2, y] := match ds, hl with | [y2, y], _ => ⟨y2, y, rfl⟩
  cases r2 with | cons rb ra =>
  cases ra with | cons ra rc =>
  cases rc
  obtain ⟨u2, u, eu, ru2, ru⟩ := vals2 rv
  subst eu
  obtain ⟨mb, hb, hbb⟩ := I1.mod.blt
  exact PySem.W.call_excKK (rest := []) (kw := [(a2, u2), (a1, u)]) (v := u) (v2 := u2) I1.kIn (I1.mod.glob.keeps I1.bk) (hb.keeps I1.bk) hbb I1.nolimit (by have := ft.room.dp; omega) h6 (by decide) (fun _ _ _ _ _ _ _ _ _ q _ _ => hk _ _ _ _ _ _ _ _ _ q _ _ _ _) h7 h72 h8 h82 h83 h84 h9 h92 h10 h11 h12 h13 fun e dx t h' tk tk' tk2 k n1 n2 n3 n4 n5 =>
    lay_exc I1 k n1 n2 n3 n4 n5 (fun H' G z => xd2_new h84 ru ru2 H' G z) fun m1 m2 => LQ.back e2 (lq_exc g2 h1 m1 m2 n3 rfl (.cons ra (.cons rb .nil)) q)
end
section
omit [DL.Wd] [DL.Fb]
theorem xk1_mk {P : Program} {w : World} {K : PySem.W.Frag} {mg : Str → Option Value} {base h : Heap} {x fld : Str} {C f cc cda : Addr} {B newId i : String} {bmB : List Value} {nm qu a1 : Str} {par : Arguments} {scope : Scope} {p0 p1 p2 p3 p4 p5 p6 p7 p8 : Pos}
    {oc dV kV doc pm ct ccl cl : Value} {od an cdd cld : Option Addr} {osl ccs csl : Array (Option Value)} {vs : Array Value} {file : Str} {tf : Tok} {cdD : ClassData} (X : K.In h) (G : h.Ns mainGlobals mg) (KF : PySem.W.KxsFacts B i) (FB : ExcBaseFacts B newId i bmB) (SF : StoreFacts B bmB "object.__setattr__" "object")
    (g : PySem.W.nsIn K mainGlobals x = some (some (.ref C))) (hi : PySem.W.findIn K (.ref C) "__init__" = some (some (.ref f)))
    (lk : K.lookup f = some ⟨oc, od, .func (PySem.W.ksFn nm qu par [.Expr (.Call (.Attribute (.Call (.Name "super" p0) [] [] p1) "__init__" p2) [] [] p3) p4, .Assign [.Attribute (.Name "self" p5) fld p6] (.Name a1 p7) p8] scope dV kV doc pm an (.ref cda) ct cc), osl⟩)
    (lc : K.lookup cda = some ⟨ccl, cdd, .fields vs, ccs⟩) (ll : K.lookup cc = some ⟨cl, cld, .cell (some (.ref C)), csl⟩) (cls : PySem.W.clsIn K C = some cdD) (fi : vs[2]? = some (.str file tf)) (fe : ((P.main.file : Str) == file) = true)
    (q : PySem.W.excInitIn K C bmB newId = true) (fn : PySem.W.isFn K (.ref f) = true) (cd : PySem.W.codeIn K (.ref cda) qu = true) (mro : PySem.W.mroIn K C (.ref C) = some true) (sup : PySem.W.ks_superIn K C C "__init__" = some (some (.builtin i)))
    (sub : PySem.W.subIn K (.ref C) (.type B) = some true) (third : PySem.W.nsIn K cStatics "thirdparty.any" = some none) (sa : PySem.W.findIn K (.ref C) "__setattr__" = some (some (.builtin "object.__setattr__"))) (over : PySem.W.excOver K C bmB = true) (dict : PySem.W.hasDictIn K C = true)
    (noS : PySem.W.nsIn K mainGlobals "super" = some none) (keep : PySem.W.keepIn K (.ref C) = true) (subB : PySem.W.subIn K (.ref C) (.type "BaseException") = some true) (ty : PySem.W.typeIn K (.ref C) = some (.type "type")) (tk : PySem.W.takerIn K C fld = some none)
    (bind : ∀ (s : Shared) (us : List Value), us.length = (["self", a1] : List Str).length → BindsTo s (PySem.W.ksFn nm qu par [.Expr (.Call (.Attribute (.Call (.Name "super" p0) [] [] p1) "__init__" p2) [] [] p3) p4, .Assign [.Attribute (.Name "self" p5) fld p6] (.Name a1 p7) p8] scope dV kV doc pm an (.ref cda) ct cc) ⟨us, []⟩ ((["self", a1] : List Str).zip us))
    (top : (P.main.scope.names.lookup ("super" : Str)).isSome = false) (par1 : ∃ ar, (par.posonlyargs ++ par.args).head? = some ar ∧ ar.arg = ("self" : Str))
    (sc : (decide (scope.names.lookup ("super" : Str) = some .globalImplicit) && decide (scope.names.lookup ("__class__" : Str) = some .free) && ((["self", a1] : List Str).all fun x => decide (scope.names.lookup x = some .local)) && (scope.names.all fun x => decide (x.2 ≠ .cell)) && !scope.isCoroutine && !scope.isGenerator && decide (scope.kind = .function)) = true)
    (n1 : (a1 == ("self" : Str)) = false) (n2 : (a1 == ("__debug__" : Str)) = false)
    (ev : ∀ env, ∃ pl, eval (.Call (.Attribute (.Call (.Name "super" p0) [] [] p1) "__init__" p2) [] [] p3) env = (do
      let ov ← attributeBase (.Call (.Name "super" p0) [] [] p1) "__init__" env (eval (.Call (.Name "super" p0) [] [] p1) env)
      standAt p2.atName
      let (f, first) ← holding [ov] (getMethod ov "__init__" pl)
      callWith p3 f first (backTo p3 (starEach [] env)) []))
    (sw1 : ∀ env, swapsWith (.Call (.Attribute (.Call (.Name "super" p0) [] [] p1) "__init__" p2) [] [] p3) none p4.line env = pure false)
    (sw2 : ∀ env, swapsWith (.Name a1 p7) (some (.Attribute (.Name "self" p5) fld p6)) p8.line env = pure false)
    (bindk : ∀ (s : Shared) (self v : Value), BindsTo s (PySem.W.ksFn nm qu par [.Expr (.Call (.Attribute (.Call (.Name "super" p0) [] [] p1) "__init__" p2) [] [] p3) p4, .Assign [.Attribute (.Name "self" p5) fld p6] (.Name a1 p7) p8] scope dV kV doc pm an (.ref cda) ct cc) ⟨[self], [(a1, v)]⟩ [("self", self), (a1, v)]) : Xk1 ⟨P, w, K, mg, base⟩ x fld a1 := by
  simp only [Bool.and_eq_true, decide_eq_true_eq, List.all_eq_true, Bool.not_eq_true'] at sc
  obtain ⟨⟨⟨⟨⟨⟨s1, s2⟩, s3⟩, s4⟩, s5⟩, s6⟩, s7⟩ := sc
  refine ⟨C, f, cc, cda, B, newId, i, bmB, nm, qu, par, scope, p0, p1, p2, p3, p4, p5, p6, p7, p8, clsV_of g, PySem.W.mg_of X G g, keep, subB, ty, ?_, tk, fun z => by rw [z] at n1; exact absurd n1 (by decide), n2, ev, sw1, sw2, fun _ _ _ _ _ _ _ _ _ q => by rw [lk] at q; cases q; exact bindk⟩
  exact ⟨KF, FB, SF, q, hi, fn, ⟨_, _, _, _, _, _, _, _, _, lk, bind⟩, cd, ⟨_, _, _, _, _, _, lc, fi, fe⟩, ⟨_, _, _, ll⟩, ⟨_, cls⟩, mro, sup, sub, third, sa, over, dict, noS, top, par1, s1, s2, s3, s4, s5, s6, s7⟩
theorem xk2_mk {P : Program} {w : World} {K : PySem.W.Frag} {mg : Str → Option Value} {base h : Heap} {x fld fld2 : Str} {C f cc cda : Addr} {B newId i : String} {bmB : List Value} {nm qu a1 a2 : Str} {par : Arguments} {scope : Scope} {p0 p1 p2 p3 p4 p5 p6 p7 p8 p9 p10 p11 p12 : Pos}
    {oc dV kV doc pm ct ccl cl : Value} {od an cdd cld : Option Addr} {osl ccs csl : Array (Option Value)} {vs : Array Value} {file : Str} {tf : Tok} {cdD : ClassData} (X : K.In h) (G : h.Ns mainGlobals mg) (KF : PySem.W.KxsFacts B i) (FB : ExcBaseFacts B newId i bmB) (SF : StoreFacts B bmB "object.__setattr__" "object")
    (g : PySem.W.nsIn K mainGlobals x = some (some (.ref C))) (hi : PySem.W.findIn K (.ref C) "__init__" = some (some (.ref f)))
    (lk : K.lookup f = some ⟨oc, od, .func (PySem.W.ksFn nm qu par [.Expr (.Call (.Attribute (.Call (.Name "super" p0) [] [] p1) "__init__" p2) [] [] p3) p4, .Assign [.Attribute (.Name "self" p5) fld p6] (.Name a1 p7) p8, .Assign [.Attribute (.Name "self" p9) fld2 p10] (.Name a2 p11) p12] scope dV kV doc pm an (.ref cda) ct cc), osl⟩)
    (lc : K.lookup cda = some ⟨ccl, cdd, .fields vs, ccs⟩) (ll : K.lookup cc = some ⟨cl, cld, .cell (some (.ref C)), csl⟩) (cls : PySem.W.clsIn K C = some cdD) (fi : vs[2]? = some (.str file tf)) (fe : ((P.main.file : Str) == file) = true)
    (q : PySem.W.excInitIn K C bmB newId = true) (fn : PySem.W.isFn K (.ref f) = true) (cd : PySem.W.codeIn K (.ref cda) qu = true) (mro : PySem.W.mroIn K C (.ref C) = some true) (sup : PySem.W.ks_superIn K C C "__init__" = some (some (.builtin i)))
    (sub : PySem.W.subIn K (.ref C) (.type B) = some true) (third : PySem.W.nsIn K cStatics "thirdparty.any" = some none) (sa : PySem.W.findIn K (.ref C) "__setattr__" = some (some (.builtin "object.__setattr__"))) (over : PySem.W.excOver K C bmB = true) (dict : PySem.W.hasDictIn K C = true)
    (noS : PySem.W.nsIn K mainGlobals "super" = some none) (keep : PySem.W.keepIn K (.ref C) = true) (subB : PySem.W.subIn K (.ref C) (.type "BaseException") = some true) (ty : PySem.W.typeIn K (.ref C) = some (.type "type")) (tk : PySem.W.takerIn K C fld = some none) (tk2 : PySem.W.takerIn K C fld2 = some none)
    (bind : ∀ (s : Shared) (us : List Value), us.length = (["self", a1, a2] : List Str).length → BindsTo s (PySem.W.ksFn nm qu par [.Expr (.Call (.Attribute (.Call (.Name "super" p0) [] [] p1) "__init__" p2) [] [] p3) p4, .Assign [.Attribute (.Name "self" p5) fld p6] (.Name a1 p7) p8, .Assign [.Attribute (.Name "self" p9) fld2 p10] (.Name a2 p11) p12] scope dV kV doc pm an (.ref cda) ct cc) ⟨us, []⟩ ((["self", a1, a2] : List Str).zip us))
    (top : (P.main.scope.names.lookup ("super" : Str)).isSome = false) (par1 : ∃ ar, (par.posonlyargs ++ par.args).head? = some ar ∧ ar.arg = ("self" : Str))
    (sc : (decide (scope.names.lookup ("super" : Str) = some .globalImplicit) && decide (scope.names.lookup ("__class__" : Str) = some .free) && ((["self", a1, a2] : List Str).all fun x => decide (scope.names.lookup x = some .local)) && (scope.names.all fun x => decide (x.2 ≠ .cell)) && !scope.isCoroutine && !scope.isGenerator && decide (scope.kind = .function)) = true)
    (n1 : (a1 == ("self" : Str)) = false) (n2 : (a1 == ("__debug__" : Str)) = false) (n3 : (a2 == ("self" : Str)) = false) (n4 : (a2 == ("__debug__" : Str)) = false) (n5 : (a1 == a2) = false) (n6 : (fld == fld2) = false)
    (ev : ∀ env, ∃ pl, eval (.Call (.Attribute (.Call (.Name "super" p0) [] [] p1) "__init__" p2) [] [] p3) env = (do
      let ov ← attributeBase (.Call (.Name "super" p0) [] [] p1) "__init__" env (eval (.Call (.Name "super" p0) [] [] p1) env)
      standAt p2.atName
      let (f, first) ← holding [ov] (getMethod ov "__init__" pl)
      callWith p3 f first (backTo p3 (starEach [] env)) []))
    (sw1 : ∀ env, swapsWith (.Call (.Attribute (.Call (.Name "super" p0) [] [] p1) "__init__" p2) [] [] p3) none p4.line env = pure false)
    (sw2 : ∀ env, swapsWith (.Name a1 p7) (some (.Attribute (.Name "self" p5) fld p6)) p8.line env = pure false)
    (sw3 : ∀ env, swapsWith (.Name a2 p11) (some (.Attribute (.Name "self" p9) fld2 p10)) p12.line env = pure false)
    (bindk : ∀ (s : Shared) (self v v2 : Value), BindsTo s (PySem.W.ksFn nm qu par [.Expr (.Call (.Attribute (.Call (.Name "super" p0) [] [] p1) "__init__" p2) [] [] p3) p4, .Assign [.Attribute (.Name "self" p5) fld p6] (.Name a1 p7) p8, .Assign [.Attribute (.Name "self" p9) fld2 p10] (.Name a2 p11) p12] scope dV kV doc pm an (.ref cda) ct cc) ⟨[self], [(a2, v2), (a1, v)]⟩ [("self", self), (a1, v), (a2, v2)]) : Xk2 ⟨P, w, K, mg, base⟩ x fld fld2 a1 a2 := by
  simp only [Bool.and_eq_true, decide_eq_true_eq, List.all_eq_true, Bool.not_eq_true'] at sc
  obtain ⟨⟨⟨⟨⟨⟨s1, s2⟩, s3⟩, s4⟩, s5⟩, s6⟩, s7⟩ := sc
  refine ⟨C, f, cc, cda, B, newId, i, bmB, nm, qu, par, scope, p0, p1, p2, p3, p4, p5, p6, p7, p8, p9, p10, p11, p12, clsV_of g, PySem.W.mg_of X G g, keep, subB, ty, ?_, tk, tk2, fun z => by rw [z] at n1; exact absurd n1 (by decide), fun z => by rw [z] at n3; exact absurd n3 (by decide), fun z => by rw [z] at n5; simp at n5, fun z => by rw [z] at n6; simp at n6, n2, n4, ev, sw1, sw2, sw3, fun _ _ _ _ _ _ _ _ _ q => by rw [lk] at q; cases q; exact bindk⟩
  exact ⟨KF, FB, SF, q, hi, fn, ⟨_, _, _, _, _, _, _, _, _, lk, bind⟩, cd, ⟨_, _, _, _, _, _, lc, fi, fe⟩, ⟨_, _, _, ll⟩, ⟨_, cls⟩, mro, sup, sub, third, sa, over, dict, noS, top, par1, s1, s2, s3, s4, s5, s6, s7⟩
/-! of which classes an exception is, row by row -/
inductive EiR (K : PySem.W.Frag) (c : Str) (D : Addr) : List ((Str × Str) × Bool) → Prop
  | nil : EiR K c D []
  | cons {d : Str} {b : Bool} {v : Value} {L : List ((Str × Str) × Bool)} : clsV K d = v → PySem.W.kitOne K (.ref D) v = some b → EiR K c D L → EiR K c D (((c, d), b) :: L)
/-- what must be seen of such a class -/
def EiC (K : PySem.W.Frag) (D : Addr) : Prop := PySem.W.isClsIn K D = true ∧ PySem.W.findIn K (.ref D) "__getattribute__" = some (some (.builtin "BaseException.__getattribute__")) ∧ PySem.W.findIn K (.ref D) "__getattr__" = some none ∧ PySem.W.subIn K (.ref D) (.type "BaseException") = some true ∧
  PySem.W.hasDictIn K D = true ∧ PySem.W.findIn K (.ref D) "__class__" = some (some (.builtin "object.__class__")) ∧ PySem.W.mroIn K D (.type "object") = some true
theorem eiC_of {K : PySem.W.Frag} {D : Addr} (h0 : PySem.W.isClsIn K D = true) (h1 : PySem.W.findIn K (.ref D) "__getattribute__" = some (some (.builtin "BaseException.__getattribute__"))) (h2 : PySem.W.findIn K (.ref D) "__getattr__" = some none) (h3 : PySem.W.subIn K (.ref D) (.type "BaseException") = some true)
    (h4 : PySem.W.hasDictIn K D = true) (h5 : PySem.W.findIn K (.ref D) "__class__" = some (some (.builtin "object.__class__"))) (h6 : PySem.W.mroIn K D (.type "object") = some true) : EiC K D := ⟨h0, h1, h2, h3, h4, h5, h6⟩
theorem ei_row {K : PySem.W.Frag} {c : Str} {D : Addr} (hc : PySem.W.nsIn K mainGlobals c = some (some (.ref D))) (e : EiC K D) (h6 : PySem.W.specialIn K (.builtin "object.__class__") "__get__" = some (some (.builtin "getset_descriptor.__get__"))) (h7 : PySem.W.takesIn K (.builtin "object.__class__") = some true)
    {L : List ((Str × Str) × Bool)} (r : EiR K c D L) : ∀ p ∈ L, ∃ D, clsV K p.1.1 = .ref D ∧ (PySem.W.clsIn K D).isSome = true ∧ L2.ExcC K D ∧ PySem.W.kitOne K (.ref D) (clsV K p.1.2) = some p.2 := by
  obtain ⟨h0, h1, h2, h3, h4, h5, h8⟩ := e
  induction r with
  | nil => intro p hp; cases hp
  | cons hv hk _ ih =>
    intro p hp
    rcases List.mem_cons.mp hp with rfl | hp
    · exact ⟨D, clsV_of hc, h0, ⟨h1, h2, h3, h4, h5, h6, h7, h8⟩, by show PySem.W.kitOne K (.ref D) (clsV K _) = _; rw [hv]; exact hk⟩
    · exact ih p hp
end
end DL

namespace DL
open PySem PySem.Spec PyProof.Rows L2
abbrev mkW (w : World) : Wd := ⟨w, [], fun _ => (0, 0)⟩
abbrev mkF : Fb := ⟨fun _ => none, 0, fun _ _ _ => False⟩
def exsL : List ((Str × Str) × Bool) := [((("Broken" : Str), ("CannotBe" : Str)), true), ((("Broken" : Str), ("NotRight" : Str)), false), ((("Broken" : Str), ("NotThere" : Str)), false), ((("CannotBe" : Str), ("CannotBe" : Str)), true), ((("CannotBe" : Str), ("NotRight" : Str)), false), ((("CannotBe" : Str), ("NotThere" : Str)), false), ((("InUse" : Str), ("CannotBe" : Str)), false), ((("InUse" : Str), ("NotRight" : Str)), false), ((("InUse" : Str), ("NotThere" : Str)), true), ((("InvalidClaim" : Str), ("CannotBe" : Str)), false), ((("InvalidClaim" : Str), ("NotRight" : Str)), true), ((("InvalidClaim" : Str), ("NotThere" : Str)), false), ((("InvalidExchange" : Str), ("CannotBe" : Str)), false), ((("InvalidExchange" : Str), ("NotRight" : Str)), true), ((("InvalidExchange" : Str), ("NotThere" : Str)), false), ((("InvalidHeap" : Str), ("CannotBe" : Str)), false), ((("InvalidHeap" : Str), ("NotRight" : Str)), true), ((("InvalidHeap" : Str), ("NotThere" : Str)), false), ((("InvalidName" : Str), ("CannotBe" : Str)), false), ((("InvalidName" : Str), ("NotRight" : Str)), true), ((("InvalidName" : Str), ("NotThere" : Str)), false), ((("InvalidNumber" : Str), ("CannotBe" : Str)), false), ((("InvalidNumber" : Str), ("NotRight" : Str)), true), ((("InvalidNumber" : Str), ("NotThere" : Str)), false), ((("InvalidOrders" : Str), ("CannotBe" : Str)), false), ((("InvalidOrders" : Str), ("NotRight" : Str)), true), ((("InvalidOrders" : Str), ("NotThere" : Str)), false), ((("InvalidPlace" : Str), ("CannotBe" : Str)), false), ((("InvalidPlace" : Str), ("NotRight" : Str)), true), ((("InvalidPlace" : Str), ("NotThere" : Str)), false), ((("InvalidPlan" : Str), ("CannotBe" : Str)), false), ((("InvalidPlan" : Str), ("NotRight" : Str)), true), ((("InvalidPlan" : Str), ("NotThere" : Str)), false), ((("InvalidRows" : Str), ("CannotBe" : Str)), false), ((("InvalidRows" : Str), ("NotRight" : Str)), true), ((("InvalidRows" : Str), ("NotThere" : Str)), false), ((("InvalidText" : Str), ("CannotBe" : Str)), false), ((("InvalidText" : Str), ("NotRight" : Str)), true), ((("InvalidText" : Str), ("NotThere" : Str)), false), ((("InvalidThings" : Str), ("CannotBe" : Str)), false), ((("InvalidThings" : Str), ("NotRight" : Str)), true), ((("InvalidThings" : Str), ("NotThere" : Str)), false), ((("NotARow" : Str), ("CannotBe" : Str)), false), ((("NotARow" : Str), ("NotRight" : Str)), true), ((("NotARow" : Str), ("NotThere" : Str)), false), ((("NotRight" : Str), ("CannotBe" : Str)), false), ((("NotRight" : Str), ("NotRight" : Str)), true), ((("NotRight" : Str), ("NotThere" : Str)), false), ((("NotThere" : Str), ("CannotBe" : Str)), false), ((("NotThere" : Str), ("NotRight" : Str)), false), ((("NotThere" : Str), ("NotThere" : Str)), true), ((("NothingToUndo" : Str), ("CannotBe" : Str)), true), ((("NothingToUndo" : Str), ("NotRight" : Str)), false), ((("NothingToUndo" : Str), ("NotThere" : Str)), false), ((("OtherThings" : Str), ("CannotBe" : Str)), true), ((("OtherThings" : Str), ("NotRight" : Str)), false), ((("OtherThings" : Str), ("NotThere" : Str)), false), ((("TooMany" : Str), ("CannotBe" : Str)), true), ((("TooMany" : Str), ("NotRight" : Str)), false), ((("TooMany" : Str), ("NotThere" : Str)), false), ((("UnknownName" : Str), ("CannotBe" : Str)), false), ((("UnknownName" : Str), ("NotRight" : Str)), false), ((("UnknownName" : Str), ("NotThere" : Str)), true)]
def exsT : Str → Str → Option Bool := fun c d => exsL.lookup (c, d)
theorem exs_0 : exsT "Broken" "CannotBe" = some true := by decide +kernel
theorem exs_1 : exsT "Broken" "NotRight" = some false := by decide +kernel
theorem exs_2 : exsT "Broken" "NotThere" = some false := by decide +kernel
theorem exs_3 : exsT "CannotBe" "CannotBe" = some true := by decide +kernel
theorem exs_4 : exsT "CannotBe" "NotRight" = some false := by decide +kernel
theorem exs_5 : exsT "CannotBe" "NotThere" = some false := by decide +kernel
theorem exs_6 : exsT "InUse" "CannotBe" = some false := by decide +kernel
theorem exs_7 : exsT "InUse" "NotRight" = some false := by decide +kernel
theorem exs_8 : exsT "InUse" "NotThere" = some true := by decide +kernel
theorem exs_9 : exsT "InvalidClaim" "CannotBe" = some false := by decide +kernel
theorem exs_10 : exsT "InvalidClaim" "NotRight" = some true := by decide +kernel
theorem exs_11 : exsT "InvalidClaim" "NotThere" = some false := by decide +kernel
theorem exs_12 : exsT "InvalidExchange" "CannotBe" = some false := by decide +kernel
theorem exs_13 : exsT "InvalidExchange" "NotRight" = some true := by decide +kernel
theorem exs_14 : exsT "InvalidExchange" "NotThere" = some false := by decide +kernel
theorem exs_15 : exsT "InvalidHeap" "CannotBe" = some false := by decide +kernel
theorem exs_16 : exsT "InvalidHeap" "NotRight" = some true := by decide +kernel
theorem exs_17 : exsT "InvalidHeap" "NotThere" = some false := by decide +kernel
theorem exs_18 : exsT "InvalidName" "CannotBe" = some false := by decide +kernel
theorem exs_19 : exsT "InvalidName" "NotRight" = some true := by decide +kernel
theorem exs_20 : exsT "InvalidName" "NotThere" = some false := by decide +kernel
theorem exs_21 : exsT "InvalidNumber" "CannotBe" = some false := by decide +kernel
theorem exs_22 : exsT "InvalidNumber" "NotRight" = some true := by decide +kernel
theorem exs_23 : exsT "InvalidNumber" "NotThere" = some false := by decide +kernel
theorem exs_24 : exsT "InvalidOrders" "CannotBe" = some false := by decide +kernel
theorem exs_25 : exsT "InvalidOrders" "NotRight" = some true := by decide +kernel
theorem exs_26 : exsT "InvalidOrders" "NotThere" = some false := by decide +kernel
theorem exs_27 : exsT "InvalidPlace" "CannotBe" = some false := by decide +kernel
theorem exs_28 : exsT "InvalidPlace" "NotRight" = some true := by decide +kernel
theorem exs_29 : exsT "InvalidPlace" "NotThere" = some false := by decide +kernel
theorem exs_30 : exsT "InvalidPlan" "CannotBe" = some false := by decide +kernel
theorem exs_31 : exsT "InvalidPlan" "NotRight" = some true := by decide +kernel
theorem exs_32 : exsT "InvalidPlan" "NotThere" = some false := by decide +kernel
theorem exs_33 : exsT "InvalidRows" "CannotBe" = some false := by decide +kernel
theorem exs_34 : exsT "InvalidRows" "NotRight" = some true := by decide +kernel
theorem exs_35 : exsT "InvalidRows" "NotThere" = some false := by decide +kernel
theorem exs_36 : exsT "InvalidText" "CannotBe" = some false := by decide +kernel
theorem exs_37 : exsT "InvalidText" "NotRight" = some true := by decide +kernel
theorem exs_38 : exsT "InvalidText" "NotThere" = some false := by decide +kernel
theorem exs_39 : exsT "InvalidThings" "CannotBe" = some false := by decide +kernel
theorem exs_40 : exsT "InvalidThings" "NotRight" = some true := by decide +kernel
theorem exs_41 : exsT "InvalidThings" "NotThere" = some false := by decide +kernel
theorem exs_42 : exsT "NotARow" "CannotBe" = some false := by decide +kernel
theorem exs_43 : exsT "NotARow" "NotRight" = some true := by decide +kernel
theorem exs_44 : exsT "NotARow" "NotThere" = some false := by decide +kernel
theorem exs_45 : exsT "NotRight" "CannotBe" = some false := by decide +kernel
theorem exs_46 : exsT "NotRight" "NotRight" = some true := by decide +kernel
theorem exs_47 : exsT "NotRight" "NotThere" = some false := by decide +kernel
theorem exs_48 : exsT "NotThere" "CannotBe" = some false := by decide +kernel
theorem exs_49 : exsT "NotThere" "NotRight" = some false := by decide +kernel
theorem exs_50 : exsT "NotThere" "NotThere" = some true := by decide +kernel
theorem exs_51 : exsT "NothingToUndo" "CannotBe" = some true := by decide +kernel
theorem exs_52 : exsT "NothingToUndo" "NotRight" = some false := by decide +kernel
theorem exs_53 : exsT "NothingToUndo" "NotThere" = some false := by decide +kernel
theorem exs_54 : exsT "OtherThings" "CannotBe" = some true := by decide +kernel
theorem exs_55 : exsT "OtherThings" "NotRight" = some false := by decide +kernel
theorem exs_56 : exsT "OtherThings" "NotThere" = some false := by decide +kernel
theorem exs_57 : exsT "TooMany" "CannotBe" = some true := by decide +kernel
theorem exs_58 : exsT "TooMany" "NotRight" = some false := by decide +kernel
theorem exs_59 : exsT "TooMany" "NotThere" = some false := by decide +kernel
theorem exs_60 : exsT "UnknownName" "CannotBe" = some false := by decide +kernel
theorem exs_61 : exsT "UnknownName" "NotRight" = some false := by decide +kernel
theorem exs_62 : exsT "UnknownName" "NotThere" = some true := by decide +kernel
def exfL : List (Str × Str) := [("Broken", "index"), ("Broken", "shown"), ("InUse", "index"), ("InvalidClaim", "given"), ("InvalidExchange", "given"), ("InvalidHeap", "index"), ("InvalidName", "given"), ("InvalidNumber", "given"), ("InvalidOrders", "index"), ("InvalidPlace", "given"), ("InvalidPlan", "index"), ("InvalidRows", "index"), ("InvalidText", "given"), ("InvalidThings", "index"), ("NotARow", "given"), ("TooMany", "most"), ("UnknownName", "given")]
def exfT : Str → Str → Bool := fun c f => exfL.contains (c, f)
theorem exf_0 : exfT "Broken" "index" = true := by decide +kernel
theorem exf_1 : exfT "Broken" "shown" = true := by decide +kernel
theorem exf_2 : exfT "InUse" "index" = true := by decide +kernel
theorem exf_3 : exfT "InvalidClaim" "given" = true := by decide +kernel
theorem exf_4 : exfT "InvalidExchange" "given" = true := by decide +kernel
theorem exf_5 : exfT "InvalidHeap" "index" = true := by decide +kernel
theorem exf_6 : exfT "InvalidName" "given" = true := by decide +kernel
theorem exf_7 : exfT "InvalidNumber" "given" = true := by decide +kernel
theorem exf_8 : exfT "InvalidOrders" "index" = true := by decide +kernel
theorem exf_9 : exfT "InvalidPlace" "given" = true := by decide +kernel
theorem exf_10 : exfT "InvalidPlan" "index" = true := by decide +kernel
theorem exf_11 : exfT "InvalidRows" "index" = true := by decide +kernel
theorem exf_12 : exfT "InvalidText" "given" = true := by decide +kernel
theorem exf_13 : exfT "InvalidThings" "index" = true := by decide +kernel
theorem exf_14 : exfT "NotARow" "given" = true := by decide +kernel
theorem exf_15 : exfT "TooMany" "most" = true := by decide +kernel
theorem exf_16 : exfT "UnknownName" "given" = true := by decide +kernel
def eisRBroken : List ((Str × Str) × Bool) := [((("Broken" : Str), ("Broken" : Str)), true), ((("Broken" : Str), ("CannotBe" : Str)), true), ((("Broken" : Str), ("InUse" : Str)), false), ((("Broken" : Str), ("InvalidClaim" : Str)), false), ((("Broken" : Str), ("InvalidExchange" : Str)), false), ((("Broken" : Str), ("InvalidHeap" : Str)), false), ((("Broken" : Str), ("InvalidName" : Str)), false), ((("Broken" : Str), ("InvalidNumber" : Str)), false), ((("Broken" : Str), ("InvalidOrders" : Str)), false), ((("Broken" : Str), ("InvalidPlace" : Str)), false), ((("Broken" : Str), ("InvalidPlan" : Str)), false), ((("Broken" : Str), ("InvalidRows" : Str)), false), ((("Broken" : Str), ("InvalidText" : Str)), false), ((("Broken" : Str), ("InvalidThings" : Str)), false), ((("Broken" : Str), ("NotARow" : Str)), false), ((("Broken" : Str), ("NotRight" : Str)), false), ((("Broken" : Str), ("NotThere" : Str)), false), ((("Broken" : Str), ("NothingToUndo" : Str)), false), ((("Broken" : Str), ("OtherThings" : Str)), false), ((("Broken" : Str), ("TooMany" : Str)), false), ((("Broken" : Str), ("UnknownName" : Str)), false), ((("Broken" : Str), ("ArithmeticError" : Str)), true), ((("Broken" : Str), ("IndexError" : Str)), false), ((("Broken" : Str), ("KeyError" : Str)), false), ((("Broken" : Str), ("LookupError" : Str)), false), ((("Broken" : Str), ("ValueError" : Str)), false), ((("Broken" : Str), ("ZeroDivisionError" : Str)), false)]
def eisRInUse : List ((Str × Str) × Bool) := [((("InUse" : Str), ("Broken" : Str)), false), ((("InUse" : Str), ("CannotBe" : Str)), false), ((("InUse" : Str), ("InUse" : Str)), true), ((("InUse" : Str), ("InvalidClaim" : Str)), false), ((("InUse" : Str), ("InvalidExchange" : Str)), false), ((("InUse" : Str), ("InvalidHeap" : Str)), false), ((("InUse" : Str), ("InvalidName" : Str)), false), ((("InUse" : Str), ("InvalidNumber" : Str)), false), ((("InUse" : Str), ("InvalidOrders" : Str)), false), ((("InUse" : Str), ("InvalidPlace" : Str)), false), ((("InUse" : Str), ("InvalidPlan" : Str)), false), ((("InUse" : Str), ("InvalidRows" : Str)), false), ((("InUse" : Str), ("InvalidText" : Str)), false), ((("InUse" : Str), ("InvalidThings" : Str)), false), ((("InUse" : Str), ("NotARow" : Str)), false), ((("InUse" : Str), ("NotRight" : Str)), false), ((("InUse" : Str), ("NotThere" : Str)), true), ((("InUse" : Str), ("NothingToUndo" : Str)), false), ((("InUse" : Str), ("OtherThings" : Str)), false), ((("InUse" : Str), ("TooMany" : Str)), false), ((("InUse" : Str), ("UnknownName" : Str)), false), ((("InUse" : Str), ("ArithmeticError" : Str)), false), ((("InUse" : Str), ("IndexError" : Str)), false), ((("InUse" : Str), ("KeyError" : Str)), false), ((("InUse" : Str), ("LookupError" : Str)), true), ((("InUse" : Str), ("ValueError" : Str)), false), ((("InUse" : Str), ("ZeroDivisionError" : Str)), false)]
def eisRInvalidClaim : List ((Str × Str) × Bool) := [((("InvalidClaim" : Str), ("Broken" : Str)), false), ((("InvalidClaim" : Str), ("CannotBe" : Str)), false), ((("InvalidClaim" : Str), ("InUse" : Str)), false), ((("InvalidClaim" : Str), ("InvalidClaim" : Str)), true), ((("InvalidClaim" : Str), ("InvalidExchange" : Str)), false), ((("InvalidClaim" : Str), ("InvalidHeap" : Str)), false), ((("InvalidClaim" : Str), ("InvalidName" : Str)), false), ((("InvalidClaim" : Str), ("InvalidNumber" : Str)), false), ((("InvalidClaim" : Str), ("InvalidOrders" : Str)), false), ((("InvalidClaim" : Str), ("InvalidPlace" : Str)), false), ((("InvalidClaim" : Str), ("InvalidPlan" : Str)), false), ((("InvalidClaim" : Str), ("InvalidRows" : Str)), false), ((("InvalidClaim" : Str), ("InvalidText" : Str)), false), ((("InvalidClaim" : Str), ("InvalidThings" : Str)), false), ((("InvalidClaim" : Str), ("NotARow" : Str)), false), ((("InvalidClaim" : Str), ("NotRight" : Str)), true), ((("InvalidClaim" : Str), ("NotThere" : Str)), false), ((("InvalidClaim" : Str), ("NothingToUndo" : Str)), false), ((("InvalidClaim" : Str), ("OtherThings" : Str)), false), ((("InvalidClaim" : Str), ("TooMany" : Str)), false), ((("InvalidClaim" : Str), ("UnknownName" : Str)), false), ((("InvalidClaim" : Str), ("ArithmeticError" : Str)), false), ((("InvalidClaim" : Str), ("IndexError" : Str)), false), ((("InvalidClaim" : Str), ("KeyError" : Str)), false), ((("InvalidClaim" : Str), ("LookupError" : Str)), false), ((("InvalidClaim" : Str), ("ValueError" : Str)), true), ((("InvalidClaim" : Str), ("ZeroDivisionError" : Str)), false)]
def eisRInvalidExchange : List ((Str × Str) × Bool) := [((("InvalidExchange" : Str), ("Broken" : Str)), false), ((("InvalidExchange" : Str), ("CannotBe" : Str)), false), ((("InvalidExchange" : Str), ("InUse" : Str)), false), ((("InvalidExchange" : Str), ("InvalidClaim" : Str)), false), ((("InvalidExchange" : Str), ("InvalidExchange" : Str)), true), ((("InvalidExchange" : Str), ("InvalidHeap" : Str)), false), ((("InvalidExchange" : Str), ("InvalidName" : Str)), false), ((("InvalidExchange" : Str), ("InvalidNumber" : Str)), false), ((("InvalidExchange" : Str), ("InvalidOrders" : Str)), false), ((("InvalidExchange" : Str), ("InvalidPlace" : Str)), false), ((("InvalidExchange" : Str), ("InvalidPlan" : Str)), false), ((("InvalidExchange" : Str), ("InvalidRows" : Str)), false), ((("InvalidExchange" : Str), ("InvalidText" : Str)), false), ((("InvalidExchange" : Str), ("InvalidThings" : Str)), false), ((("InvalidExchange" : Str), ("NotARow" : Str)), false), ((("InvalidExchange" : Str), ("NotRight" : Str)), true), ((("InvalidExchange" : Str), ("NotThere" : Str)), false), ((("InvalidExchange" : Str), ("NothingToUndo" : Str)), false), ((("InvalidExchange" : Str), ("OtherThings" : Str)), false), ((("InvalidExchange" : Str), ("TooMany" : Str)), false), ((("InvalidExchange" : Str), ("UnknownName" : Str)), false), ((("InvalidExchange" : Str), ("ArithmeticError" : Str)), false), ((("InvalidExchange" : Str), ("IndexError" : Str)), false), ((("InvalidExchange" : Str), ("KeyError" : Str)), false), ((("InvalidExchange" : Str), ("LookupError" : Str)), false), ((("InvalidExchange" : Str), ("ValueError" : Str)), true), ((("InvalidExchange" : Str), ("ZeroDivisionError" : Str)), false)]
def eisRInvalidHeap : List ((Str × Str) × Bool) := [((("InvalidHeap" : Str), ("Broken" : Str)), false), ((("InvalidHeap" : Str), ("CannotBe" : Str)), false), ((("InvalidHeap" : Str), ("InUse" : Str)), false), ((("InvalidHeap" : Str), ("InvalidClaim" : Str)), false), ((("InvalidHeap" : Str), ("InvalidExchange" : Str)), false), ((("InvalidHeap" : Str), ("InvalidHeap" : Str)), true), ((("InvalidHeap" : Str), ("InvalidName" : Str)), false), ((("InvalidHeap" : Str), ("InvalidNumber" : Str)), false), ((("InvalidHeap" : Str), ("InvalidOrders" : Str)), false), ((("InvalidHeap" : Str), ("InvalidPlace" : Str)), false), ((("InvalidHeap" : Str), ("InvalidPlan" : Str)), false), ((("InvalidHeap" : Str), ("InvalidRows" : Str)), false), ((("InvalidHeap" : Str), ("InvalidText" : Str)), false), ((("InvalidHeap" : Str), ("InvalidThings" : Str)), false), ((("InvalidHeap" : Str), ("NotARow" : Str)), false), ((("InvalidHeap" : Str), ("NotRight" : Str)), true), ((("InvalidHeap" : Str), ("NotThere" : Str)), false), ((("InvalidHeap" : Str), ("NothingToUndo" : Str)), false), ((("InvalidHeap" : Str), ("OtherThings" : Str)), false), ((("InvalidHeap" : Str), ("TooMany" : Str)), false), ((("InvalidHeap" : Str), ("UnknownName" : Str)), false), ((("InvalidHeap" : Str), ("ArithmeticError" : Str)), false), ((("InvalidHeap" : Str), ("IndexError" : Str)), false), ((("InvalidHeap" : Str), ("KeyError" : Str)), false), ((("InvalidHeap" : Str), ("LookupError" : Str)), false), ((("InvalidHeap" : Str), ("ValueError" : Str)), true), ((("InvalidHeap" : Str), ("ZeroDivisionError" : Str)), false)]
def eisRInvalidName : List ((Str × Str) × Bool) := [((("InvalidName" : Str), ("Broken" : Str)), false), ((("InvalidName" : Str), ("CannotBe" : Str)), false), ((("InvalidName" : Str), ("InUse" : Str)), false), ((("InvalidName" : Str), ("InvalidClaim" : Str)), false), ((("InvalidName" : Str), ("InvalidExchange" : Str)), false), ((("InvalidName" : Str), ("InvalidHeap" : Str)), false), ((("InvalidName" : Str), ("InvalidName" : Str)), true), ((("InvalidName" : Str), ("InvalidNumber" : Str)), false), ((("InvalidName" : Str), ("InvalidOrders" : Str)), false), ((("InvalidName" : Str), ("InvalidPlace" : Str)), false), ((("InvalidName" : Str), ("InvalidPlan" : Str)), false), ((("InvalidName" : Str), ("InvalidRows" : Str)), false), ((("InvalidName" : Str), ("InvalidText" : Str)), false), ((("InvalidName" : Str), ("InvalidThings" : Str)), false), ((("InvalidName" : Str), ("NotARow" : Str)), false), ((("InvalidName" : Str), ("NotRight" : Str)), true), ((("InvalidName" : Str), ("NotThere" : Str)), false), ((("InvalidName" : Str), ("NothingToUndo" : Str)), false), ((("InvalidName" : Str), ("OtherThings" : Str)), false), ((("InvalidName" : Str), ("TooMany" : Str)), false), ((("InvalidName" : Str), ("UnknownName" : Str)), false), ((("InvalidName" : Str), ("ArithmeticError" : Str)), false), ((("InvalidName" : Str), ("IndexError" : Str)), false), ((("InvalidName" : Str), ("KeyError" : Str)), false), ((("InvalidName" : Str), ("LookupError" : Str)), false), ((("InvalidName" : Str), ("ValueError" : Str)), true), ((("InvalidName" : Str), ("ZeroDivisionError" : Str)), false)]
def eisRInvalidNumber : List ((Str × Str) × Bool) := [((("InvalidNumber" : Str), ("Broken" : Str)), false), ((("InvalidNumber" : Str), ("CannotBe" : Str)), false), ((("InvalidNumber" : Str), ("InUse" : Str)), false), ((("InvalidNumber" : Str), ("InvalidClaim" : Str)), false), ((("InvalidNumber" : Str), ("InvalidExchange" : Str)), false), ((("InvalidNumber" : Str), ("InvalidHeap" : Str)), false), ((("InvalidNumber" : Str), ("InvalidName" : Str)), false), ((("InvalidNumber" : Str), ("InvalidNumber" : Str)), true), ((("InvalidNumber" : Str), ("InvalidOrders" : Str)), false), ((("InvalidNumber" : Str), ("InvalidPlace" : Str)), false), ((("InvalidNumber" : Str), ("InvalidPlan" : Str)), false), ((("InvalidNumber" : Str), ("InvalidRows" : Str)), false), ((("InvalidNumber" : Str), ("InvalidText" : Str)), false), ((("InvalidNumber" : Str), ("InvalidThings" : Str)), false), ((("InvalidNumber" : Str), ("NotARow" : Str)), false), ((("InvalidNumber" : Str), ("NotRight" : Str)), true), ((("InvalidNumber" : Str), ("NotThere" : Str)), false), ((("InvalidNumber" : Str), ("NothingToUndo" : Str)), false), ((("InvalidNumber" : Str), ("OtherThings" : Str)), false), ((("InvalidNumber" : Str), ("TooMany" : Str)), false), ((("InvalidNumber" : Str), ("UnknownName" : Str)), false), ((("InvalidNumber" : Str), ("ArithmeticError" : Str)), false), ((("InvalidNumber" : Str), ("IndexError" : Str)), false), ((("InvalidNumber" : Str), ("KeyError" : Str)), false), ((("InvalidNumber" : Str), ("LookupError" : Str)), false), ((("InvalidNumber" : Str), ("ValueError" : Str)), true), ((("InvalidNumber" : Str), ("ZeroDivisionError" : Str)), false)]
def eisRInvalidOrders : List ((Str × Str) × Bool) := [((("InvalidOrders" : Str), ("Broken" : Str)), false), ((("InvalidOrders" : Str), ("CannotBe" : Str)), false), ((("InvalidOrders" : Str), ("InUse" : Str)), false), ((("InvalidOrders" : Str), ("InvalidClaim" : Str)), false), ((("InvalidOrders" : Str), ("InvalidExchange" : Str)), false), ((("InvalidOrders" : Str), ("InvalidHeap" : Str)), false), ((("InvalidOrders" : Str), ("InvalidName" : Str)), false), ((("InvalidOrders" : Str), ("InvalidNumber" : Str)), false), ((("InvalidOrders" : Str), ("InvalidOrders" : Str)), true), ((("InvalidOrders" : Str), ("InvalidPlace" : Str)), false), ((("InvalidOrders" : Str), ("InvalidPlan" : Str)), false), ((("InvalidOrders" : Str), ("InvalidRows" : Str)), false), ((("InvalidOrders" : Str), ("InvalidText" : Str)), false), ((("InvalidOrders" : Str), ("InvalidThings" : Str)), false), ((("InvalidOrders" : Str), ("NotARow" : Str)), false), ((("InvalidOrders" : Str), ("NotRight" : Str)), true), ((("InvalidOrders" : Str), ("NotThere" : Str)), false), ((("InvalidOrders" : Str), ("NothingToUndo" : Str)), false), ((("InvalidOrders" : Str), ("OtherThings" : Str)), false), ((("InvalidOrders" : Str), ("TooMany" : Str)), false), ((("InvalidOrders" : Str), ("UnknownName" : Str)), false), ((("InvalidOrders" : Str), ("ArithmeticError" : Str)), false), ((("InvalidOrders" : Str), ("IndexError" : Str)), false), ((("InvalidOrders" : Str), ("KeyError" : Str)), false), ((("InvalidOrders" : Str), ("LookupError" : Str)), false), ((("InvalidOrders" : Str), ("ValueError" : Str)), true), ((("InvalidOrders" : Str), ("ZeroDivisionError" : Str)), false)]
def eisRInvalidPlace : List ((Str × Str) × Bool) := [((("InvalidPlace" : Str), ("Broken" : Str)), false), ((("InvalidPlace" : Str), ("CannotBe" : Str)), false), ((("InvalidPlace" : Str), ("InUse" : Str)), false), ((("InvalidPlace" : Str), ("InvalidClaim" : Str)), false), ((("InvalidPlace" : Str), ("InvalidExchange" : Str)), false), ((("InvalidPlace" : Str), ("InvalidHeap" : Str)), false), ((("InvalidPlace" : Str), ("InvalidName" : Str)), false), ((("InvalidPlace" : Str), ("InvalidNumber" : Str)), false), ((("InvalidPlace" : Str), ("InvalidOrders" : Str)), false), ((("InvalidPlace" : Str), ("InvalidPlace" : Str)), true), ((("InvalidPlace" : Str), ("InvalidPlan" : Str)), false), ((("InvalidPlace" : Str), ("InvalidRows" : Str)), false), ((("InvalidPlace" : Str), ("InvalidText" : Str)), false), ((("InvalidPlace" : Str), ("InvalidThings" : Str)), false), ((("InvalidPlace" : Str), ("NotARow" : Str)), false), ((("InvalidPlace" : Str), ("NotRight" : Str)), true), ((("InvalidPlace" : Str), ("NotThere" : Str)), false), ((("InvalidPlace" : Str), ("NothingToUndo" : Str)), false), ((("InvalidPlace" : Str), ("OtherThings" : Str)), false), ((("InvalidPlace" : Str), ("TooMany" : Str)), false), ((("InvalidPlace" : Str), ("UnknownName" : Str)), false), ((("InvalidPlace" : Str), ("ArithmeticError" : Str)), false), ((("InvalidPlace" : Str), ("IndexError" : Str)), false), ((("InvalidPlace" : Str), ("KeyError" : Str)), false), ((("InvalidPlace" : Str), ("LookupError" : Str)), false), ((("InvalidPlace" : Str), ("ValueError" : Str)), true), ((("InvalidPlace" : Str), ("ZeroDivisionError" : Str)), false)]
def eisRInvalidPlan : List ((Str × Str) × Bool) := [((("InvalidPlan" : Str), ("Broken" : Str)), false), ((("InvalidPlan" : Str), ("CannotBe" : Str)), false), ((("InvalidPlan" : Str), ("InUse" : Str)), false), ((("InvalidPlan" : Str), ("InvalidClaim" : Str)), false), ((("InvalidPlan" : Str), ("InvalidExchange" : Str)), false), ((("InvalidPlan" : Str), ("InvalidHeap" : Str)), false), ((("InvalidPlan" : Str), ("InvalidName" : Str)), false), ((("InvalidPlan" : Str), ("InvalidNumber" : Str)), false), ((("InvalidPlan" : Str), ("InvalidOrders" : Str)), false), ((("InvalidPlan" : Str), ("InvalidPlace" : Str)), false), ((("InvalidPlan" : Str), ("InvalidPlan" : Str)), true), ((("InvalidPlan" : Str), ("InvalidRows" : Str)), false), ((("InvalidPlan" : Str), ("InvalidText" : Str)), false), ((("InvalidPlan" : Str), ("InvalidThings" : Str)), false), ((("InvalidPlan" : Str), ("NotARow" : Str)), false), ((("InvalidPlan" : Str), ("NotRight" : Str)), true), ((("InvalidPlan" : Str), ("NotThere" : Str)), false), ((("InvalidPlan" : Str), ("NothingToUndo" : Str)), false), ((("InvalidPlan" : Str), ("OtherThings" : Str)), false), ((("InvalidPlan" : Str), ("TooMany" : Str)), false), ((("InvalidPlan" : Str), ("UnknownName" : Str)), false), ((("InvalidPlan" : Str), ("ArithmeticError" : Str)), false), ((("InvalidPlan" : Str), ("IndexError" : Str)), false), ((("InvalidPlan" : Str), ("KeyError" : Str)), false), ((("InvalidPlan" : Str), ("LookupError" : Str)), false), ((("InvalidPlan" : Str), ("ValueError" : Str)), true), ((("InvalidPlan" : Str), ("ZeroDivisionError" : Str)), false)]
def eisRInvalidRows : List ((Str × Str) × Bool) := [((("InvalidRows" : Str), ("Broken" : Str)), false), ((("InvalidRows" : Str), ("CannotBe" : Str)), false), ((("InvalidRows" : Str), ("InUse" : Str)), false), ((("InvalidRows" : Str), ("InvalidClaim" : Str)), false), ((("InvalidRows" : Str), ("InvalidExchange" : Str)), false), ((("InvalidRows" : Str), ("InvalidHeap" : Str)), false), ((("InvalidRows" : Str), ("InvalidName" : Str)), false), ((("InvalidRows" : Str), ("InvalidNumber" : Str)), false), ((("InvalidRows" : Str), ("InvalidOrders" : Str)), false), ((("InvalidRows" : Str), ("InvalidPlace" : Str)), false), ((("InvalidRows" : Str), ("InvalidPlan" : Str)), false), ((("InvalidRows" : Str), ("InvalidRows" : Str)), true), ((("InvalidRows" : Str), ("InvalidText" : Str)), false), ((("InvalidRows" : Str), ("InvalidThings" : Str)), false), ((("InvalidRows" : Str), ("NotARow" : Str)), false), ((("InvalidRows" : Str), ("NotRight" : Str)), true), ((("InvalidRows" : Str), ("NotThere" : Str)), false), ((("InvalidRows" : Str), ("NothingToUndo" : Str)), false), ((("InvalidRows" : Str), ("OtherThings" : Str)), false), ((("InvalidRows" : Str), ("TooMany" : Str)), false), ((("InvalidRows" : Str), ("UnknownName" : Str)), false), ((("InvalidRows" : Str), ("ArithmeticError" : Str)), false), ((("InvalidRows" : Str), ("IndexError" : Str)), false), ((("InvalidRows" : Str), ("KeyError" : Str)), false), ((("InvalidRows" : Str), ("LookupError" : Str)), false), ((("InvalidRows" : Str), ("ValueError" : Str)), true), ((("InvalidRows" : Str), ("ZeroDivisionError" : Str)), false)]
def eisRInvalidText : List ((Str × Str) × Bool) := [((("InvalidText" : Str), ("Broken" : Str)), false), ((("InvalidText" : Str), ("CannotBe" : Str)), false), ((("InvalidText" : Str), ("InUse" : Str)), false), ((("InvalidText" : Str), ("InvalidClaim" : Str)), false), ((("InvalidText" : Str), ("InvalidExchange" : Str)), false), ((("InvalidText" : Str), ("InvalidHeap" : Str)), false), ((("InvalidText" : Str), ("InvalidName" : Str)), false), ((("InvalidText" : Str), ("InvalidNumber" : Str)), false), ((("InvalidText" : Str), ("InvalidOrders" : Str)), false), ((("InvalidText" : Str), ("InvalidPlace" : Str)), false), ((("InvalidText" : Str), ("InvalidPlan" : Str)), false), ((("InvalidText" : Str), ("InvalidRows" : Str)), false), ((("InvalidText" : Str), ("InvalidText" : Str)), true), ((("InvalidText" : Str), ("InvalidThings" : Str)), false), ((("InvalidText" : Str), ("NotARow" : Str)), false), ((("InvalidText" : Str), ("NotRight" : Str)), true), ((("InvalidText" : Str), ("NotThere" : Str)), false), ((("InvalidText" : Str), ("NothingToUndo" : Str)), false), ((("InvalidText" : Str), ("OtherThings" : Str)), false), ((("InvalidText" : Str), ("TooMany" : Str)), false), ((("InvalidText" : Str), ("UnknownName" : Str)), false), ((("InvalidText" : Str), ("ArithmeticError" : Str)), false), ((("InvalidText" : Str), ("IndexError" : Str)), false), ((("InvalidText" : Str), ("KeyError" : Str)), false), ((("InvalidText" : Str), ("LookupError" : Str)), false), ((("InvalidText" : Str), ("ValueError" : Str)), true), ((("InvalidText" : Str), ("ZeroDivisionError" : Str)), false)]
def eisRInvalidThings : List ((Str × Str) × Bool) := [((("InvalidThings" : Str), ("Broken" : Str)), false), ((("InvalidThings" : Str), ("CannotBe" : Str)), false), ((("InvalidThings" : Str), ("InUse" : Str)), false), ((("InvalidThings" : Str), ("InvalidClaim" : Str)), false), ((("InvalidThings" : Str), ("InvalidExchange" : Str)), false), ((("InvalidThings" : Str), ("InvalidHeap" : Str)), false), ((("InvalidThings" : Str), ("InvalidName" : Str)), false), ((("InvalidThings" : Str), ("InvalidNumber" : Str)), false), ((("InvalidThings" : Str), ("InvalidOrders" : Str)), false), ((("InvalidThings" : Str), ("InvalidPlace" : Str)), false), ((("InvalidThings" : Str), ("InvalidPlan" : Str)), false), ((("InvalidThings" : Str), ("InvalidRows" : Str)), false), ((("InvalidThings" : Str), ("InvalidText" : Str)), false), ((("InvalidThings" : Str), ("InvalidThings" : Str)), true), ((("InvalidThings" : Str), ("NotARow" : Str)), false), ((("InvalidThings" : Str), ("NotRight" : Str)), true), ((("InvalidThings" : Str), ("NotThere" : Str)), false), ((("InvalidThings" : Str), ("NothingToUndo" : Str)), false), ((("InvalidThings" : Str), ("OtherThings" : Str)), false), ((("InvalidThings" : Str), ("TooMany" : Str)), false), ((("InvalidThings" : Str), ("UnknownName" : Str)), false), ((("InvalidThings" : Str), ("ArithmeticError" : Str)), false), ((("InvalidThings" : Str), ("IndexError" : Str)), false), ((("InvalidThings" : Str), ("KeyError" : Str)), false), ((("InvalidThings" : Str), ("LookupError" : Str)), false), ((("InvalidThings" : Str), ("ValueError" : Str)), true), ((("InvalidThings" : Str), ("ZeroDivisionError" : Str)), false)]
def eisRNotARow : List ((Str × Str) × Bool) := [((("NotARow" : Str), ("Broken" : Str)), false), ((("NotARow" : Str), ("CannotBe" : Str)), false), ((("NotARow" : Str), ("InUse" : Str)), false), ((("NotARow" : Str), ("InvalidClaim" : Str)), false), ((("NotARow" : Str), ("InvalidExchange" : Str)), false), ((("NotARow" : Str), ("InvalidHeap" : Str)), false), ((("NotARow" : Str), ("InvalidName" : Str)), false), ((("NotARow" : Str), ("InvalidNumber" : Str)), false), ((("NotARow" : Str), ("InvalidOrders" : Str)), false), ((("NotARow" : Str), ("InvalidPlace" : Str)), false), ((("NotARow" : Str), ("InvalidPlan" : Str)), false), ((("NotARow" : Str), ("InvalidRows" : Str)), false), ((("NotARow" : Str), ("InvalidText" : Str)), false), ((("NotARow" : Str), ("InvalidThings" : Str)), false), ((("NotARow" : Str), ("NotARow" : Str)), true), ((("NotARow" : Str), ("NotRight" : Str)), true), ((("NotARow" : Str), ("NotThere" : Str)), false), ((("NotARow" : Str), ("NothingToUndo" : Str)), false), ((("NotARow" : Str), ("OtherThings" : Str)), false), ((("NotARow" : Str), ("TooMany" : Str)), false), ((("NotARow" : Str), ("UnknownName" : Str)), false), ((("NotARow" : Str), ("ArithmeticError" : Str)), false), ((("NotARow" : Str), ("IndexError" : Str)), false), ((("NotARow" : Str), ("KeyError" : Str)), false), ((("NotARow" : Str), ("LookupError" : Str)), false), ((("NotARow" : Str), ("ValueError" : Str)), true), ((("NotARow" : Str), ("ZeroDivisionError" : Str)), false)]
def eisRNothingToUndo : List ((Str × Str) × Bool) := [((("NothingToUndo" : Str), ("Broken" : Str)), false), ((("NothingToUndo" : Str), ("CannotBe" : Str)), true), ((("NothingToUndo" : Str), ("InUse" : Str)), false), ((("NothingToUndo" : Str), ("InvalidClaim" : Str)), false), ((("NothingToUndo" : Str), ("InvalidExchange" : Str)), false), ((("NothingToUndo" : Str), ("InvalidHeap" : Str)), false), ((("NothingToUndo" : Str), ("InvalidName" : Str)), false), ((("NothingToUndo" : Str), ("InvalidNumber" : Str)), false), ((("NothingToUndo" : Str), ("InvalidOrders" : Str)), false), ((("NothingToUndo" : Str), ("InvalidPlace" : Str)), false), ((("NothingToUndo" : Str), ("InvalidPlan" : Str)), false), ((("NothingToUndo" : Str), ("InvalidRows" : Str)), false), ((("NothingToUndo" : Str), ("InvalidText" : Str)), false), ((("NothingToUndo" : Str), ("InvalidThings" : Str)), false), ((("NothingToUndo" : Str), ("NotARow" : Str)), false), ((("NothingToUndo" : Str), ("NotRight" : Str)), false), ((("NothingToUndo" : Str), ("NotThere" : Str)), false), ((("NothingToUndo" : Str), ("NothingToUndo" : Str)), true), ((("NothingToUndo" : Str), ("OtherThings" : Str)), false), ((("NothingToUndo" : Str), ("TooMany" : Str)), false), ((("NothingToUndo" : Str), ("UnknownName" : Str)), false), ((("NothingToUndo" : Str), ("ArithmeticError" : Str)), true), ((("NothingToUndo" : Str), ("IndexError" : Str)), false), ((("NothingToUndo" : Str), ("KeyError" : Str)), false), ((("NothingToUndo" : Str), ("LookupError" : Str)), false), ((("NothingToUndo" : Str), ("ValueError" : Str)), false), ((("NothingToUndo" : Str), ("ZeroDivisionError" : Str)), false)]
def eisROtherThings : List ((Str × Str) × Bool) := [((("OtherThings" : Str), ("Broken" : Str)), false), ((("OtherThings" : Str), ("CannotBe" : Str)), true), ((("OtherThings" : Str), ("InUse" : Str)), false), ((("OtherThings" : Str), ("InvalidClaim" : Str)), false), ((("OtherThings" : Str), ("InvalidExchange" : Str)), false), ((("OtherThings" : Str), ("InvalidHeap" : Str)), false), ((("OtherThings" : Str), ("InvalidName" : Str)), false), ((("OtherThings" : Str), ("InvalidNumber" : Str)), false), ((("OtherThings" : Str), ("InvalidOrders" : Str)), false), ((("OtherThings" : Str), ("InvalidPlace" : Str)), false), ((("OtherThings" : Str), ("InvalidPlan" : Str)), false), ((("OtherThings" : Str), ("InvalidRows" : Str)), false), ((("OtherThings" : Str), ("InvalidText" : Str)), false), ((("OtherThings" : Str), ("InvalidThings" : Str)), false), ((("OtherThings" : Str), ("NotARow" : Str)), false), ((("OtherThings" : Str), ("NotRight" : Str)), false), ((("OtherThings" : Str), ("NotThere" : Str)), false), ((("OtherThings" : Str), ("NothingToUndo" : Str)), false), ((("OtherThings" : Str), ("OtherThings" : Str)), true), ((("OtherThings" : Str), ("TooMany" : Str)), false), ((("OtherThings" : Str), ("UnknownName" : Str)), false), ((("OtherThings" : Str), ("ArithmeticError" : Str)), true), ((("OtherThings" : Str), ("IndexError" : Str)), false), ((("OtherThings" : Str), ("KeyError" : Str)), false), ((("OtherThings" : Str), ("LookupError" : Str)), false), ((("OtherThings" : Str), ("ValueError" : Str)), false), ((("OtherThings" : Str), ("ZeroDivisionError" : Str)), false)]
def eisRTooMany : List ((Str × Str) × Bool) := [((("TooMany" : Str), ("Broken" : Str)), false), ((("TooMany" : Str), ("CannotBe" : Str)), true), ((("TooMany" : Str), ("InUse" : Str)), false), ((("TooMany" : Str), ("InvalidClaim" : Str)), false), ((("TooMany" : Str), ("InvalidExchange" : Str)), false), ((("TooMany" : Str), ("InvalidHeap" : Str)), false), ((("TooMany" : Str), ("InvalidName" : Str)), false), ((("TooMany" : Str), ("InvalidNumber" : Str)), false), ((("TooMany" : Str), ("InvalidOrders" : Str)), false), ((("TooMany" : Str), ("InvalidPlace" : Str)), false), ((("TooMany" : Str), ("InvalidPlan" : Str)), false), ((("TooMany" : Str), ("InvalidRows" : Str)), false), ((("TooMany" : Str), ("InvalidText" : Str)), false), ((("TooMany" : Str), ("InvalidThings" : Str)), false), ((("TooMany" : Str), ("NotARow" : Str)), false), ((("TooMany" : Str), ("NotRight" : Str)), false), ((("TooMany" : Str), ("NotThere" : Str)), false), ((("TooMany" : Str), ("NothingToUndo" : Str)), false), ((("TooMany" : Str), ("OtherThings" : Str)), false), ((("TooMany" : Str), ("TooMany" : Str)), true), ((("TooMany" : Str), ("UnknownName" : Str)), false), ((("TooMany" : Str), ("ArithmeticError" : Str)), true), ((("TooMany" : Str), ("IndexError" : Str)), false), ((("TooMany" : Str), ("KeyError" : Str)), false), ((("TooMany" : Str), ("LookupError" : Str)), false), ((("TooMany" : Str), ("ValueError" : Str)), false), ((("TooMany" : Str), ("ZeroDivisionError" : Str)), false)]
def eisRUnknownName : List ((Str × Str) × Bool) := [((("UnknownName" : Str), ("Broken" : Str)), false), ((("UnknownName" : Str), ("CannotBe" : Str)), false), ((("UnknownName" : Str), ("InUse" : Str)), false), ((("UnknownName" : Str), ("InvalidClaim" : Str)), false), ((("UnknownName" : Str), ("InvalidExchange" : Str)), false), ((("UnknownName" : Str), ("InvalidHeap" : Str)), false), ((("UnknownName" : Str), ("InvalidName" : Str)), false), ((("UnknownName" : Str), ("InvalidNumber" : Str)), false), ((("UnknownName" : Str), ("InvalidOrders" : Str)), false), ((("UnknownName" : Str), ("InvalidPlace" : Str)), false), ((("UnknownName" : Str), ("InvalidPlan" : Str)), false), ((("UnknownName" : Str), ("InvalidRows" : Str)), false), ((("UnknownName" : Str), ("InvalidText" : Str)), false), ((("UnknownName" : Str), ("InvalidThings" : Str)), false), ((("UnknownName" : Str), ("NotARow" : Str)), false), ((("UnknownName" : Str), ("NotRight" : Str)), false), ((("UnknownName" : Str), ("NotThere" : Str)), true), ((("UnknownName" : Str), ("NothingToUndo" : Str)), false), ((("UnknownName" : Str), ("OtherThings" : Str)), false), ((("UnknownName" : Str), ("TooMany" : Str)), false), ((("UnknownName" : Str), ("UnknownName" : Str)), true), ((("UnknownName" : Str), ("ArithmeticError" : Str)), false), ((("UnknownName" : Str), ("IndexError" : Str)), false), ((("UnknownName" : Str), ("KeyError" : Str)), false), ((("UnknownName" : Str), ("LookupError" : Str)), true), ((("UnknownName" : Str), ("ValueError" : Str)), false), ((("UnknownName" : Str), ("ZeroDivisionError" : Str)), false)]
def eisL : List ((Str × Str) × Bool) := eisRBroken ++ (eisRInUse ++ (eisRInvalidClaim ++ (eisRInvalidExchange ++ (eisRInvalidHeap ++ (eisRInvalidName ++ (eisRInvalidNumber ++ (eisRInvalidOrders ++ (eisRInvalidPlace ++ (eisRInvalidPlan ++ (eisRInvalidRows ++ (eisRInvalidText ++ (eisRInvalidThings ++ (eisRNotARow ++ (eisRNothingToUndo ++ (eisROtherThings ++ (eisRTooMany ++ (eisRUnknownName)))))))))))))))))
def eisT : Str → Str → Option Bool := fun c d => eisL.lookup (c, d)
section
variable [Wd] [Fb]
def top (i : Nat) : Stmt := PySem.Challenge.pw_twostretches_k01_limits_and_errors.main.body.getD i (.Pass ⟨0, 0, 0, 0⟩)
abbrev s_law_given : Stmt := top 32
abbrev N_law_given : List Str := ["_law_thing", "_law_found", "_law_named"]
theorem S_law_given : ScOk N_law_given [0, 1, 2] ["InvalidText", "InvalidExchange", "InvalidNumber", "InvalidName", "InvalidClaim", "InvalidPlace", "NotARow", "InvalidThings", "InvalidHeap", "InvalidPlan", "InvalidRows", "InvalidOrders", "UnknownName", "InUse", "OtherThings", "TooMany", "NothingToUndo", "Broken"] (defScope s_law_given) := scOk_of (by decide +kernel)
theorem L_law_given : StOk N_law_given [0, 1, 2] (defScope s_law_given) (fun _ => true) := stOk_of (by decide +kernel)
theorem F_law_given : FnScope N_law_given ["_law_thing"] (defScope s_law_given) := ⟨by decide +kernel, by decide +kernel, by decide +kernel, by decide +kernel, by decide +kernel, by decide +kernel, by decide +kernel⟩
abbrev s_law_sorts : Stmt := top 29
abbrev N_law_sorts : List Str := ["_law_e", "_law_found"]
theorem S_law_sorts : ScOk N_law_sorts [0, 1] ["isinstance", "InvalidText", "InvalidExchange", "InvalidNumber", "InvalidName", "InvalidClaim", "InvalidPlace", "NotARow", "InvalidThings", "InvalidHeap", "InvalidPlan", "InvalidRows", "InvalidOrders", "UnknownName", "InUse", "OtherThings", "TooMany", "NothingToUndo", "Broken"] (defScope s_law_sorts) := scOk_of (by decide +kernel)
theorem L_law_sorts : StOk N_law_sorts [0, 1] (defScope s_law_sorts) (fun _ => true) := stOk_of (by decide +kernel)
theorem F_law_sorts : FnScope N_law_sorts ["_law_e"] (defScope s_law_sorts) := ⟨by decide +kernel, by decide +kernel, by decide +kernel, by decide +kernel, by decide +kernel, by decide +kernel, by decide +kernel⟩
abbrev s_law_bases : Stmt := top 30
abbrev N_law_bases : List Str := ["_law_e", "_law_found"]
theorem S_law_bases : ScOk N_law_bases [0, 1] ["isinstance", "NotRight", "NotThere", "CannotBe", "ValueError", "LookupError", "ArithmeticError", "KeyError", "IndexError", "ZeroDivisionError"] (defScope s_law_bases) := scOk_of (by decide +kernel)
theorem L_law_bases : StOk N_law_bases [0, 1] (defScope s_law_bases) (fun _ => true) := stOk_of (by decide +kernel)
theorem F_law_bases : FnScope N_law_bases ["_law_e"] (defScope s_law_bases) := ⟨by decide +kernel, by decide +kernel, by decide +kernel, by decide +kernel, by decide +kernel, by decide +kernel, by decide +kernel⟩
abbrev s_law_due : Stmt := top 31
abbrev N_law_due : List Str := ["_law_k", "_law_head", "_law_middle", "_law_end"]
theorem S_law_due : ScOk N_law_due [0, 1, 2, 3] [] (defScope s_law_due) := scOk_of (by decide +kernel)
theorem L_law_due : StOk N_law_due [0, 1, 2, 3] (defScope s_law_due) (fun _ => true) := stOk_of (by decide +kernel)
theorem F_law_due : FnScope N_law_due ["_law_k"] (defScope s_law_due) := ⟨by decide +kernel, by decide +kernel, by decide +kernel, by decide +kernel, by decide +kernel, by decide +kernel, by decide +kernel⟩
abbrev s_law_kept_right : Stmt := top 33
abbrev N_law_kept_right : List Str := ["_law_found", "_law_thing", "_law_some", "_law_k", "_law_last"]
theorem S_law_kept_right : ScOk N_law_kept_right [0, 1, 2, 4] ["repr", "len"] (defScope s_law_kept_right) := scOk_of (by decide +kernel)
theorem L_law_kept_right : StOk N_law_kept_right [0, 1, 2, 4] (defScope s_law_kept_right) (fun _ => true) := stOk_of (by decide +kernel)
theorem F_law_kept_right : FnScope N_law_kept_right ["_law_found", "_law_thing"] (defScope s_law_kept_right) := ⟨by decide +kernel, by decide +kernel, by decide +kernel, by decide +kernel, by decide +kernel, by decide +kernel, by decide +kernel⟩
abbrev s_law_raised_right : Stmt := top 34
abbrev N_law_raised_right : List Str := ["_law_thing", "_law_seen", "_law_e"]
theorem S_law_raised_right : ScOk N_law_raised_right [0, 1, 2] ["InvalidText", "NotRight", "repr", "UnknownName", "NotThere", "Broken", "CannotBe"] (defScope s_law_raised_right) := scOk_of (by decide +kernel)
theorem L_law_raised_right : StOk N_law_raised_right [0, 1, 2] (defScope s_law_raised_right) (fun _ => true) := stOk_of (by decide +kernel)
theorem F_law_raised_right : FnScope N_law_raised_right ["_law_thing"] (defScope s_law_raised_right) := ⟨by decide +kernel, by decide +kernel, by decide +kernel, by decide +kernel, by decide +kernel, by decide +kernel, by decide +kernel⟩
abbrev s_law_right : Stmt := top 35
abbrev N_law_right : List Str := ["_law_thing", "_law_found", "_law_k", "_law_due_here", "_law_at"]
theorem S_law_right : ScOk N_law_right [0, 1, 2, 3] ["_law_given", "range", "len", "_law_sorts", "_law_bases", "_law_due", "_law_kept_right", "_law_raised_right"] (defScope s_law_right) := scOk_of (by decide +kernel)
theorem L_law_right : StOk N_law_right [0, 1, 2, 3] (defScope s_law_right) (fun _ => true) := stOk_of (by decide +kernel)
theorem F_law_right : FnScope N_law_right ["_law_thing"] (defScope s_law_right) := ⟨by decide +kernel, by decide +kernel, by decide +kernel, by decide +kernel, by decide +kernel, by decide +kernel, by decide +kernel⟩
abbrev s_law : Stmt := top 36
abbrev N_law : List Str := ["_law_cells", "_law_limits_here", "_law_things", "_law_cell", "_law_thing"]
theorem S_law : ScOk N_law [0, 1, 2] ["MOST_THINGS", "MOST_WALKED", "MOST_PRICED", "MOST_HEAP", "MOST_ROWS", "MOST_PLANNED"] (defScope s_law) := scOk_of (by decide +kernel)
theorem L_law : StOk N_law [0, 1, 2] (defScope s_law) (fun _ => true) := stOk_of (by decide +kernel)
theorem F_law : FnScope N_law ["_law_cells"] (defScope s_law) := ⟨by decide +kernel, by decide +kernel, by decide +kernel, by decide +kernel, by decide +kernel, by decide +kernel, by decide +kernel⟩
structure Txt (Ω : Wl) : Prop where
  t_law_given : Std Ω "_law_given" ["_law_thing"] s_law_given
  t_law_sorts : Std Ω "_law_sorts" ["_law_e"] s_law_sorts
  t_law_bases : Std Ω "_law_bases" ["_law_e"] s_law_bases
  t_law_due : Std Ω "_law_due" ["_law_k"] s_law_due
  t_law_kept_right : Std Ω "_law_kept_right" ["_law_found", "_law_thing"] s_law_kept_right
  t_law_raised_right : Std Ω "_law_raised_right" ["_law_thing"] s_law_raised_right
  t_law_right : Std Ω "_law_right" ["_law_thing"] s_law_right
  t_law : Std Ω "law" ["_law_cells"] s_law
  ek : ExK Ω exsT
  xk : XfK Ω exfT
  ei : EiK Ω eisT
  v_ArithmeticError : clsV Ω.K "ArithmeticError" = .type "ArithmeticError"
  v_Broken : ∃ C, clsV Ω.K "Broken" = .ref C ∧ Ω.mg "Broken" = some (.ref C)
  v_CannotBe : ∃ C, clsV Ω.K "CannotBe" = .ref C ∧ Ω.mg "CannotBe" = some (.ref C)
  v_InUse : ∃ C, clsV Ω.K "InUse" = .ref C ∧ Ω.mg "InUse" = some (.ref C)
  v_IndexError : clsV Ω.K "IndexError" = .type "IndexError"
  v_InvalidClaim : ∃ C, clsV Ω.K "InvalidClaim" = .ref C ∧ Ω.mg "InvalidClaim" = some (.ref C)
  v_InvalidExchange : ∃ C, clsV Ω.K "InvalidExchange" = .ref C ∧ Ω.mg "InvalidExchange" = some (.ref C)
  v_InvalidHeap : ∃ C, clsV Ω.K "InvalidHeap" = .ref C ∧ Ω.mg "InvalidHeap" = some (.ref C)
  v_InvalidName : ∃ C, clsV Ω.K "InvalidName" = .ref C ∧ Ω.mg "InvalidName" = some (.ref C)
  v_InvalidNumber : ∃ C, clsV Ω.K "InvalidNumber" = .ref C ∧ Ω.mg "InvalidNumber" = some (.ref C)
  v_InvalidOrders : ∃ C, clsV Ω.K "InvalidOrders" = .ref C ∧ Ω.mg "InvalidOrders" = some (.ref C)
  v_InvalidPlace : ∃ C, clsV Ω.K "InvalidPlace" = .ref C ∧ Ω.mg "InvalidPlace" = some (.ref C)
  v_InvalidPlan : ∃ C, clsV Ω.K "InvalidPlan" = .ref C ∧ Ω.mg "InvalidPlan" = some (.ref C)
  v_InvalidRows : ∃ C, clsV Ω.K "InvalidRows" = .ref C ∧ Ω.mg "InvalidRows" = some (.ref C)
  v_InvalidText : ∃ C, clsV Ω.K "InvalidText" = .ref C ∧ Ω.mg "InvalidText" = some (.ref C)
  v_InvalidThings : ∃ C, clsV Ω.K "InvalidThings" = .ref C ∧ Ω.mg "InvalidThings" = some (.ref C)
  v_KeyError : clsV Ω.K "KeyError" = .type "KeyError"
  v_LookupError : clsV Ω.K "LookupError" = .type "LookupError"
  v_NotARow : ∃ C, clsV Ω.K "NotARow" = .ref C ∧ Ω.mg "NotARow" = some (.ref C)
  v_NotRight : ∃ C, clsV Ω.K "NotRight" = .ref C ∧ Ω.mg "NotRight" = some (.ref C)
  v_NotThere : ∃ C, clsV Ω.K "NotThere" = .ref C ∧ Ω.mg "NotThere" = some (.ref C)
  v_NothingToUndo : ∃ C, clsV Ω.K "NothingToUndo" = .ref C ∧ Ω.mg "NothingToUndo" = some (.ref C)
  v_OtherThings : ∃ C, clsV Ω.K "OtherThings" = .ref C ∧ Ω.mg "OtherThings" = some (.ref C)
  v_TooMany : ∃ C, clsV Ω.K "TooMany" = .ref C ∧ Ω.mg "TooMany" = some (.ref C)
  v_UnknownName : ∃ C, clsV Ω.K "UnknownName" = .ref C ∧ Ω.mg "UnknownName" = some (.ref C)
  v_ValueError : clsV Ω.K "ValueError" = .type "ValueError"
  v_ZeroDivisionError : clsV Ω.K "ZeroDivisionError" = .type "ZeroDivisionError"
  g_CannotBe : Ω.mg "CannotBe" = some (clsV Ω.K "CannotBe")
  g_NotRight : Ω.mg "NotRight" = some (clsV Ω.K "NotRight")
  g_NotThere : Ω.mg "NotThere" = some (clsV Ω.K "NotThere")
  x_Broken : Xk2 Ω "Broken" "index" "shown" "index" "shown"
  x_InUse : Xk1 Ω "InUse" "index" "index"
  x_InvalidClaim : Xk1 Ω "InvalidClaim" "given" "given"
  x_InvalidExchange : Xk1 Ω "InvalidExchange" "given" "given"
  x_InvalidHeap : Xk1 Ω "InvalidHeap" "index" "index"
  x_InvalidName : Xk1 Ω "InvalidName" "given" "given"
  x_InvalidNumber : Xk1 Ω "InvalidNumber" "given" "given"
  x_InvalidOrders : Xk1 Ω "InvalidOrders" "index" "index"
  x_InvalidPlace : Xk1 Ω "InvalidPlace" "given" "given"
  x_InvalidPlan : Xk1 Ω "InvalidPlan" "index" "index"
  x_InvalidRows : Xk1 Ω "InvalidRows" "index" "index"
  x_InvalidText : Xk1 Ω "InvalidText" "given" "given"
  x_InvalidThings : Xk1 Ω "InvalidThings" "index" "index"
  x_NotARow : Xk1 Ω "NotARow" "given" "given"
  x_NothingToUndo : Xc0 Ω "NothingToUndo"
  x_OtherThings : Xc0 Ω "OtherThings"
  x_TooMany : Xk1 Ω "TooMany" "most" "most"
  x_UnknownName : Xk1 Ω "UnknownName" "given" "given"
  z_ArithmeticError : Ω.mg "ArithmeticError" = none
  z_IndexError : Ω.mg "IndexError" = none
  z_KeyError : Ω.mg "KeyError" = none
  z_LookupError : Ω.mg "LookupError" = none
  z_ValueError : Ω.mg "ValueError" = none
  z_ZeroDivisionError : Ω.mg "ZeroDivisionError" = none
  z_int : Ω.mg "int" = none
  z_isinstance : Ω.mg "isinstance" = none
  z_len : Ω.mg "len" = none
  z_range : Ω.mg "range" = none
  z_repr : Ω.mg "repr" = none
  c_MOST_THINGS : Ini Ω "MOST_THINGS" (.int 40)
  c_MOST_WALKED : Ini Ω "MOST_WALKED" (.int 7)
  c_MOST_PRICED : Ini Ω "MOST_PRICED" (.int 6)
  c_MOST_HEAP : Ini Ω "MOST_HEAP" (.int 8)
  c_MOST_ROWS : Ini Ω "MOST_ROWS" (.int 4)
  c_MOST_PLANNED : Ini Ω "MOST_PLANNED" (.int 8)
variable {P : Program} {K : PySem.W.Frag} {mg : Str → Option Value} {base : Heap}
/-- the classes of errors, in the order of the document -/
def nm18 : List Str := ["InvalidText", "InvalidExchange", "InvalidNumber", "InvalidName", "InvalidClaim", "InvalidPlace", "NotARow", "InvalidThings", "InvalidHeap", "InvalidPlan", "InvalidRows", "InvalidOrders", "UnknownName", "InUse", "OtherThings", "TooMany", "NothingToUndo", "Broken"]
def fl18 : List (List Str) := [["given"], ["given"], ["given"], ["given"], ["given"], ["given"], ["given"], ["index"], ["index"], ["index"], ["index"], ["index"], ["given"], ["index"], [], ["most"], [], ["index", "shown"]]
def vs18 (v : D) (k : Nat) : List D := if k = 14 ∨ k = 16 then [] else if k = 17 then [v, .int 7] else [v]
/-- the error with an index -/
def exc18 (v : D) (k : Nat) : D := .exc (nm18.getD k "") (fl18.getD k []) (vs18 v k)
def sort18 (k : Nat) : List D := (List.range 18).map fun j => .bl (decide (j = k))
def base18 (k : Nat) : List D := [.bl (decide (k < 12)), .bl (decide (12 ≤ k ∧ k < 14)), .bl (decide (14 ≤ k)), .bl (decide (k < 12)), .bl (decide (12 ≤ k ∧ k < 14)), .bl (decide (14 ≤ k)), .bl false, .bl false, .bl false]
def bas9 : List Str := ["NotRight", "NotThere", "CannotBe", "ValueError", "LookupError", "ArithmeticError", "KeyError", "IndexError", "ZeroDivisionError"]
/-- a value that is kept -/
structure KpV (v : D) : Prop where
  ok : okN 40 v
  ft : fitsD 50 v = true
  bk : bulkD v ≤ 10
  no : ∀ a, v ≠ .ref a
theorem KpV.sh {v : D} (K : KpV v) : ShD v := ⟨okN_mono K.ok (by decide), showB_of 50 (by decide) K.ft (by have := K.bk; omega), K.no⟩
def all18 (v : D) : D := .lst ((List.range 18).map (exc18 v))
def sp_law_given : DSp := fun ds M Q _ => match ds with
  | [v] => Q (.lst [all18 v, all18 v]) M
  | _ => False

def d_law_given : DS :=
  (dSeq (dSet 1 (dLst (dCons (dExc "InvalidText" ["given"] (dCons (dVar 0) dNil)) (dCons (dExc "InvalidExchange" ["given"] (dCons (dVar 0) dNil)) (dCons (dExc "InvalidNumber" ["given"] (dCons (dVar 0) dNil)) (dCons (dExc "InvalidName" ["given"] (dCons (dVar 0) dNil)) dNil))))))
    (dSeq (dSet 1 (dOp addOp (dVar 1) (dLst (dCons (dExc "InvalidClaim" ["given"] (dCons (dVar 0) dNil)) (dCons (dExc "InvalidPlace" ["given"] (dCons (dVar 0) dNil)) (dCons (dExc "NotARow" ["given"] (dCons (dVar 0) dNil)) (dCons (dExc "InvalidThings" ["index"] (dCons (dVar 0) dNil)) dNil)))))))
    (dSeq (dSet 1 (dOp addOp (dVar 1) (dLst (dCons (dExc "InvalidHeap" ["index"] (dCons (dVar 0) dNil)) (dCons (dExc "InvalidPlan" ["index"] (dCons (dVar 0) dNil)) (dCons (dExc "InvalidRows" ["index"] (dCons (dVar 0) dNil)) (dCons (dExc "InvalidOrders" ["index"] (dCons (dVar 0) dNil)) dNil)))))))
    (dSeq (dSet 1 (dOp addOp (dVar 1) (dLst (dCons (dExc "UnknownName" ["given"] (dCons (dVar 0) dNil)) (dCons (dExc "InUse" ["index"] (dCons (dVar 0) dNil)) (dCons (dExc0 "OtherThings") (dCons (dExc "TooMany" ["most"] (dCons (dVar 0) dNil)) (dCons (dExc0 "NothingToUndo") dNil))))))))
    (dSeq (dSet 1 (dOp addOp (dVar 1) (dLst (dCons (dExc "Broken" ["index", "shown"] (dCons (dVar 0) (dCons (dC (.int 7)) dNil))) dNil))))
    (dSeq (dSet 2 (dLst (dCons (dExc "InvalidText" ["given"] (dCons (dVar 0) dNil)) (dCons (dExc "InvalidExchange" ["given"] (dCons (dVar 0) dNil)) (dCons (dExc "InvalidNumber" ["given"] (dCons (dVar 0) dNil)) dNil)))))
    (dSeq (dSet 2 (dOp addOp (dVar 2) (dLst (dCons (dExc "InvalidName" ["given"] (dCons (dVar 0) dNil)) (dCons (dExc "InvalidClaim" ["given"] (dCons (dVar 0) dNil)) (dCons (dExc "InvalidPlace" ["given"] (dCons (dVar 0) dNil)) dNil))))))
    (dSeq (dSet 2 (dOp addOp (dVar 2) (dLst (dCons (dExc "NotARow" ["given"] (dCons (dVar 0) dNil)) (dCons (dExc "InvalidThings" ["index"] (dCons (dVar 0) dNil)) (dCons (dExc "InvalidHeap" ["index"] (dCons (dVar 0) dNil)) dNil))))))
    (dSeq (dSet 2 (dOp addOp (dVar 2) (dLst (dCons (dExc "InvalidPlan" ["index"] (dCons (dVar 0) dNil)) (dCons (dExc "InvalidRows" ["index"] (dCons (dVar 0) dNil)) (dCons (dExc "InvalidOrders" ["index"] (dCons (dVar 0) dNil)) dNil))))))
    (dSeq (dSet 2 (dOp addOp (dVar 2) (dLst (dCons (dExc "UnknownName" ["given"] (dCons (dVar 0) dNil)) (dCons (dExc "InUse" ["index"] (dCons (dVar 0) dNil)) (dCons (dExc0 "OtherThings") (dCons (dExc "TooMany" ["most"] (dCons (dVar 0) dNil)) dNil)))))))
    (dSeq (dSet 2 (dOp addOp (dVar 2) (dLst (dCons (dExc0 "NothingToUndo") (dCons (dExcR "Broken" ["index", "shown"] (dCons (dC (.int 7)) (dCons (dVar 0) dNil))) dNil)))))
    (dRet (dLst (dCons (dVar 1) (dCons (dVar 2) dNil)))))))))))))))
theorem st_law_given (v0 : D) : dstart N_law_given [v0] = [some v0, none, none] := rfl
theorem r_law_given (T : Txt ⟨P, Wd.w, K, mg, base⟩) : DPSs ⟨P, Wd.w, K, mg, base⟩ (Sx.fn N_law_given (defScope s_law_given) 0) (defBody s_law_given) d_law_given :=
  (dpss_cons (dps_set L_law_given 1 (dp_lst (dpa_cons (dp_exc1 T.x_InvalidText.c S_law_given (dpa_cons (dp_var S_law_given 0) dpa_nil)) (by exact (dpa_cons (dp_exc1 T.x_InvalidExchange.c S_law_given (dpa_cons (dp_var S_law_given 0) dpa_nil)) (by exact (dpa_cons (dp_exc1 T.x_InvalidNumber.c S_law_given (dpa_cons (dp_var S_law_given 0) dpa_nil)) (by exact (dpa_cons (dp_exc1 T.x_InvalidName.c S_law_given (dpa_cons (dp_var S_law_given 0) dpa_nil)) dpa_nil)))))))))
    (by exact (dpss_cons (dps_set L_law_given 1 (dp_bin (fun _ ft => opD_add ft) (dp_var S_law_given 1) (dp_lst (dpa_cons (dp_exc1 T.x_InvalidClaim.c S_law_given (dpa_cons (dp_var S_law_given 0) dpa_nil)) (by exact (dpa_cons (dp_exc1 T.x_InvalidPlace.c S_law_given (dpa_cons (dp_var S_law_given 0) dpa_nil)) (by exact (dpa_cons (dp_exc1 T.x_NotARow.c S_law_given (dpa_cons (dp_var S_law_given 0) dpa_nil)) (by exact (dpa_cons (dp_exc1 T.x_InvalidThings.c S_law_given (dpa_cons (dp_var S_law_given 0) dpa_nil)) dpa_nil))))))))))
    (by exact (dpss_cons (dps_set L_law_given 1 (dp_bin (fun _ ft => opD_add ft) (dp_var S_law_given 1) (dp_lst (dpa_cons (dp_exc1 T.x_InvalidHeap.c S_law_given (dpa_cons (dp_var S_law_given 0) dpa_nil)) (by exact (dpa_cons (dp_exc1 T.x_InvalidPlan.c S_law_given (dpa_cons (dp_var S_law_given 0) dpa_nil)) (by exact (dpa_cons (dp_exc1 T.x_InvalidRows.c S_law_given (dpa_cons (dp_var S_law_given 0) dpa_nil)) (by exact (dpa_cons (dp_exc1 T.x_InvalidOrders.c S_law_given (dpa_cons (dp_var S_law_given 0) dpa_nil)) dpa_nil))))))))))
    (by exact (dpss_cons (dps_set L_law_given 1 (dp_bin (fun _ ft => opD_add ft) (dp_var S_law_given 1) (dp_lst (dpa_cons (dp_exc1 T.x_UnknownName.c S_law_given (dpa_cons (dp_var S_law_given 0) dpa_nil)) (by exact (dpa_cons (dp_exc1 T.x_InUse.c S_law_given (dpa_cons (dp_var S_law_given 0) dpa_nil)) (by exact (dpa_cons (dp_exc0 T.x_OtherThings S_law_given) (by exact (dpa_cons (dp_exc1 T.x_TooMany.c S_law_given (dpa_cons (dp_var S_law_given 0) dpa_nil)) (by exact (dpa_cons (dp_exc0 T.x_NothingToUndo S_law_given) dpa_nil))))))))))))
    (by exact (dpss_cons (dps_set L_law_given 1 (dp_bin (fun _ ft => opD_add ft) (dp_var S_law_given 1) (dp_lst (dpa_cons (dp_exc2 T.x_Broken.c S_law_given (dpa_cons (dp_var S_law_given 0) (by exact (dpa_cons dp_int dpa_nil)))) dpa_nil))))
    (by exact (dpss_cons (dps_set L_law_given 2 (dp_lst (dpa_cons (dp_exc1K T.x_InvalidText S_law_given (dpk_cons (dp_var S_law_given 0) dpk_nil)) (by exact (dpa_cons (dp_exc1K T.x_InvalidExchange S_law_given (dpk_cons (dp_var S_law_given 0) dpk_nil)) (by exact (dpa_cons (dp_exc1K T.x_InvalidNumber S_law_given (dpk_cons (dp_var S_law_given 0) dpk_nil)) dpa_nil)))))))
    (by exact (dpss_cons (dps_set L_law_given 2 (dp_bin (fun _ ft => opD_add ft) (dp_var S_law_given 2) (dp_lst (dpa_cons (dp_exc1K T.x_InvalidName S_law_given (dpk_cons (dp_var S_law_given 0) dpk_nil)) (by exact (dpa_cons (dp_exc1K T.x_InvalidClaim S_law_given (dpk_cons (dp_var S_law_given 0) dpk_nil)) (by exact (dpa_cons (dp_exc1K T.x_InvalidPlace S_law_given (dpk_cons (dp_var S_law_given 0) dpk_nil)) dpa_nil))))))))
    (by exact (dpss_cons (dps_set L_law_given 2 (dp_bin (fun _ ft => opD_add ft) (dp_var S_law_given 2) (dp_lst (dpa_cons (dp_exc1K T.x_NotARow S_law_given (dpk_cons (dp_var S_law_given 0) dpk_nil)) (by exact (dpa_cons (dp_exc1K T.x_InvalidThings S_law_given (dpk_cons (dp_var S_law_given 0) dpk_nil)) (by exact (dpa_cons (dp_exc1K T.x_InvalidHeap S_law_given (dpk_cons (dp_var S_law_given 0) dpk_nil)) dpa_nil))))))))
    (by exact (dpss_cons (dps_set L_law_given 2 (dp_bin (fun _ ft => opD_add ft) (dp_var S_law_given 2) (dp_lst (dpa_cons (dp_exc1K T.x_InvalidPlan S_law_given (dpk_cons (dp_var S_law_given 0) dpk_nil)) (by exact (dpa_cons (dp_exc1K T.x_InvalidRows S_law_given (dpk_cons (dp_var S_law_given 0) dpk_nil)) (by exact (dpa_cons (dp_exc1K T.x_InvalidOrders S_law_given (dpk_cons (dp_var S_law_given 0) dpk_nil)) dpa_nil))))))))
    (by exact (dpss_cons (dps_set L_law_given 2 (dp_bin (fun _ ft => opD_add ft) (dp_var S_law_given 2) (dp_lst (dpa_cons (dp_exc1K T.x_UnknownName S_law_given (dpk_cons (dp_var S_law_given 0) dpk_nil)) (by exact (dpa_cons (dp_exc1K T.x_InUse S_law_given (dpk_cons (dp_var S_law_given 0) dpk_nil)) (by exact (dpa_cons (dp_exc0 T.x_OtherThings S_law_given) (by exact (dpa_cons (dp_exc1K T.x_TooMany S_law_given (dpk_cons (dp_var S_law_given 0) dpk_nil)) dpa_nil))))))))))
    (by exact (dpss_cons (dps_set L_law_given 2 (dp_bin (fun _ ft => opD_add ft) (dp_var S_law_given 2) (dp_lst (dpa_cons (dp_exc0 T.x_NothingToUndo S_law_given) (by exact (dpa_cons (dp_exc2R T.x_Broken S_law_given (dpk_cons dp_int (dpk_cons (dp_var S_law_given 0) dpk_nil))) dpa_nil))))))
    (by exact (dpss_one (dps_ret (dp_lst (dpa_cons (dp_var S_law_given 1) (by exact (dpa_cons (dp_var S_law_given 2) dpa_nil))))))))))))))))))))))))))))
theorem pl_law_given (ds : List D) (M : MH) (Q : DQ) (E : Er → MH → Prop) (hl : ds.length = 1) (h : sp_law_given ds M Q E) : d_law_given (ends Q) (fun er _ M => E er M) (dstart N_law_given ds) M := by
  unfold sp_law_given at h
  split at h
  case h_2 => exact h.elim
  rename_i v
  rw [st_law_given]
  have e : (List.range 18).map (exc18 v) = [.exc "InvalidText" ["given"] [v], .exc "InvalidExchange" ["given"] [v], .exc "InvalidNumber" ["given"] [v], .exc "InvalidName" ["given"] [v], .exc "InvalidClaim" ["given"] [v], .exc "InvalidPlace" ["given"] [v], .exc "NotARow" ["given"] [v], .exc "InvalidThings" ["index"] [v], .exc "InvalidHeap" ["index"] [v], .exc "InvalidPlan" ["index"] [v], .exc "InvalidRows" ["index"] [v], .exc "InvalidOrders" ["index"] [v], .exc "UnknownName" ["given"] [v], .exc "InUse" ["index"] [v], .exc "OtherThings" [] [], .exc "TooMany" ["most"] [v], .exc "NothingToUndo" [] [], .exc "Broken" ["index", "shown"] [v, .int 7]] := rfl
  unfold all18 at h
  rw [e] at h
  simp only [d_law_given, dExc, dExcR, dExc0, srtTI, dCallV, eqNil, dForR, dgFld, srtDO, pairs_inj, dMinDef, minDefO, dFzV, dLc2, dListZip, rows_inj, dTupleRg2, dDt1, dinT, tgetOp, tsPut, tkeyD_nats, dtO_inj, dtO_ne, dtO_ne2, dDk1, dicPO, dicPT, lenTO, tkeyD_strs, eqOwnL, eqPairs, eqOne, dJoin, dMk, dstart, ends, dVar, dC, dOp, i2, ltO, leO, gtO, geO, subO, dTest, dAnd, dOr, dNot, asV, dAndV, dOrV, dNotV, dIf, dNil, dCons, dStar, dTup, dLst, dNew, seqD, lstD, datD, eqOp, neOp, addOp, mulOp, mulM, addM, divOp, modOp, powOp, isOp, isntOp, dNext, dSeq, dDrop, dRet, dRetN, dIfS, dBreak, dCont, dNever, dFrz, dgName, dgNil, dgCons, dgTup, dgSub, dAsg, dSet, dPar, dAugI, dSeqI, dRng1, dRng2, dEnum, dFor, dLast, dLink, dCh, dYes, dLc, dCall, dCall0, dFld, dMeth, dMeth0, dFrzO, frzO, dCB, ob1, ob2, oI, ii2, lenO, intO, sumO, intsO, blsO, strsO, reprO, absO, maxO, minO, dmO, tupO, lstO, lstMO, maxLO, minLO, anyO, allO, strIO, srtSO, srtO, srtIO, numsD_lst, numsD_tup, nats_inj, nats_len, stepD_inj, nc0, nc1, nc2, nc3, nc4, nc5, nc6, nc7, nc8, nc9, nc10, nc11, nc12, nc13, nc14, nc15, nc16, nc17, nc18, nc19, nc20, appendM, popM, extendM, insertM, indexM, indexTM, updateM, dBMT, dBMT.tupT, dinOp, dgetOp, dGet2, dsPut, dNewK, dDc, dPar3, dNeg, dkO_inj, dkO_ne, dkO_ne2, lenM_dk, keyD_int, keyD_str, dic_dk, dicA_dk, moTy_dk, moTy_lst, moTy_none, dIsi, inOp, ixOp, dSl, slOp, dRev, dBM, dBM0, refL, tyD, lenM_lst, dNoP, dPart, dCallN, dMake, dProp, eqOwn, neOwn, lenOwn, strOwn, dIsO, dMethN, dsFld, dRevT, dStrI, insD_obj, insD_ref, isC_obj, isC_ref, isC_non, isC_bl, isC_int, isC_str, isC_tup, isC_lst, ex_ins2, beq_self_eq_true, Bool.not_eq_eq_eq_not, decide_true, decide_false, okN_bl, okN_int, okN_non, exists_and_left, and_assoc, List.cons.injEq, dListRg1, dListRg2, pick, List.filterMap_cons, List.filterMap_nil, List.set_cons_zero, List.set_cons_succ, List.getElem?_cons_zero, List.getElem?_cons_succ, List.getElem?_nil, List.length_cons, List.length_nil, List.length_append, List.length_map, List.length_range, rangeD_length, enumD_length, List.cons_append, List.nil_append, forall_const, true_implies, false_implies, reduceCtorEq, Bool.not_true, Bool.not_false, and_true, true_and, decide_eq_true_eq, decide_eq_false_iff_not, MH.put_same, if_true, if_false, not_true_eq_false, not_false_eq_true, exists_eq_left, exists_eq_left', Option.some.injEq, MO.lst.injEq, MH.put_put, at_0, at_1, at_2, at_3, Int.ofNat_lt, Int.ofNat_le, ix_30, ix_31, ix_32, Nat.zero_add, Int.zero_add, Nat.reduceAdd, D.lst.injEq, lenOk, Nat.reduceLeDiff, rowD_inj, strs_inj, ints_inj, ex_ins, tyNm, ts_NoneType_bool, ts_NoneType_int, ts_NoneType_str, ts_NoneType_tuple, ts_NoneType_list, ts_bool_bool, ts_bool_int, ts_bool_str, ts_bool_tuple, ts_bool_list, ts_int_bool, ts_int_int, ts_int_str, ts_int_tuple, ts_int_list, ts_str_bool, ts_str_int, ts_str_str, ts_str_tuple, ts_str_list, ts_tuple_bool, ts_tuple_int, ts_tuple_str, ts_tuple_tuple, ts_tuple_list, ts_list_bool, ts_list_int, ts_list_str, ts_list_tuple, ts_list_list, ts_dict_bool, ts_dict_int, ts_dict_str, ts_dict_tuple, ts_dict_list, ins_row, isC_row, row_ne, Int.natCast_inj, Int.toNat_natCast, D.int.injEq, D.str.injEq, D.bl.injEq, D.tup.injEq, D.ref.injEq, D.scr.injEq]
  exact ⟨M, .refl, h⟩

theorem ok_law_given (T : Txt ⟨P, Wd.w, K, mg, base⟩) : Cal ⟨P, Wd.w, K, mg, base⟩ "_law_given" 1 ["_law_thing"] sp_law_given := cal_mk T.t_law_given F_law_given (r_law_given T) pl_law_given
def sp_law_sorts : DSp := fun ds M Q _ => match ds with
  | [.exc C _ _] => ∃ k, k < 18 ∧ C = nm18.getD k "" ∧ Q (.lst (sort18 k)) M
  | _ => False

def d_law_sorts : DS :=
  (dSeq (dSet 1 (dLst (dCons (dIsE eisT "InvalidText" (dVar 0)) (dCons (dIsE eisT "InvalidExchange" (dVar 0)) (dCons (dIsE eisT "InvalidNumber" (dVar 0)) dNil)))))
    (dSeq (dSet 1 (dOp addOp (dVar 1) (dLst (dCons (dIsE eisT "InvalidName" (dVar 0)) (dCons (dIsE eisT "InvalidClaim" (dVar 0)) (dCons (dIsE eisT "InvalidPlace" (dVar 0)) dNil))))))
    (dSeq (dSet 1 (dOp addOp (dVar 1) (dLst (dCons (dIsE eisT "NotARow" (dVar 0)) (dCons (dIsE eisT "InvalidThings" (dVar 0)) (dCons (dIsE eisT "InvalidHeap" (dVar 0)) dNil))))))
    (dSeq (dSet 1 (dOp addOp (dVar 1) (dLst (dCons (dIsE eisT "InvalidPlan" (dVar 0)) (dCons (dIsE eisT "InvalidRows" (dVar 0)) (dCons (dIsE eisT "InvalidOrders" (dVar 0)) dNil))))))
    (dSeq (dSet 1 (dOp addOp (dVar 1) (dLst (dCons (dIsE eisT "UnknownName" (dVar 0)) (dCons (dIsE eisT "InUse" (dVar 0)) (dCons (dIsE eisT "OtherThings" (dVar 0)) dNil))))))
    (dSeq (dSet 1 (dOp addOp (dVar 1) (dLst (dCons (dIsE eisT "TooMany" (dVar 0)) (dCons (dIsE eisT "NothingToUndo" (dVar 0)) (dCons (dIsE eisT "Broken" (dVar 0)) dNil))))))
    (dRet (dVar 1))))))))
theorem st_law_sorts (v0 : D) : dstart N_law_sorts [v0] = [some v0, none] := rfl
theorem r_law_sorts (T : Txt ⟨P, Wd.w, K, mg, base⟩) : DPSs ⟨P, Wd.w, K, mg, base⟩ (Sx.fn N_law_sorts (defScope s_law_sorts) 0) (defBody s_law_sorts) d_law_sorts :=
  (dpss_cons (dps_set L_law_sorts 1 (dp_lst (dpa_cons (dp_isXO T.ei S_law_sorts T.z_isinstance T.v_InvalidText (dp_var S_law_sorts 0)) (by exact (dpa_cons (dp_isXO T.ei S_law_sorts T.z_isinstance T.v_InvalidExchange (dp_var S_law_sorts 0)) (by exact (dpa_cons (dp_isXO T.ei S_law_sorts T.z_isinstance T.v_InvalidNumber (dp_var S_law_sorts 0)) dpa_nil)))))))
    (by exact (dpss_cons (dps_set L_law_sorts 1 (dp_bin (fun _ ft => opD_add ft) (dp_var S_law_sorts 1) (dp_lst (dpa_cons (dp_isXO T.ei S_law_sorts T.z_isinstance T.v_InvalidName (dp_var S_law_sorts 0)) (by exact (dpa_cons (dp_isXO T.ei S_law_sorts T.z_isinstance T.v_InvalidClaim (dp_var S_law_sorts 0)) (by exact (dpa_cons (dp_isXO T.ei S_law_sorts T.z_isinstance T.v_InvalidPlace (dp_var S_law_sorts 0)) dpa_nil))))))))
    (by exact (dpss_cons (dps_set L_law_sorts 1 (dp_bin (fun _ ft => opD_add ft) (dp_var S_law_sorts 1) (dp_lst (dpa_cons (dp_isXO T.ei S_law_sorts T.z_isinstance T.v_NotARow (dp_var S_law_sorts 0)) (by exact (dpa_cons (dp_isXO T.ei S_law_sorts T.z_isinstance T.v_InvalidThings (dp_var S_law_sorts 0)) (by exact (dpa_cons (dp_isXO T.ei S_law_sorts T.z_isinstance T.v_InvalidHeap (dp_var S_law_sorts 0)) dpa_nil))))))))
    (by exact (dpss_cons (dps_set L_law_sorts 1 (dp_bin (fun _ ft => opD_add ft) (dp_var S_law_sorts 1) (dp_lst (dpa_cons (dp_isXO T.ei S_law_sorts T.z_isinstance T.v_InvalidPlan (dp_var S_law_sorts 0)) (by exact (dpa_cons (dp_isXO T.ei S_law_sorts T.z_isinstance T.v_InvalidRows (dp_var S_law_sorts 0)) (by exact (dpa_cons (dp_isXO T.ei S_law_sorts T.z_isinstance T.v_InvalidOrders (dp_var S_law_sorts 0)) dpa_nil))))))))
    (by exact (dpss_cons (dps_set L_law_sorts 1 (dp_bin (fun _ ft => opD_add ft) (dp_var S_law_sorts 1) (dp_lst (dpa_cons (dp_isXO T.ei S_law_sorts T.z_isinstance T.v_UnknownName (dp_var S_law_sorts 0)) (by exact (dpa_cons (dp_isXO T.ei S_law_sorts T.z_isinstance T.v_InUse (dp_var S_law_sorts 0)) (by exact (dpa_cons (dp_isXO T.ei S_law_sorts T.z_isinstance T.v_OtherThings (dp_var S_law_sorts 0)) dpa_nil))))))))
    (by exact (dpss_cons (dps_set L_law_sorts 1 (dp_bin (fun _ ft => opD_add ft) (dp_var S_law_sorts 1) (dp_lst (dpa_cons (dp_isXO T.ei S_law_sorts T.z_isinstance T.v_TooMany (dp_var S_law_sorts 0)) (by exact (dpa_cons (dp_isXO T.ei S_law_sorts T.z_isinstance T.v_NothingToUndo (dp_var S_law_sorts 0)) (by exact (dpa_cons (dp_isXO T.ei S_law_sorts T.z_isinstance T.v_Broken (dp_var S_law_sorts 0)) dpa_nil))))))))
    (by exact (dpss_one (dps_ret (dp_var S_law_sorts 1)))))))))))))))
theorem eis_own : ∀ k, k < 18 → ∀ j, j < 18 → eisT (nm18.getD k "") (nm18.getD j "") = some (decide (j = k)) := by decide +kernel
theorem eis_base : ∀ k, k < 18 → ∀ j, j < 9 → eisT (nm18.getD k "") (bas9.getD j "") = (match (base18 k).getD j .non with | .bl b => some b | _ => none) := by
  intro k hk j hj
  have h : ((List.range 18).all fun k => (List.range 9).all fun j => decide (eisT (nm18.getD k "") (bas9.getD j "") = (match (base18 k).getD j .non with | .bl b => some b | _ => none))) = true := by decide +kernel
  have := List.all_eq_true.mp (List.all_eq_true.mp h k (List.mem_range.mpr hk)) j (List.mem_range.mpr hj)
  exact of_decide_eq_true this
theorem pl_law_sorts (ds : List D) (M : MH) (Q : DQ) (E : Er → MH → Prop) (hl : ds.length = 1) (h : sp_law_sorts ds M Q E) : d_law_sorts (ends Q) (fun er _ M => E er M) (dstart N_law_sorts ds) M := by
  unfold sp_law_sorts at h
  split at h
  case h_2 => exact h.elim
  rename_i C ns fs
  rw [st_law_sorts]
  obtain ⟨k, hk, rfl, h⟩ := h
  have e := eis_own k hk
  simp only [d_law_sorts, dIsE, srtTI, dCallV, eqNil, dForR, dgFld, srtDO, pairs_inj, dMinDef, minDefO, dFzV, dLc2, dListZip, rows_inj, dTupleRg2, dDt1, dinT, tgetOp, tsPut, tkeyD_nats, dtO_inj, dtO_ne, dtO_ne2, dDk1, dicPO, dicPT, lenTO, tkeyD_strs, eqOwnL, eqPairs, eqOne, dJoin, dMk, dstart, ends, dVar, dC, dOp, i2, ltO, leO, gtO, geO, subO, dTest, dAnd, dOr, dNot, asV, dAndV, dOrV, dNotV, dIf, dNil, dCons, dStar, dTup, dLst, dNew, seqD, lstD, datD, eqOp, neOp, addOp, mulOp, mulM, addM, divOp, modOp, powOp, isOp, isntOp, dNext, dSeq, dDrop, dRet, dRetN, dIfS, dBreak, dCont, dNever, dFrz, dgName, dgNil, dgCons, dgTup, dgSub, dAsg, dSet, dPar, dAugI, dSeqI, dRng1, dRng2, dEnum, dFor, dLast, dLink, dCh, dYes, dLc, dCall, dCall0, dFld, dMeth, dMeth0, dFrzO, frzO, dCB, ob1, ob2, oI, ii2, lenO, intO, sumO, intsO, blsO, strsO, reprO, absO, maxO, minO, dmO, tupO, lstO, lstMO, maxLO, minLO, anyO, allO, strIO, srtSO, srtO, srtIO, numsD_lst, numsD_tup, nats_inj, nats_len, stepD_inj, nc0, nc1, nc2, nc3, nc4, nc5, nc6, nc7, nc8, nc9, nc10, nc11, nc12, nc13, nc14, nc15, nc16, nc17, nc18, nc19, nc20, appendM, popM, extendM, insertM, indexM, indexTM, updateM, dBMT, dBMT.tupT, dinOp, dgetOp, dGet2, dsPut, dNewK, dDc, dPar3, dNeg, dkO_inj, dkO_ne, dkO_ne2, lenM_dk, keyD_int, keyD_str, dic_dk, dicA_dk, moTy_dk, moTy_lst, moTy_none, dIsi, inOp, ixOp, dSl, slOp, dRev, dBM, dBM0, refL, tyD, lenM_lst, dNoP, dPart, dCallN, dMake, dProp, eqOwn, neOwn, lenOwn, strOwn, dIsO, dMethN, dsFld, dRevT, dStrI, insD_obj, insD_ref, isC_obj, isC_ref, isC_non, isC_bl, isC_int, isC_str, isC_tup, isC_lst, ex_ins2, beq_self_eq_true, Bool.not_eq_eq_eq_not, decide_true, decide_false, okN_bl, okN_int, okN_non, exists_and_left, and_assoc, List.cons.injEq, dListRg1, dListRg2, pick, List.filterMap_cons, List.filterMap_nil, List.set_cons_zero, List.set_cons_succ, List.getElem?_cons_zero, List.getElem?_cons_succ, List.getElem?_nil, List.length_cons, List.length_nil, List.length_append, List.length_map, List.length_range, rangeD_length, enumD_length, List.cons_append, List.nil_append, forall_const, true_implies, false_implies, reduceCtorEq, Bool.not_true, Bool.not_false, and_true, true_and, decide_eq_true_eq, decide_eq_false_iff_not, MH.put_same, if_true, if_false, not_true_eq_false, not_false_eq_true, exists_eq_left, exists_eq_left', Option.some.injEq, MO.lst.injEq, MH.put_put, at_0, at_1, at_2, at_3, Int.ofNat_lt, Int.ofNat_le, ix_30, ix_31, ix_32, Nat.zero_add, Int.zero_add, Nat.reduceAdd, D.lst.injEq, lenOk, Nat.reduceLeDiff, rowD_inj, strs_inj, ints_inj, ex_ins, tyNm, ts_NoneType_bool, ts_NoneType_int, ts_NoneType_str, ts_NoneType_tuple, ts_NoneType_list, ts_bool_bool, ts_bool_int, ts_bool_str, ts_bool_tuple, ts_bool_list, ts_int_bool, ts_int_int, ts_int_str, ts_int_tuple, ts_int_list, ts_str_bool, ts_str_int, ts_str_str, ts_str_tuple, ts_str_list, ts_tuple_bool, ts_tuple_int, ts_tuple_str, ts_tuple_tuple, ts_tuple_list, ts_list_bool, ts_list_int, ts_list_str, ts_list_tuple, ts_list_list, ts_dict_bool, ts_dict_int, ts_dict_str, ts_dict_tuple, ts_dict_list, ins_row, isC_row, row_ne, Int.natCast_inj, Int.toNat_natCast, D.int.injEq, D.str.injEq, D.bl.injEq, D.tup.injEq, D.ref.injEq, D.scr.injEq]
  exact ⟨_, e 0 (by decide), _, e 1 (by decide), _, e 2 (by decide), _, e 3 (by decide), _, e 4 (by decide), _, e 5 (by decide), _, e 6 (by decide), _, e 7 (by decide), _, e 8 (by decide), _, e 9 (by decide), _, e 10 (by decide), _, e 11 (by decide), _, e 12 (by decide), _, e 13 (by decide), _, e 14 (by decide), _, e 15 (by decide), _, e 16 (by decide), _, e 17 (by decide), M, .refl, h⟩

theorem ok_law_sorts (T : Txt ⟨P, Wd.w, K, mg, base⟩) : Cal ⟨P, Wd.w, K, mg, base⟩ "_law_sorts" 1 ["_law_e"] sp_law_sorts := cal_mk T.t_law_sorts F_law_sorts (r_law_sorts T) pl_law_sorts
def sp_law_bases : DSp := fun ds M Q _ => match ds with
  | [.exc C _ _] => ∃ k, k < 18 ∧ C = nm18.getD k "" ∧ Q (.lst (base18 k)) M
  | _ => False

def d_law_bases : DS :=
  (dSeq (dSet 1 (dLst (dCons (dIsE eisT "NotRight" (dVar 0)) (dCons (dIsE eisT "NotThere" (dVar 0)) (dCons (dIsE eisT "CannotBe" (dVar 0)) dNil)))))
    (dSeq (dSet 1 (dOp addOp (dVar 1) (dLst (dCons (dIsE eisT "ValueError" (dVar 0)) (dCons (dIsE eisT "LookupError" (dVar 0)) (dCons (dIsE eisT "ArithmeticError" (dVar 0)) dNil))))))
    (dRet (dOp addOp (dVar 1) (dLst (dCons (dIsE eisT "KeyError" (dVar 0)) (dCons (dIsE eisT "IndexError" (dVar 0)) (dCons (dIsE eisT "ZeroDivisionError" (dVar 0)) dNil))))))))
theorem st_law_bases (v0 : D) : dstart N_law_bases [v0] = [some v0, none] := rfl
theorem r_law_bases (T : Txt ⟨P, Wd.w, K, mg, base⟩) : DPSs ⟨P, Wd.w, K, mg, base⟩ (Sx.fn N_law_bases (defScope s_law_bases) 0) (defBody s_law_bases) d_law_bases :=
  (dpss_cons (dps_set L_law_bases 1 (dp_lst (dpa_cons (dp_isXO T.ei S_law_bases T.z_isinstance T.v_NotRight (dp_var S_law_bases 0)) (by exact (dpa_cons (dp_isXO T.ei S_law_bases T.z_isinstance T.v_NotThere (dp_var S_law_bases 0)) (by exact (dpa_cons (dp_isXO T.ei S_law_bases T.z_isinstance T.v_CannotBe (dp_var S_law_bases 0)) dpa_nil)))))))
    (by exact (dpss_cons (dps_set L_law_bases 1 (dp_bin (fun _ ft => opD_add ft) (dp_var S_law_bases 1) (dp_lst (dpa_cons (dp_isXB T.ei S_law_bases T.z_isinstance T.v_ValueError T.z_ValueError rfl (dp_var S_law_bases 0)) (by exact (dpa_cons (dp_isXB T.ei S_law_bases T.z_isinstance T.v_LookupError T.z_LookupError rfl (dp_var S_law_bases 0)) (by exact (dpa_cons (dp_isXB T.ei S_law_bases T.z_isinstance T.v_ArithmeticError T.z_ArithmeticError rfl (dp_var S_law_bases 0)) dpa_nil))))))))
    (by exact (dpss_one (dps_ret (dp_bin (fun _ ft => opD_add ft) (dp_var S_law_bases 1) (dp_lst (dpa_cons (dp_isXB T.ei S_law_bases T.z_isinstance T.v_KeyError T.z_KeyError rfl (dp_var S_law_bases 0)) (by exact (dpa_cons (dp_isXB T.ei S_law_bases T.z_isinstance T.v_IndexError T.z_IndexError rfl (dp_var S_law_bases 0)) (by exact (dpa_cons (dp_isXB T.ei S_law_bases T.z_isinstance T.v_ZeroDivisionError T.z_ZeroDivisionError rfl (dp_var S_law_bases 0)) dpa_nil)))))))))))))
theorem pl_law_bases (ds : List D) (M : MH) (Q : DQ) (E : Er → MH → Prop) (hl : ds.length = 1) (h : sp_law_bases ds M Q E) : d_law_bases (ends Q) (fun er _ M => E er M) (dstart N_law_bases ds) M := by
  unfold sp_law_bases at h
  split at h
  case h_2 => exact h.elim
  rename_i C ns fs
  rw [st_law_bases]
  obtain ⟨k, hk, rfl, h⟩ := h
  have e := eis_base k hk
  simp only [d_law_bases, dIsE, srtTI, dCallV, eqNil, dForR, dgFld, srtDO, pairs_inj, dMinDef, minDefO, dFzV, dLc2, dListZip, rows_inj, dTupleRg2, dDt1, dinT, tgetOp, tsPut, tkeyD_nats, dtO_inj, dtO_ne, dtO_ne2, dDk1, dicPO, dicPT, lenTO, tkeyD_strs, eqOwnL, eqPairs, eqOne, dJoin, dMk, dstart, ends, dVar, dC, dOp, i2, ltO, leO, gtO, geO, subO, dTest, dAnd, dOr, dNot, asV, dAndV, dOrV, dNotV, dIf, dNil, dCons, dStar, dTup, dLst, dNew, seqD, lstD, datD, eqOp, neOp, addOp, mulOp, mulM, addM, divOp, modOp, powOp, isOp, isntOp, dNext, dSeq, dDrop, dRet, dRetN, dIfS, dBreak, dCont, dNever, dFrz, dgName, dgNil, dgCons, dgTup, dgSub, dAsg, dSet, dPar, dAugI, dSeqI, dRng1, dRng2, dEnum, dFor, dLast, dLink, dCh, dYes, dLc, dCall, dCall0, dFld, dMeth, dMeth0, dFrzO, frzO, dCB, ob1, ob2, oI, ii2, lenO, intO, sumO, intsO, blsO, strsO, reprO, absO, maxO, minO, dmO, tupO, lstO, lstMO, maxLO, minLO, anyO, allO, strIO, srtSO, srtO, srtIO, numsD_lst, numsD_tup, nats_inj, nats_len, stepD_inj, nc0, nc1, nc2, nc3, nc4, nc5, nc6, nc7, nc8, nc9, nc10, nc11, nc12, nc13, nc14, nc15, nc16, nc17, nc18, nc19, nc20, appendM, popM, extendM, insertM, indexM, indexTM, updateM, dBMT, dBMT.tupT, dinOp, dgetOp, dGet2, dsPut, dNewK, dDc, dPar3, dNeg, dkO_inj, dkO_ne, dkO_ne2, lenM_dk, keyD_int, keyD_str, dic_dk, dicA_dk, moTy_dk, moTy_lst, moTy_none, dIsi, inOp, ixOp, dSl, slOp, dRev, dBM, dBM0, refL, tyD, lenM_lst, dNoP, dPart, dCallN, dMake, dProp, eqOwn, neOwn, lenOwn, strOwn, dIsO, dMethN, dsFld, dRevT, dStrI, insD_obj, insD_ref, isC_obj, isC_ref, isC_non, isC_bl, isC_int, isC_str, isC_tup, isC_lst, ex_ins2, beq_self_eq_true, Bool.not_eq_eq_eq_not, decide_true, decide_false, okN_bl, okN_int, okN_non, exists_and_left, and_assoc, List.cons.injEq, dListRg1, dListRg2, pick, List.filterMap_cons, List.filterMap_nil, List.set_cons_zero, List.set_cons_succ, List.getElem?_cons_zero, List.getElem?_cons_succ, List.getElem?_nil, List.length_cons, List.length_nil, List.length_append, List.length_map, List.length_range, rangeD_length, enumD_length, List.cons_append, List.nil_append, forall_const, true_implies, false_implies, reduceCtorEq, Bool.not_true, Bool.not_false, and_true, true_and, decide_eq_true_eq, decide_eq_false_iff_not, MH.put_same, if_true, if_false, not_true_eq_false, not_false_eq_true, exists_eq_left, exists_eq_left', Option.some.injEq, MO.lst.injEq, MH.put_put, at_0, at_1, at_2, at_3, Int.ofNat_lt, Int.ofNat_le, ix_30, ix_31, ix_32, Nat.zero_add, Int.zero_add, Nat.reduceAdd, D.lst.injEq, lenOk, Nat.reduceLeDiff, rowD_inj, strs_inj, ints_inj, ex_ins, tyNm, ts_NoneType_bool, ts_NoneType_int, ts_NoneType_str, ts_NoneType_tuple, ts_NoneType_list, ts_bool_bool, ts_bool_int, ts_bool_str, ts_bool_tuple, ts_bool_list, ts_int_bool, ts_int_int, ts_int_str, ts_int_tuple, ts_int_list, ts_str_bool, ts_str_int, ts_str_str, ts_str_tuple, ts_str_list, ts_tuple_bool, ts_tuple_int, ts_tuple_str, ts_tuple_tuple, ts_tuple_list, ts_list_bool, ts_list_int, ts_list_str, ts_list_tuple, ts_list_list, ts_dict_bool, ts_dict_int, ts_dict_str, ts_dict_tuple, ts_dict_list, ins_row, isC_row, row_ne, Int.natCast_inj, Int.toNat_natCast, D.int.injEq, D.str.injEq, D.bl.injEq, D.tup.injEq, D.ref.injEq, D.scr.injEq]
  exact ⟨_, e 0 (by decide), _, e 1 (by decide), _, e 2 (by decide), _, e 3 (by decide), _, e 4 (by decide), _, e 5 (by decide), _, e 6 (by decide), _, e 7 (by decide), _, e 8 (by decide), M, .refl, h⟩

theorem ok_law_bases (T : Txt ⟨P, Wd.w, K, mg, base⟩) : Cal ⟨P, Wd.w, K, mg, base⟩ "_law_bases" 1 ["_law_e"] sp_law_bases := cal_mk T.t_law_bases F_law_bases (r_law_bases T) pl_law_bases
def sp_law_due : DSp := fun ds M Q _ => match ds with
  | [.int k0] => ∃ k : Nat, k0 = k ∧ Q (.lst (base18 k)) M
  | _ => False

def d_law_due : DS :=
  (dSeq (dPar 1 2 (dCons (dOp ltO (dVar 0) (dC (.int 12))) (dCons (asV (dCh (dC (.int 11)) (dLink ltO (dVar 0) (dLast ltO (dC (.int 14)))))) dNil)))
    (dSeq (dSet 3 (dAndV (dNotV (dVar 1)) (dNotV (dVar 2))))
    (dRet (dOp addOp (dOp mulOp (dLst (dCons (dVar 1) (dCons (dVar 2) (dCons (dVar 3) dNil)))) (dC (.int 2))) (dOp mulOp (dLst (dCons (dC (.bl false)) dNil)) (dC (.int 3)))))))
theorem st_law_due (v0 : D) : dstart N_law_due [v0] = [some v0, none, none, none] := rfl
theorem r_law_due (T : Txt ⟨P, Wd.w, K, mg, base⟩) : DPSs ⟨P, Wd.w, K, mg, base⟩ (Sx.fn N_law_due (defScope s_law_due) 0) (defBody s_law_due) d_law_due :=
  (dpss_cons (dps_par L_law_due 1 2 (dpa_cons (dp_cmp (fun _ ft => opD_lt ft) (dp_var S_law_due 0) dp_int (by with_unfolding_all rfl)) (dpa_cons (dp_chain dp_int (dpc_link (fun _ ft => opD_lt ft) (dp_var S_law_due 0) (dpc_last (fun _ ft => opD_lt ft) dp_int))) dpa_nil)) (hw := fun env h => by cases env; cases h; rfl))
    (by exact (dpss_cons (dps_set L_law_due 3 (dp_and (dp_not (dp_var S_law_due 1)) (dp_one (dp_not (dp_var S_law_due 2)))))
    (by exact (dpss_one (dps_ret (dp_bin (fun _ ft => opD_add ft) (dp_bin (fun _ ft => opD_mul ft) (dp_lst (dpa_cons (dp_var S_law_due 1) (by exact (dpa_cons (dp_var S_law_due 2) (by exact (dpa_cons (dp_var S_law_due 3) dpa_nil)))))) dp_int) (dp_bin (fun _ ft => opD_mul ft) (dp_lst (dpa_cons dp_bl dpa_nil)) dp_int))))))))
theorem pl_law_due (ds : List D) (M : MH) (Q : DQ) (E : Er → MH → Prop) (hl : ds.length = 1) (h : sp_law_due ds M Q E) : d_law_due (ends Q) (fun er _ M => E er M) (dstart N_law_due ds) M := by
  unfold sp_law_due at h
  split at h
  case h_2 => exact h.elim
  rename_i k0
  rw [st_law_due]
  obtain ⟨k, rfl, h⟩ := h
  simp only [d_law_due, srtTI, dCallV, eqNil, dForR, dgFld, srtDO, pairs_inj, dMinDef, minDefO, dFzV, dLc2, dListZip, rows_inj, dTupleRg2, dDt1, dinT, tgetOp, tsPut, tkeyD_nats, dtO_inj, dtO_ne, dtO_ne2, dDk1, dicPO, dicPT, lenTO, tkeyD_strs, eqOwnL, eqPairs, eqOne, dJoin, dMk, dstart, ends, dVar, dC, dOp, i2, ltO, leO, gtO, geO, subO, dTest, dAnd, dOr, dNot, asV, dAndV, dOrV, dNotV, dIf, dNil, dCons, dStar, dTup, dLst, dNew, seqD, lstD, datD, eqOp, neOp, addOp, mulOp, mulM, addM, divOp, modOp, powOp, isOp, isntOp, dNext, dSeq, dDrop, dRet, dRetN, dIfS, dBreak, dCont, dNever, dFrz, dgName, dgNil, dgCons, dgTup, dgSub, dAsg, dSet, dPar, dAugI, dSeqI, dRng1, dRng2, dEnum, dFor, dLast, dLink, dCh, dYes, dLc, dCall, dCall0, dFld, dMeth, dMeth0, dFrzO, frzO, dCB, ob1, ob2, oI, ii2, lenO, intO, sumO, intsO, blsO, strsO, reprO, absO, maxO, minO, dmO, tupO, lstO, lstMO, maxLO, minLO, anyO, allO, strIO, srtSO, srtO, srtIO, numsD_lst, numsD_tup, nats_inj, nats_len, stepD_inj, nc0, nc1, nc2, nc3, nc4, nc5, nc6, nc7, nc8, nc9, nc10, nc11, nc12, nc13, nc14, nc15, nc16, nc17, nc18, nc19, nc20, appendM, popM, extendM, insertM, indexM, indexTM, updateM, dBMT, dBMT.tupT, dinOp, dgetOp, dGet2, dsPut, dNewK, dDc, dPar3, dNeg, dkO_inj, dkO_ne, dkO_ne2, lenM_dk, keyD_int, keyD_str, dic_dk, dicA_dk, moTy_dk, moTy_lst, moTy_none, dIsi, inOp, ixOp, dSl, slOp, dRev, dBM, dBM0, refL, tyD, lenM_lst, dNoP, dPart, dCallN, dMake, dProp, eqOwn, neOwn, lenOwn, strOwn, dIsO, dMethN, dsFld, dRevT, dStrI, insD_obj, insD_ref, isC_obj, isC_ref, isC_non, isC_bl, isC_int, isC_str, isC_tup, isC_lst, ex_ins2, beq_self_eq_true, Bool.not_eq_eq_eq_not, decide_true, decide_false, okN_bl, okN_int, okN_non, exists_and_left, and_assoc, List.cons.injEq, dListRg1, dListRg2, pick, List.filterMap_cons, List.filterMap_nil, List.set_cons_zero, List.set_cons_succ, List.getElem?_cons_zero, List.getElem?_cons_succ, List.getElem?_nil, List.length_cons, List.length_nil, List.length_append, List.length_map, List.length_range, rangeD_length, enumD_length, List.cons_append, List.nil_append, forall_const, true_implies, false_implies, reduceCtorEq, Bool.not_true, Bool.not_false, and_true, true_and, decide_eq_true_eq, decide_eq_false_iff_not, MH.put_same, if_true, if_false, not_true_eq_false, not_false_eq_true, exists_eq_left, exists_eq_left', Option.some.injEq, MO.lst.injEq, MH.put_put, at_0, at_1, at_2, at_3, Int.ofNat_lt, Int.ofNat_le, ix_30, ix_31, ix_32, Nat.zero_add, Int.zero_add, Nat.reduceAdd, D.lst.injEq, lenOk, Nat.reduceLeDiff, rowD_inj, strs_inj, ints_inj, ex_ins, tyNm, ts_NoneType_bool, ts_NoneType_int, ts_NoneType_str, ts_NoneType_tuple, ts_NoneType_list, ts_bool_bool, ts_bool_int, ts_bool_str, ts_bool_tuple, ts_bool_list, ts_int_bool, ts_int_int, ts_int_str, ts_int_tuple, ts_int_list, ts_str_bool, ts_str_int, ts_str_str, ts_str_tuple, ts_str_list, ts_tuple_bool, ts_tuple_int, ts_tuple_str, ts_tuple_tuple, ts_tuple_list, ts_list_bool, ts_list_int, ts_list_str, ts_list_tuple, ts_list_list, ts_dict_bool, ts_dict_int, ts_dict_str, ts_dict_tuple, ts_dict_list, ins_row, isC_row, row_ne, Int.natCast_inj, Int.toNat_natCast, D.int.injEq, D.str.injEq, D.bl.injEq, D.tup.injEq, D.ref.injEq, D.scr.injEq]
  have fin : ∀ a b c : Bool, a = decide (k < 12) → b = decide (12 ≤ k ∧ k < 14) → c = decide (14 ≤ k) → Q (.lst ((List.replicate (Int.toNat 2) [D.bl a, D.bl b, D.bl c]).flatten ++ (List.replicate (Int.toNat 3) [D.bl false]).flatten)) M := by
    rintro _ _ _ rfl rfl rfl; exact h
  have c1 : decide ((k : Int) < 12) = decide (k < 12) := decide_eq_decide.mpr (by omega)
  refine ⟨fun a => ⟨fun b => ?_, fun b => ?_⟩, fun a => ?_⟩
  · exact ⟨by decide, by decide, by decide, by decide, Nat.le_of_ble_eq_true rfl, M, .refl, fin _ _ _ c1 (decide_eq_decide.mpr (by omega)) (by rw [← decide_not]; exact decide_eq_decide.mpr (by omega))⟩
  · omega
  · exact ⟨fun b => absurd b (by omega), fun b => ⟨by decide, by decide, by decide, by decide, Nat.le_of_ble_eq_true rfl, M, .refl, fin _ _ _ c1 (decide_eq_false (by omega)).symm (decide_eq_false (by omega)).symm⟩⟩

theorem ok_law_due (T : Txt ⟨P, Wd.w, K, mg, base⟩) : Cal ⟨P, Wd.w, K, mg, base⟩ "_law_due" 1 ["_law_k"] sp_law_due := cal_mk T.t_law_due F_law_due (r_law_due T) pl_law_due
def sp_law_kept_right : DSp := fun ds M Q _ => match ds with
  | [x, v] => KpV v ∧ x = all18 v ∧ Q (.bl true) M
  | _ => False

def d_law_kept_right_e1 : DE :=
  (dXf exfT "given" (dOp ixOp (dVar 0) (dVar 3)))
def d_law_kept_right_e2 : DE :=
  (dXf exfT "index" (dOp ixOp (dVar 0) (dVar 3)))
def d_law_kept_right_e3 : DE :=
  (dXf exfT "most" (dOp ixOp (dVar 0) (dVar 3)))
def d_law_kept_right : DS :=
  (dSeq (dSet 2 (dLc (dSeqI (dLst (dCons (dC (.int 0)) (dCons (dC (.int 1)) (dCons (dC (.int 2)) (dCons (dC (.int 3)) (dCons (dC (.int 4)) (dCons (dC (.int 5)) (dCons (dC (.int 6)) (dCons (dC (.int 12)) dNil)))))))))) (dgName 3) dYes d_law_kept_right_e1 [3]))
    (dSeq (dSet 2 (dOp addOp (dVar 2) (dLc (dSeqI (dLst (dCons (dC (.int 7)) (dCons (dC (.int 8)) (dCons (dC (.int 9)) (dCons (dC (.int 10)) (dCons (dC (.int 11)) (dCons (dC (.int 13)) dNil)))))))) (dgName 3) dYes d_law_kept_right_e2 [3])))
    (dSeq (dSet 2 (dOp addOp (dVar 2) (dLc (dSeqI (dLst (dCons (dC (.int 15)) dNil))) (dgName 3) dYes d_law_kept_right_e3 [3])))
    (dSeq (dSet 4 (dOp ixOp (dVar 0) (dC (.int 17))))
    (dRet (dAndV (dOp eqOp (dCB (ob1 reprO) (dCons (dVar 2) dNil)) (dCB (ob1 reprO) (dCons (dOp mulOp (dLst (dCons (dVar 1) dNil)) (dCB (ob1 lenO) (dCons (dVar 2) dNil))) dNil))) (dOp eqOp (dCB (ob1 reprO) (dCons (dLst (dCons (dXf exfT "index" (dVar 4)) (dCons (dXf exfT "shown" (dVar 4)) dNil))) dNil)) (dCB (ob1 reprO) (dCons (dLst (dCons (dVar 1) (dCons (dC (.int 7)) dNil))) dNil)))))))))
theorem st_law_kept_right (v0 v1 : D) : dstart N_law_kept_right [v0, v1] = [some v0, some v1, none, none, none] := rfl
theorem r_law_kept_right (T : Txt ⟨P, Wd.w, K, mg, base⟩) : DPSs ⟨P, Wd.w, K, mg, base⟩ (Sx.fn N_law_kept_right (defScope s_law_kept_right) 0) (defBody s_law_kept_right) d_law_kept_right :=
  (dpss_cons (dps_setLc L_law_kept_right 2 [("_law_k", 3)] (by decide +kernel) (dpi_seq (dp_lst (dpa_cons dp_int (by exact (dpa_cons dp_int (by exact (dpa_cons dp_int (by exact (dpa_cons dp_int (by exact (dpa_cons dp_int (by exact (dpa_cons dp_int (by exact (dpa_cons dp_int (by exact (dpa_cons dp_int dpa_nil))))))))))))))))) (dpg_name (stOk_of (ls := [3]) (by decide +kernel)) 3) dpts_nil (dp_xf T.xk (dp_ix (dp_var (scOk_of (vs := [3, 0]) (gs := []) (by decide +kernel)) 0) (dp_var (scOk_of (vs := [3, 0]) (gs := []) (by decide +kernel)) 3))))
    (by exact (dpss_cons (dps_set L_law_kept_right 2 (dp_bin (fun _ ft => opD_add ft) (dp_var S_law_kept_right 2) (dp_lc [("_law_k", 3)] (by decide +kernel) (dpi_seq (dp_lst (dpa_cons dp_int (by exact (dpa_cons dp_int (by exact (dpa_cons dp_int (by exact (dpa_cons dp_int (by exact (dpa_cons dp_int (by exact (dpa_cons dp_int dpa_nil))))))))))))) (dpg_name (stOk_of (ls := [3]) (by decide +kernel)) 3) dpts_nil (dp_xf T.xk (dp_ix (dp_var (scOk_of (vs := [3, 0]) (gs := []) (by decide +kernel)) 0) (dp_var (scOk_of (vs := [3, 0]) (gs := []) (by decide +kernel)) 3))))))
    (by exact (dpss_cons (dps_set L_law_kept_right 2 (dp_bin (fun _ ft => opD_add ft) (dp_var S_law_kept_right 2) (dp_lc [("_law_k", 3)] (by decide +kernel) (dpi_seq (dp_lst (dpa_cons dp_int dpa_nil))) (dpg_name (stOk_of (ls := [3]) (by decide +kernel)) 3) dpts_nil (dp_xf T.xk (dp_ix (dp_var (scOk_of (vs := [3, 0]) (gs := []) (by decide +kernel)) 0) (dp_var (scOk_of (vs := [3, 0]) (gs := []) (by decide +kernel)) 3))))))
    (by exact (dpss_cons (dps_set L_law_kept_right 4 (dp_ix (dp_var S_law_kept_right 0) dp_int))
    (by exact (dpss_one (dps_ret (dp_and (dp_cmp (fun _ ft => opD_eq ft) (dp_callB S_law_kept_right T.z_repr (fun X ft => (cb_repr ft)) boot_repr (dpa_cons (dp_var S_law_kept_right 2) dpa_nil)) (dp_callB S_law_kept_right T.z_repr (fun X ft => (cb_repr ft)) boot_repr (dpa_cons (dp_bin (fun _ ft => opD_mul ft) (dp_lst (dpa_cons (dp_var S_law_kept_right 1) dpa_nil)) (dp_callB S_law_kept_right T.z_len (fun X ft => cb_len) boot_len (dpa_cons (dp_var S_law_kept_right 2) dpa_nil))) dpa_nil)) (by with_unfolding_all rfl)) (dp_one (dp_cmp (fun _ ft => opD_eq ft) (dp_callB S_law_kept_right T.z_repr (fun X ft => (cb_repr ft)) boot_repr (dpa_cons (dp_lst (dpa_cons (dp_xf T.xk (dp_var S_law_kept_right 4)) (by exact (dpa_cons (dp_xf T.xk (dp_var S_law_kept_right 4)) dpa_nil)))) dpa_nil)) (dp_callB S_law_kept_right T.z_repr (fun X ft => (cb_repr ft)) boot_repr (dpa_cons (dp_lst (dpa_cons (dp_var S_law_kept_right 1) (by exact (dpa_cons dp_int dpa_nil)))) dpa_nil)) (by with_unfolding_all rfl))))))))))))))
theorem look18 {v : D} {f : Str} {k : Nat} {C : D → Prop} (hk : k < 18) (h1 : exfT (nm18.getD k "") f = true) (h2 : fl18.getD k [] = [f]) (h3 : vs18 v k = [v]) (q : C v) : ∃ d, atI ((List.range 18).map (exc18 v)) (k : Int) = some d ∧ match d with | .exc C1 ns fs => exfT C1 f = true ∧ ∃ w, List.lookup f (ns.zip fs) = some w ∧ C w | _ => False := by
  refine ⟨exc18 v k, atI_some (n := k) rfl (by simp [hk]), ?_⟩
  show exfT (nm18.getD k "") f = true ∧ ∃ w, ((fl18.getD k []).zip (vs18 v k)).lookup f = some w ∧ C w
  rw [h2, h3]
  exact ⟨h1, v, look1, q⟩
theorem pl_law_kept_right (ds : List D) (M : MH) (Q : DQ) (E : Er → MH → Prop) (hl : ds.length = 2) (h : sp_law_kept_right ds M Q E) : d_law_kept_right (ends Q) (fun er _ M => E er M) (dstart N_law_kept_right ds) M := by
  unfold sp_law_kept_right at h
  split at h
  case h_2 => exact h.elim
  rename_i x v
  rw [st_law_kept_right]
  obtain ⟨K, rfl, h⟩ := h
  unfold all18
  simp only [d_law_kept_right, srtTI, dCallV, eqNil, dForR, dgFld, srtDO, pairs_inj, dMinDef, minDefO, dFzV, dLc2, dListZip, rows_inj, dTupleRg2, dDt1, dinT, tgetOp, tsPut, tkeyD_nats, dtO_inj, dtO_ne, dtO_ne2, dDk1, dicPO, dicPT, lenTO, tkeyD_strs, eqOwnL, eqPairs, eqOne, dJoin, dMk, dstart, ends, dVar, dC, dOp, i2, ltO, leO, gtO, geO, subO, dTest, dAnd, dOr, dNot, asV, dAndV, dOrV, dNotV, dIf, dNil, dCons, dStar, dTup, dLst, dNew, seqD, lstD, datD, eqOp, neOp, addOp, mulOp, mulM, addM, divOp, modOp, powOp, isOp, isntOp, dNext, dSeq, dDrop, dRet, dRetN, dIfS, dBreak, dCont, dNever, dFrz, dgName, dgNil, dgCons, dgTup, dgSub, dAsg, dSet, dPar, dAugI, dSeqI, dRng1, dRng2, dEnum, dFor, dLast, dLink, dCh, dYes, dLc, dCall, dCall0, dFld, dMeth, dMeth0, dFrzO, frzO, dCB, ob1, ob2, oI, ii2, lenO, intO, sumO, intsO, blsO, strsO, reprO, absO, maxO, minO, dmO, tupO, lstO, lstMO, maxLO, minLO, anyO, allO, strIO, srtSO, srtO, srtIO, numsD_lst, numsD_tup, nats_inj, nats_len, stepD_inj, nc0, nc1, nc2, nc3, nc4, nc5, nc6, nc7, nc8, nc9, nc10, nc11, nc12, nc13, nc14, nc15, nc16, nc17, nc18, nc19, nc20, appendM, popM, extendM, insertM, indexM, indexTM, updateM, dBMT, dBMT.tupT, dinOp, dgetOp, dGet2, dsPut, dNewK, dDc, dPar3, dNeg, dkO_inj, dkO_ne, dkO_ne2, lenM_dk, keyD_int, keyD_str, dic_dk, dicA_dk, moTy_dk, moTy_lst, moTy_none, dIsi, inOp, ixOp, dSl, slOp, dRev, dBM, dBM0, refL, tyD, lenM_lst, dNoP, dPart, dCallN, dMake, dProp, eqOwn, neOwn, lenOwn, strOwn, dIsO, dMethN, dsFld, dRevT, dStrI, insD_obj, insD_ref, isC_obj, isC_ref, isC_non, isC_bl, isC_int, isC_str, isC_tup, isC_lst, ex_ins2, beq_self_eq_true, Bool.not_eq_eq_eq_not, decide_true, decide_false, okN_bl, okN_int, okN_non, exists_and_left, and_assoc, List.cons.injEq, dListRg1, dListRg2, pick, List.filterMap_cons, List.filterMap_nil, List.set_cons_zero, List.set_cons_succ, List.getElem?_cons_zero, List.getElem?_cons_succ, List.getElem?_nil, List.length_cons, List.length_nil, List.length_append, List.length_map, List.length_range, rangeD_length, enumD_length, List.cons_append, List.nil_append, forall_const, true_implies, false_implies, reduceCtorEq, Bool.not_true, Bool.not_false, and_true, true_and, decide_eq_true_eq, decide_eq_false_iff_not, MH.put_same, if_true, if_false, not_true_eq_false, not_false_eq_true, exists_eq_left, exists_eq_left', Option.some.injEq, MO.lst.injEq, MH.put_put, at_0, at_1, at_2, at_3, Int.ofNat_lt, Int.ofNat_le, ix_30, ix_31, ix_32, Nat.zero_add, Int.zero_add, Nat.reduceAdd, D.lst.injEq, lenOk, Nat.reduceLeDiff, rowD_inj, strs_inj, ints_inj, ex_ins, tyNm, ts_NoneType_bool, ts_NoneType_int, ts_NoneType_str, ts_NoneType_tuple, ts_NoneType_list, ts_bool_bool, ts_bool_int, ts_bool_str, ts_bool_tuple, ts_bool_list, ts_int_bool, ts_int_int, ts_int_str, ts_int_tuple, ts_int_list, ts_str_bool, ts_str_int, ts_str_str, ts_str_tuple, ts_str_list, ts_tuple_bool, ts_tuple_int, ts_tuple_str, ts_tuple_tuple, ts_tuple_list, ts_list_bool, ts_list_int, ts_list_str, ts_list_tuple, ts_list_list, ts_dict_bool, ts_dict_int, ts_dict_str, ts_dict_tuple, ts_dict_list, ins_row, isC_row, row_ne, Int.natCast_inj, Int.toNat_natCast, D.int.injEq, D.str.injEq, D.bl.injEq, D.tup.injEq, D.ref.injEq, D.scr.injEq]
  refine lc_idx (fun _ => v) (by unfold lenOk; decide) ?_ ?_
  · intro p acc i hi C hp hC
    simp only [wipeD, d_law_kept_right_e1, dXf, srtTI, dCallV, eqNil, dForR, dgFld, srtDO, pairs_inj, dMinDef, minDefO, dFzV, dLc2, dListZip, rows_inj, dTupleRg2, dDt1, dinT, tgetOp, tsPut, tkeyD_nats, dtO_inj, dtO_ne, dtO_ne2, dDk1, dicPO, dicPT, lenTO, tkeyD_strs, eqOwnL, eqPairs, eqOne, dJoin, dMk, dstart, ends, dVar, dC, dOp, i2, ltO, leO, gtO, geO, subO, dTest, dAnd, dOr, dNot, asV, dAndV, dOrV, dNotV, dIf, dNil, dCons, dStar, dTup, dLst, dNew, seqD, lstD, datD, eqOp, neOp, addOp, mulOp, mulM, addM, divOp, modOp, powOp, isOp, isntOp, dNext, dSeq, dDrop, dRet, dRetN, dIfS, dBreak, dCont, dNever, dFrz, dgName, dgNil, dgCons, dgTup, dgSub, dAsg, dSet, dPar, dAugI, dSeqI, dRng1, dRng2, dEnum, dFor, dLast, dLink, dCh, dYes, dLc, dCall, dCall0, dFld, dMeth, dMeth0, dFrzO, frzO, dCB, ob1, ob2, oI, ii2, lenO, intO, sumO, intsO, blsO, strsO, reprO, absO, maxO, minO, dmO, tupO, lstO, lstMO, maxLO, minLO, anyO, allO, strIO, srtSO, srtO, srtIO, numsD_lst, numsD_tup, nats_inj, nats_len, stepD_inj, nc0, nc1, nc2, nc3, nc4, nc5, nc6, nc7, nc8, nc9, nc10, nc11, nc12, nc13, nc14, nc15, nc16, nc17, nc18, nc19, nc20, appendM, popM, extendM, insertM, indexM, indexTM, updateM, dBMT, dBMT.tupT, dinOp, dgetOp, dGet2, dsPut, dNewK, dDc, dPar3, dNeg, dkO_inj, dkO_ne, dkO_ne2, lenM_dk, keyD_int, keyD_str, dic_dk, dicA_dk, moTy_dk, moTy_lst, moTy_none, dIsi, inOp, ixOp, dSl, slOp, dRev, dBM, dBM0, refL, tyD, lenM_lst, dNoP, dPart, dCallN, dMake, dProp, eqOwn, neOwn, lenOwn, strOwn, dIsO, dMethN, dsFld, dRevT, dStrI, insD_obj, insD_ref, isC_obj, isC_ref, isC_non, isC_bl, isC_int, isC_str, isC_tup, isC_lst, ex_ins2, beq_self_eq_true, Bool.not_eq_eq_eq_not, decide_true, decide_false, okN_bl, okN_int, okN_non, exists_and_left, and_assoc, List.cons.injEq, dListRg1, dListRg2, pick, List.filterMap_cons, List.filterMap_nil, List.set_cons_zero, List.set_cons_succ, List.getElem?_cons_zero, List.getElem?_cons_succ, List.getElem?_nil, List.length_cons, List.length_nil, List.length_append, List.length_map, List.length_range, rangeD_length, enumD_length, List.cons_append, List.nil_append, forall_const, true_implies, false_implies, reduceCtorEq, Bool.not_true, Bool.not_false, and_true, true_and, decide_eq_true_eq, decide_eq_false_iff_not, MH.put_same, if_true, if_false, not_true_eq_false, not_false_eq_true, exists_eq_left, exists_eq_left', Option.some.injEq, MO.lst.injEq, MH.put_put, at_0, at_1, at_2, at_3, Int.ofNat_lt, Int.ofNat_le, ix_30, ix_31, ix_32, Nat.zero_add, Int.zero_add, Nat.reduceAdd, D.lst.injEq, lenOk, Nat.reduceLeDiff, rowD_inj, strs_inj, ints_inj, ex_ins, tyNm, ts_NoneType_bool, ts_NoneType_int, ts_NoneType_str, ts_NoneType_tuple, ts_NoneType_list, ts_bool_bool, ts_bool_int, ts_bool_str, ts_bool_tuple, ts_bool_list, ts_int_bool, ts_int_int, ts_int_str, ts_int_tuple, ts_int_list, ts_str_bool, ts_str_int, ts_str_str, ts_str_tuple, ts_str_list, ts_tuple_bool, ts_tuple_int, ts_tuple_str, ts_tuple_tuple, ts_tuple_list, ts_list_bool, ts_list_int, ts_list_str, ts_list_tuple, ts_list_list, ts_dict_bool, ts_dict_int, ts_dict_str, ts_dict_tuple, ts_dict_list, ins_row, isC_row, row_ne, Int.natCast_inj, Int.toNat_natCast, D.int.injEq, D.str.injEq, D.bl.injEq, D.tup.injEq, D.ref.injEq, D.scr.injEq]
    rcases i with _ | _ | _ | _ | _ | _ | _ | _ | i
    · exact look18 (C := fun w => C w _) (k := 0) (f := "given") (by decide) (by decide +kernel) rfl rfl hC
    · exact look18 (C := fun w => C w _) (k := 1) (f := "given") (by decide) (by decide +kernel) rfl rfl hC
    · exact look18 (C := fun w => C w _) (k := 2) (f := "given") (by decide) (by decide +kernel) rfl rfl hC
    · exact look18 (C := fun w => C w _) (k := 3) (f := "given") (by decide) (by decide +kernel) rfl rfl hC
    · exact look18 (C := fun w => C w _) (k := 4) (f := "given") (by decide) (by decide +kernel) rfl rfl hC
    · exact look18 (C := fun w => C w _) (k := 5) (f := "given") (by decide) (by decide +kernel) rfl rfl hC
    · exact look18 (C := fun w => C w _) (k := 6) (f := "given") (by decide) (by decide +kernel) rfl rfl hC
    · exact look18 (C := fun w => C w _) (k := 12) (f := "given") (by decide) (by decide +kernel) rfl rfl hC
    · exact absurd hi (by simp only [List.length_cons, List.length_nil]; omega)
  · simp only [srtTI, dCallV, eqNil, dForR, dgFld, srtDO, pairs_inj, dMinDef, minDefO, dFzV, dLc2, dListZip, rows_inj, dTupleRg2, dDt1, dinT, tgetOp, tsPut, tkeyD_nats, dtO_inj, dtO_ne, dtO_ne2, dDk1, dicPO, dicPT, lenTO, tkeyD_strs, eqOwnL, eqPairs, eqOne, dJoin, dMk, dstart, ends, dVar, dC, dOp, i2, ltO, leO, gtO, geO, subO, dTest, dAnd, dOr, dNot, asV, dAndV, dOrV, dNotV, dIf, dNil, dCons, dStar, dTup, dLst, dNew, seqD, lstD, datD, eqOp, neOp, addOp, mulOp, mulM, addM, divOp, modOp, powOp, isOp, isntOp, dNext, dSeq, dDrop, dRet, dRetN, dIfS, dBreak, dCont, dNever, dFrz, dgName, dgNil, dgCons, dgTup, dgSub, dAsg, dSet, dPar, dAugI, dSeqI, dRng1, dRng2, dEnum, dFor, dLast, dLink, dCh, dYes, dLc, dCall, dCall0, dFld, dMeth, dMeth0, dFrzO, frzO, dCB, ob1, ob2, oI, ii2, lenO, intO, sumO, intsO, blsO, strsO, reprO, absO, maxO, minO, dmO, tupO, lstO, lstMO, maxLO, minLO, anyO, allO, strIO, srtSO, srtO, srtIO, numsD_lst, numsD_tup, nats_inj, nats_len, stepD_inj, nc0, nc1, nc2, nc3, nc4, nc5, nc6, nc7, nc8, nc9, nc10, nc11, nc12, nc13, nc14, nc15, nc16, nc17, nc18, nc19, nc20, appendM, popM, extendM, insertM, indexM, indexTM, updateM, dBMT, dBMT.tupT, dinOp, dgetOp, dGet2, dsPut, dNewK, dDc, dPar3, dNeg, dkO_inj, dkO_ne, dkO_ne2, lenM_dk, keyD_int, keyD_str, dic_dk, dicA_dk, moTy_dk, moTy_lst, moTy_none, dIsi, inOp, ixOp, dSl, slOp, dRev, dBM, dBM0, refL, tyD, lenM_lst, dNoP, dPart, dCallN, dMake, dProp, eqOwn, neOwn, lenOwn, strOwn, dIsO, dMethN, dsFld, dRevT, dStrI, insD_obj, insD_ref, isC_obj, isC_ref, isC_non, isC_bl, isC_int, isC_str, isC_tup, isC_lst, ex_ins2, beq_self_eq_true, Bool.not_eq_eq_eq_not, decide_true, decide_false, okN_bl, okN_int, okN_non, exists_and_left, and_assoc, List.cons.injEq, dListRg1, dListRg2, pick, List.filterMap_cons, List.filterMap_nil, List.set_cons_zero, List.set_cons_succ, List.getElem?_cons_zero, List.getElem?_cons_succ, List.getElem?_nil, List.length_cons, List.length_nil, List.length_append, List.length_map, List.length_range, rangeD_length, enumD_length, List.cons_append, List.nil_append, forall_const, true_implies, false_implies, reduceCtorEq, Bool.not_true, Bool.not_false, and_true, true_and, decide_eq_true_eq, decide_eq_false_iff_not, MH.put_same, if_true, if_false, not_true_eq_false, not_false_eq_true, exists_eq_left, exists_eq_left', Option.some.injEq, MO.lst.injEq, MH.put_put, at_0, at_1, at_2, at_3, Int.ofNat_lt, Int.ofNat_le, ix_30, ix_31, ix_32, Nat.zero_add, Int.zero_add, Nat.reduceAdd, D.lst.injEq, lenOk, Nat.reduceLeDiff, rowD_inj, strs_inj, ints_inj, ex_ins, tyNm, ts_NoneType_bool, ts_NoneType_int, ts_NoneType_str, ts_NoneType_tuple, ts_NoneType_list, ts_bool_bool, ts_bool_int, ts_bool_str, ts_bool_tuple, ts_bool_list, ts_int_bool, ts_int_int, ts_int_str, ts_int_tuple, ts_int_list, ts_str_bool, ts_str_int, ts_str_str, ts_str_tuple, ts_str_list, ts_tuple_bool, ts_tuple_int, ts_tuple_str, ts_tuple_tuple, ts_tuple_list, ts_list_bool, ts_list_int, ts_list_str, ts_list_tuple, ts_list_list, ts_dict_bool, ts_dict_int, ts_dict_str, ts_dict_tuple, ts_dict_list, ins_row, isC_row, row_ne, Int.natCast_inj, Int.toNat_natCast, D.int.injEq, D.str.injEq, D.bl.injEq, D.tup.injEq, D.ref.injEq, D.scr.injEq]
    refine lc_idx (fun _ => v) (by unfold lenOk; decide) ?_ ?_
    · intro p acc i hi C hp hC
      simp only [wipeD, d_law_kept_right_e2, dXf, srtTI, dCallV, eqNil, dForR, dgFld, srtDO, pairs_inj, dMinDef, minDefO, dFzV, dLc2, dListZip, rows_inj, dTupleRg2, dDt1, dinT, tgetOp, tsPut, tkeyD_nats, dtO_inj, dtO_ne, dtO_ne2, dDk1, dicPO, dicPT, lenTO, tkeyD_strs, eqOwnL, eqPairs, eqOne, dJoin, dMk, dstart, ends, dVar, dC, dOp, i2, ltO, leO, gtO, geO, subO, dTest, dAnd, dOr, dNot, asV, dAndV, dOrV, dNotV, dIf, dNil, dCons, dStar, dTup, dLst, dNew, seqD, lstD, datD, eqOp, neOp, addOp, mulOp, mulM, addM, divOp, modOp, powOp, isOp, isntOp, dNext, dSeq, dDrop, dRet, dRetN, dIfS, dBreak, dCont, dNever, dFrz, dgName, dgNil, dgCons, dgTup, dgSub, dAsg, dSet, dPar, dAugI, dSeqI, dRng1, dRng2, dEnum, dFor, dLast, dLink, dCh, dYes, dLc, dCall, dCall0, dFld, dMeth, dMeth0, dFrzO, frzO, dCB, ob1, ob2, oI, ii2, lenO, intO, sumO, intsO, blsO, strsO, reprO, absO, maxO, minO, dmO, tupO, lstO, lstMO, maxLO, minLO, anyO, allO, strIO, srtSO, srtO, srtIO, numsD_lst, numsD_tup, nats_inj, nats_len, stepD_inj, nc0, nc1, nc2, nc3, nc4, nc5, nc6, nc7, nc8, nc9, nc10, nc11, nc12, nc13, nc14, nc15, nc16, nc17, nc18, nc19, nc20, appendM, popM, extendM, insertM, indexM, indexTM, updateM, dBMT, dBMT.tupT, dinOp, dgetOp, dGet2, dsPut, dNewK, dDc, dPar3, dNeg, dkO_inj, dkO_ne, dkO_ne2, lenM_dk, keyD_int, keyD_str, dic_dk, dicA_dk, moTy_dk, moTy_lst, moTy_none, dIsi, inOp, ixOp, dSl, slOp, dRev, dBM, dBM0, refL, tyD, lenM_lst, dNoP, dPart, dCallN, dMake, dProp, eqOwn, neOwn, lenOwn, strOwn, dIsO, dMethN, dsFld, dRevT, dStrI, insD_obj, insD_ref, isC_obj, isC_ref, isC_non, isC_bl, isC_int, isC_str, isC_tup, isC_lst, ex_ins2, beq_self_eq_true, Bool.not_eq_eq_eq_not, decide_true, decide_false, okN_bl, okN_int, okN_non, exists_and_left, and_assoc, List.cons.injEq, dListRg1, dListRg2, pick, List.filterMap_cons, List.filterMap_nil, List.set_cons_zero, List.set_cons_succ, List.getElem?_cons_zero, List.getElem?_cons_succ, List.getElem?_nil, List.length_cons, List.length_nil, List.length_append, List.length_map, List.length_range, rangeD_length, enumD_length, List.cons_append, List.nil_append, forall_const, true_implies, false_implies, reduceCtorEq, Bool.not_true, Bool.not_false, and_true, true_and, decide_eq_true_eq, decide_eq_false_iff_not, MH.put_same, if_true, if_false, not_true_eq_false, not_false_eq_true, exists_eq_left, exists_eq_left', Option.some.injEq, MO.lst.injEq, MH.put_put, at_0, at_1, at_2, at_3, Int.ofNat_lt, Int.ofNat_le, ix_30, ix_31, ix_32, Nat.zero_add, Int.zero_add, Nat.reduceAdd, D.lst.injEq, lenOk, Nat.reduceLeDiff, rowD_inj, strs_inj, ints_inj, ex_ins, tyNm, ts_NoneType_bool, ts_NoneType_int, ts_NoneType_str, ts_NoneType_tuple, ts_NoneType_list, ts_bool_bool, ts_bool_int, ts_bool_str, ts_bool_tuple, ts_bool_list, ts_int_bool, ts_int_int, ts_int_str, ts_int_tuple, ts_int_list, ts_str_bool, ts_str_int, ts_str_str, ts_str_tuple, ts_str_list, ts_tuple_bool, ts_tuple_int, ts_tuple_str, ts_tuple_tuple, ts_tuple_list, ts_list_bool, ts_list_int, ts_list_str, ts_list_tuple, ts_list_list, ts_dict_bool, ts_dict_int, ts_dict_str, ts_dict_tuple, ts_dict_list, ins_row, isC_row, row_ne, Int.natCast_inj, Int.toNat_natCast, D.int.injEq, D.str.injEq, D.bl.injEq, D.tup.injEq, D.ref.injEq, D.scr.injEq]
      rcases i with _ | _ | _ | _ | _ | _ | i
      · exact look18 (C := fun w => C w _) (k := 7) (f := "index") (by decide) (by decide +kernel) rfl rfl hC
      · exact look18 (C := fun w => C w _) (k := 8) (f := "index") (by decide) (by decide +kernel) rfl rfl hC
      · exact look18 (C := fun w => C w _) (k := 9) (f := "index") (by decide) (by decide +kernel) rfl rfl hC
      · exact look18 (C := fun w => C w _) (k := 10) (f := "index") (by decide) (by decide +kernel) rfl rfl hC
      · exact look18 (C := fun w => C w _) (k := 11) (f := "index") (by decide) (by decide +kernel) rfl rfl hC
      · exact look18 (C := fun w => C w _) (k := 13) (f := "index") (by decide) (by decide +kernel) rfl rfl hC
      · exact absurd hi (by simp only [List.length_cons, List.length_nil]; omega)
    · simp only [srtTI, dCallV, eqNil, dForR, dgFld, srtDO, pairs_inj, dMinDef, minDefO, dFzV, dLc2, dListZip, rows_inj, dTupleRg2, dDt1, dinT, tgetOp, tsPut, tkeyD_nats, dtO_inj, dtO_ne, dtO_ne2, dDk1, dicPO, dicPT, lenTO, tkeyD_strs, eqOwnL, eqPairs, eqOne, dJoin, dMk, dstart, ends, dVar, dC, dOp, i2, ltO, leO, gtO, geO, subO, dTest, dAnd, dOr, dNot, asV, dAndV, dOrV, dNotV, dIf, dNil, dCons, dStar, dTup, dLst, dNew, seqD, lstD, datD, eqOp, neOp, addOp, mulOp, mulM, addM, divOp, modOp, powOp, isOp, isntOp, dNext, dSeq, dDrop, dRet, dRetN, dIfS, dBreak, dCont, dNever, dFrz, dgName, dgNil, dgCons, dgTup, dgSub, dAsg, dSet, dPar, dAugI, dSeqI, dRng1, dRng2, dEnum, dFor, dLast, dLink, dCh, dYes, dLc, dCall, dCall0, dFld, dMeth, dMeth0, dFrzO, frzO, dCB, ob1, ob2, oI, ii2, lenO, intO, sumO, intsO, blsO, strsO, reprO, absO, maxO, minO, dmO, tupO, lstO, lstMO, maxLO, minLO, anyO, allO, strIO, srtSO, srtO, srtIO, numsD_lst, numsD_tup, nats_inj, nats_len, stepD_inj, nc0, nc1, nc2, nc3, nc4, nc5, nc6, nc7, nc8, nc9, nc10, nc11, nc12, nc13, nc14, nc15, nc16, nc17, nc18, nc19, nc20, appendM, popM, extendM, insertM, indexM, indexTM, updateM, dBMT, dBMT.tupT, dinOp, dgetOp, dGet2, dsPut, dNewK, dDc, dPar3, dNeg, dkO_inj, dkO_ne, dkO_ne2, lenM_dk, keyD_int, keyD_str, dic_dk, dicA_dk, moTy_dk, moTy_lst, moTy_none, dIsi, inOp, ixOp, dSl, slOp, dRev, dBM, dBM0, refL, tyD, lenM_lst, dNoP, dPart, dCallN, dMake, dProp, eqOwn, neOwn, lenOwn, strOwn, dIsO, dMethN, dsFld, dRevT, dStrI, insD_obj, insD_ref, isC_obj, isC_ref, isC_non, isC_bl, isC_int, isC_str, isC_tup, isC_lst, ex_ins2, beq_self_eq_true, Bool.not_eq_eq_eq_not, decide_true, decide_false, okN_bl, okN_int, okN_non, exists_and_left, and_assoc, List.cons.injEq, dListRg1, dListRg2, pick, List.filterMap_cons, List.filterMap_nil, List.set_cons_zero, List.set_cons_succ, List.getElem?_cons_zero, List.getElem?_cons_succ, List.getElem?_nil, List.length_cons, List.length_nil, List.length_append, List.length_map, List.length_range, rangeD_length, enumD_length, List.cons_append, List.nil_append, forall_const, true_implies, false_implies, reduceCtorEq, Bool.not_true, Bool.not_false, and_true, true_and, decide_eq_true_eq, decide_eq_false_iff_not, MH.put_same, if_true, if_false, not_true_eq_false, not_false_eq_true, exists_eq_left, exists_eq_left', Option.some.injEq, MO.lst.injEq, MH.put_put, at_0, at_1, at_2, at_3, Int.ofNat_lt, Int.ofNat_le, ix_30, ix_31, ix_32, Nat.zero_add, Int.zero_add, Nat.reduceAdd, D.lst.injEq, lenOk, Nat.reduceLeDiff, rowD_inj, strs_inj, ints_inj, ex_ins, tyNm, ts_NoneType_bool, ts_NoneType_int, ts_NoneType_str, ts_NoneType_tuple, ts_NoneType_list, ts_bool_bool, ts_bool_int, ts_bool_str, ts_bool_tuple, ts_bool_list, ts_int_bool, ts_int_int, ts_int_str, ts_int_tuple, ts_int_list, ts_str_bool, ts_str_int, ts_str_str, ts_str_tuple, ts_str_list, ts_tuple_bool, ts_tuple_int, ts_tuple_str, ts_tuple_tuple, ts_tuple_list, ts_list_bool, ts_list_int, ts_list_str, ts_list_tuple, ts_list_list, ts_dict_bool, ts_dict_int, ts_dict_str, ts_dict_tuple, ts_dict_list, ins_row, isC_row, row_ne, Int.natCast_inj, Int.toNat_natCast, D.int.injEq, D.str.injEq, D.bl.injEq, D.tup.injEq, D.ref.injEq, D.scr.injEq]
      refine lc_idx (fun _ => v) (by unfold lenOk; decide) ?_ ?_
      · intro p acc i hi C hp hC
        simp only [wipeD, d_law_kept_right_e3, dXf, srtTI, dCallV, eqNil, dForR, dgFld, srtDO, pairs_inj, dMinDef, minDefO, dFzV, dLc2, dListZip, rows_inj, dTupleRg2, dDt1, dinT, tgetOp, tsPut, tkeyD_nats, dtO_inj, dtO_ne, dtO_ne2, dDk1, dicPO, dicPT, lenTO, tkeyD_strs, eqOwnL, eqPairs, eqOne, dJoin, dMk, dstart, ends, dVar, dC, dOp, i2, ltO, leO, gtO, geO, subO, dTest, dAnd, dOr, dNot, asV, dAndV, dOrV, dNotV, dIf, dNil, dCons, dStar, dTup, dLst, dNew, seqD, lstD, datD, eqOp, neOp, addOp, mulOp, mulM, addM, divOp, modOp, powOp, isOp, isntOp, dNext, dSeq, dDrop, dRet, dRetN, dIfS, dBreak, dCont, dNever, dFrz, dgName, dgNil, dgCons, dgTup, dgSub, dAsg, dSet, dPar, dAugI, dSeqI, dRng1, dRng2, dEnum, dFor, dLast, dLink, dCh, dYes, dLc, dCall, dCall0, dFld, dMeth, dMeth0, dFrzO, frzO, dCB, ob1, ob2, oI, ii2, lenO, intO, sumO, intsO, blsO, strsO, reprO, absO, maxO, minO, dmO, tupO, lstO, lstMO, maxLO, minLO, anyO, allO, strIO, srtSO, srtO, srtIO, numsD_lst, numsD_tup, nats_inj, nats_len, stepD_inj, nc0, nc1, nc2, nc3, nc4, nc5, nc6, nc7, nc8, nc9, nc10, nc11, nc12, nc13, nc14, nc15, nc16, nc17, nc18, nc19, nc20, appendM, popM, extendM, insertM, indexM, indexTM, updateM, dBMT, dBMT.tupT, dinOp, dgetOp, dGet2, dsPut, dNewK, dDc, dPar3, dNeg, dkO_inj, dkO_ne, dkO_ne2, lenM_dk, keyD_int, keyD_str, dic_dk, dicA_dk, moTy_dk, moTy_lst, moTy_none, dIsi, inOp, ixOp, dSl, slOp, dRev, dBM, dBM0, refL, tyD, lenM_lst, dNoP, dPart, dCallN, dMake, dProp, eqOwn, neOwn, lenOwn, strOwn, dIsO, dMethN, dsFld, dRevT, dStrI, insD_obj, insD_ref, isC_obj, isC_ref, isC_non, isC_bl, isC_int, isC_str, isC_tup, isC_lst, ex_ins2, beq_self_eq_true, Bool.not_eq_eq_eq_not, decide_true, decide_false, okN_bl, okN_int, okN_non, exists_and_left, and_assoc, List.cons.injEq, dListRg1, dListRg2, pick, List.filterMap_cons, List.filterMap_nil, List.set_cons_zero, List.set_cons_succ, List.getElem?_cons_zero, List.getElem?_cons_succ, List.getElem?_nil, List.length_cons, List.length_nil, List.length_append, List.length_map, List.length_range, rangeD_length, enumD_length, List.cons_append, List.nil_append, forall_const, true_implies, false_implies, reduceCtorEq, Bool.not_true, Bool.not_false, and_true, true_and, decide_eq_true_eq, decide_eq_false_iff_not, MH.put_same, if_true, if_false, not_true_eq_false, not_false_eq_true, exists_eq_left, exists_eq_left', Option.some.injEq, MO.lst.injEq, MH.put_put, at_0, at_1, at_2, at_3, Int.ofNat_lt, Int.ofNat_le, ix_30, ix_31, ix_32, Nat.zero_add, Int.zero_add, Nat.reduceAdd, D.lst.injEq, lenOk, Nat.reduceLeDiff, rowD_inj, strs_inj, ints_inj, ex_ins, tyNm, ts_NoneType_bool, ts_NoneType_int, ts_NoneType_str, ts_NoneType_tuple, ts_NoneType_list, ts_bool_bool, ts_bool_int, ts_bool_str, ts_bool_tuple, ts_bool_list, ts_int_bool, ts_int_int, ts_int_str, ts_int_tuple, ts_int_list, ts_str_bool, ts_str_int, ts_str_str, ts_str_tuple, ts_str_list, ts_tuple_bool, ts_tuple_int, ts_tuple_str, ts_tuple_tuple, ts_tuple_list, ts_list_bool, ts_list_int, ts_list_str, ts_list_tuple, ts_list_list, ts_dict_bool, ts_dict_int, ts_dict_str, ts_dict_tuple, ts_dict_list, ins_row, isC_row, row_ne, Int.natCast_inj, Int.toNat_natCast, D.int.injEq, D.str.injEq, D.bl.injEq, D.tup.injEq, D.ref.injEq, D.scr.injEq]
        rcases i with _ | i
        · exact look18 (C := fun w => C w _) (k := 15) (f := "most") (by decide) (by decide +kernel) rfl rfl hC
        · exact absurd hi (by simp only [List.length_cons, List.length_nil]; omega)
      · have ok15 : okN 50 (.lst (List.replicate 15 v)) := fun z hz => by
          obtain ⟨_, rfl⟩ := List.mem_replicate.mp hz
          exact okN_mono (m := 49) K.ok (by decide)
        have sh15 : showB (.lst (List.replicate 15 v)) = true := by
          refine showB_of 50 (by decide) ?_ ?_
          · have f := K.ft
            simp [fitsD, fitsL, List.replicate, f]
          · have b := K.bk
            simp only [bulkD, bulkL, List.replicate]
            omega
        have ok2 : okN 50 (.lst [v, .int 7]) := fun z hz => by
          simp only [List.mem_cons, List.not_mem_nil, or_false] at hz
          rcases hz with rfl | rfl
          · exact okN_mono (m := 49) K.ok (by decide)
          · exact trivial
        have sh2 : showB (.lst [v, .int 7]) = true := by
          refine showB_of 50 (by decide) ?_ ?_
          · have f := K.ft
            simp only [fitsD, fitsL, f, Bool.and_true, Bool.true_and]
            decide
          · have b := K.bk
            simp only [bulkD, bulkL]
            omega
        have a17 : atI ((List.range 18).map (exc18 v)) 17 = some (.exc "Broken" ["index", "shown"] [v, .int 7]) := atI_some (n := 17) rfl rfl
        simp only [srtTI, dCallV, eqNil, dForR, dgFld, srtDO, pairs_inj, dMinDef, minDefO, dFzV, dLc2, dListZip, rows_inj, dTupleRg2, dDt1, dinT, tgetOp, tsPut, tkeyD_nats, dtO_inj, dtO_ne, dtO_ne2, dDk1, dicPO, dicPT, lenTO, tkeyD_strs, eqOwnL, eqPairs, eqOne, dJoin, dMk, dstart, ends, dVar, dC, dOp, i2, ltO, leO, gtO, geO, subO, dTest, dAnd, dOr, dNot, asV, dAndV, dOrV, dNotV, dIf, dNil, dCons, dStar, dTup, dLst, dNew, seqD, lstD, datD, eqOp, neOp, addOp, mulOp, mulM, addM, divOp, modOp, powOp, isOp, isntOp, dNext, dSeq, dDrop, dRet, dRetN, dIfS, dBreak, dCont, dNever, dFrz, dgName, dgNil, dgCons, dgTup, dgSub, dAsg, dSet, dPar, dAugI, dSeqI, dRng1, dRng2, dEnum, dFor, dLast, dLink, dCh, dYes, dLc, dCall, dCall0, dFld, dMeth, dMeth0, dFrzO, frzO, dCB, ob1, ob2, oI, ii2, lenO, intO, sumO, intsO, blsO, strsO, reprO, absO, maxO, minO, dmO, tupO, lstO, lstMO, maxLO, minLO, anyO, allO, strIO, srtSO, srtO, srtIO, numsD_lst, numsD_tup, nats_inj, nats_len, stepD_inj, nc0, nc1, nc2, nc3, nc4, nc5, nc6, nc7, nc8, nc9, nc10, nc11, nc12, nc13, nc14, nc15, nc16, nc17, nc18, nc19, nc20, appendM, popM, extendM, insertM, indexM, indexTM, updateM, dBMT, dBMT.tupT, dinOp, dgetOp, dGet2, dsPut, dNewK, dDc, dPar3, dNeg, dkO_inj, dkO_ne, dkO_ne2, lenM_dk, keyD_int, keyD_str, dic_dk, dicA_dk, moTy_dk, moTy_lst, moTy_none, dIsi, inOp, ixOp, dSl, slOp, dRev, dBM, dBM0, refL, tyD, lenM_lst, dNoP, dPart, dCallN, dMake, dProp, eqOwn, neOwn, lenOwn, strOwn, dIsO, dMethN, dsFld, dRevT, dStrI, insD_obj, insD_ref, isC_obj, isC_ref, isC_non, isC_bl, isC_int, isC_str, isC_tup, isC_lst, ex_ins2, beq_self_eq_true, Bool.not_eq_eq_eq_not, decide_true, decide_false, okN_bl, okN_int, okN_non, exists_and_left, and_assoc, List.cons.injEq, dListRg1, dListRg2, pick, List.filterMap_cons, List.filterMap_nil, List.set_cons_zero, List.set_cons_succ, List.getElem?_cons_zero, List.getElem?_cons_succ, List.getElem?_nil, List.length_cons, List.length_nil, List.length_append, List.length_map, List.length_range, rangeD_length, enumD_length, List.cons_append, List.nil_append, forall_const, true_implies, false_implies, reduceCtorEq, Bool.not_true, Bool.not_false, and_true, true_and, decide_eq_true_eq, decide_eq_false_iff_not, MH.put_same, if_true, if_false, not_true_eq_false, not_false_eq_true, exists_eq_left, exists_eq_left', Option.some.injEq, MO.lst.injEq, MH.put_put, at_0, at_1, at_2, at_3, Int.ofNat_lt, Int.ofNat_le, ix_30, ix_31, ix_32, Nat.zero_add, Int.zero_add, Nat.reduceAdd, D.lst.injEq, lenOk, Nat.reduceLeDiff, rowD_inj, strs_inj, ints_inj, ex_ins, tyNm, ts_NoneType_bool, ts_NoneType_int, ts_NoneType_str, ts_NoneType_tuple, ts_NoneType_list, ts_bool_bool, ts_bool_int, ts_bool_str, ts_bool_tuple, ts_bool_list, ts_int_bool, ts_int_int, ts_int_str, ts_int_tuple, ts_int_list, ts_str_bool, ts_str_int, ts_str_str, ts_str_tuple, ts_str_list, ts_tuple_bool, ts_tuple_int, ts_tuple_str, ts_tuple_tuple, ts_tuple_list, ts_list_bool, ts_list_int, ts_list_str, ts_list_tuple, ts_list_list, ts_dict_bool, ts_dict_int, ts_dict_str, ts_dict_tuple, ts_dict_list, ins_row, isC_row, row_ne, Int.natCast_inj, Int.toNat_natCast, D.int.injEq, D.str.injEq, D.bl.injEq, D.tup.injEq, D.ref.injEq, D.scr.injEq]
        refine ⟨_, a17, ok15, sh15, by decide, by decide, ok15, sh15, ?_, fun z => absurd rfl z⟩
        intro _
        simp only [dXf, srtTI, dCallV, eqNil, dForR, dgFld, srtDO, pairs_inj, dMinDef, minDefO, dFzV, dLc2, dListZip, rows_inj, dTupleRg2, dDt1, dinT, tgetOp, tsPut, tkeyD_nats, dtO_inj, dtO_ne, dtO_ne2, dDk1, dicPO, dicPT, lenTO, tkeyD_strs, eqOwnL, eqPairs, eqOne, dJoin, dMk, dstart, ends, dVar, dC, dOp, i2, ltO, leO, gtO, geO, subO, dTest, dAnd, dOr, dNot, asV, dAndV, dOrV, dNotV, dIf, dNil, dCons, dStar, dTup, dLst, dNew, seqD, lstD, datD, eqOp, neOp, addOp, mulOp, mulM, addM, divOp, modOp, powOp, isOp, isntOp, dNext, dSeq, dDrop, dRet, dRetN, dIfS, dBreak, dCont, dNever, dFrz, dgName, dgNil, dgCons, dgTup, dgSub, dAsg, dSet, dPar, dAugI, dSeqI, dRng1, dRng2, dEnum, dFor, dLast, dLink, dCh, dYes, dLc, dCall, dCall0, dFld, dMeth, dMeth0, dFrzO, frzO, dCB, ob1, ob2, oI, ii2, lenO, intO, sumO, intsO, blsO, strsO, reprO, absO, maxO, minO, dmO, tupO, lstO, lstMO, maxLO, minLO, anyO, allO, strIO, srtSO, srtO, srtIO, numsD_lst, numsD_tup, nats_inj, nats_len, stepD_inj, nc0, nc1, nc2, nc3, nc4, nc5, nc6, nc7, nc8, nc9, nc10, nc11, nc12, nc13, nc14, nc15, nc16, nc17, nc18, nc19, nc20, appendM, popM, extendM, insertM, indexM, indexTM, updateM, dBMT, dBMT.tupT, dinOp, dgetOp, dGet2, dsPut, dNewK, dDc, dPar3, dNeg, dkO_inj, dkO_ne, dkO_ne2, lenM_dk, keyD_int, keyD_str, dic_dk, dicA_dk, moTy_dk, moTy_lst, moTy_none, dIsi, inOp, ixOp, dSl, slOp, dRev, dBM, dBM0, refL, tyD, lenM_lst, dNoP, dPart, dCallN, dMake, dProp, eqOwn, neOwn, lenOwn, strOwn, dIsO, dMethN, dsFld, dRevT, dStrI, insD_obj, insD_ref, isC_obj, isC_ref, isC_non, isC_bl, isC_int, isC_str, isC_tup, isC_lst, ex_ins2, beq_self_eq_true, Bool.not_eq_eq_eq_not, decide_true, decide_false, okN_bl, okN_int, okN_non, exists_and_left, and_assoc, List.cons.injEq, dListRg1, dListRg2, pick, List.filterMap_cons, List.filterMap_nil, List.set_cons_zero, List.set_cons_succ, List.getElem?_cons_zero, List.getElem?_cons_succ, List.getElem?_nil, List.length_cons, List.length_nil, List.length_append, List.length_map, List.length_range, rangeD_length, enumD_length, List.cons_append, List.nil_append, forall_const, true_implies, false_implies, reduceCtorEq, Bool.not_true, Bool.not_false, and_true, true_and, decide_eq_true_eq, decide_eq_false_iff_not, MH.put_same, if_true, if_false, not_true_eq_false, not_false_eq_true, exists_eq_left, exists_eq_left', Option.some.injEq, MO.lst.injEq, MH.put_put, at_0, at_1, at_2, at_3, Int.ofNat_lt, Int.ofNat_le, ix_30, ix_31, ix_32, Nat.zero_add, Int.zero_add, Nat.reduceAdd, D.lst.injEq, lenOk, Nat.reduceLeDiff, rowD_inj, strs_inj, ints_inj, ex_ins, tyNm, ts_NoneType_bool, ts_NoneType_int, ts_NoneType_str, ts_NoneType_tuple, ts_NoneType_list, ts_bool_bool, ts_bool_int, ts_bool_str, ts_bool_tuple, ts_bool_list, ts_int_bool, ts_int_int, ts_int_str, ts_int_tuple, ts_int_list, ts_str_bool, ts_str_int, ts_str_str, ts_str_tuple, ts_str_list, ts_tuple_bool, ts_tuple_int, ts_tuple_str, ts_tuple_tuple, ts_tuple_list, ts_list_bool, ts_list_int, ts_list_str, ts_list_tuple, ts_list_list, ts_dict_bool, ts_dict_int, ts_dict_str, ts_dict_tuple, ts_dict_list, ins_row, isC_row, row_ne, Int.natCast_inj, Int.toNat_natCast, D.int.injEq, D.str.injEq, D.bl.injEq, D.tup.injEq, D.ref.injEq, D.scr.injEq]
        exact ⟨by decide +kernel, v, by simp [List.lookup], by decide +kernel, .int 7, (by first | rfl | simp [List.lookup]), ok2, sh2, ok2, sh2, M, .refl, by rw [decide_eq_true rfl]; exact h⟩

theorem ok_law_kept_right (T : Txt ⟨P, Wd.w, K, mg, base⟩) : Cal ⟨P, Wd.w, K, mg, base⟩ "_law_kept_right" 1 ["_law_found", "_law_thing"] sp_law_kept_right := cal_mk T.t_law_kept_right F_law_kept_right (r_law_kept_right T) pl_law_kept_right
def sp_law_raised_right : DSp := fun ds M Q _ => match ds with
  | [v] => KpV v ∧ Q (.bl true) M
  | _ => False

def d_law_raised_right : DS :=
  (dSeq (dSet 1 (dNew dNil))
    (dSeq (dTry (dRaise1 "InvalidText" "given" (dVar 0)) (dHAs exsT "NotRight" 2 (dDrop (dBM "list" appendM (dVar 1) (dCons (dCB (ob1 reprO) (dCons (dXf exfT "given" (dVar 2)) dNil)) dNil))) dHNil))
    (dSeq (dTry (dRaise1 "UnknownName" "given" (dVar 0)) (dHAs exsT "NotThere" 2 (dDrop (dBM "list" appendM (dVar 1) (dCons (dCB (ob1 reprO) (dCons (dXf exfT "given" (dVar 2)) dNil)) dNil))) dHNil))
    (dSeq (dTry (dRaise2 "Broken" "index" "shown" (dCons (dVar 0) (dCons (dC (.int 3)) dNil))) (dHAs exsT "CannotBe" 2 (dDrop (dBM "list" appendM (dVar 1) (dCons (dCB (ob1 reprO) (dCons (dXf exfT "index" (dVar 2)) dNil)) dNil))) dHNil))
    (dRet (dOp eqOp (dVar 1) (dOp mulOp (dLst (dCons (dCB (ob1 reprO) (dCons (dVar 0) dNil)) dNil)) (dC (.int 3)))))))))
theorem st_law_raised_right (v0 : D) : dstart N_law_raised_right [v0] = [some v0, none, none] := rfl
theorem r_law_raised_right (T : Txt ⟨P, Wd.w, K, mg, base⟩) : DPSs ⟨P, Wd.w, K, mg, base⟩ (Sx.fn N_law_raised_right (defScope s_law_raised_right) 0) (defBody s_law_raised_right) d_law_raised_right :=
  (dpss_cons (dps_set L_law_raised_right 1 (dp_new dpa_nil))
    (by exact (dpss_cons (dps_try (dpss_one (dps_raise1 T.x_InvalidText.c S_law_raised_right (dp_var S_law_raised_right 0))) (dh_as T.ek S_law_raised_right T.g_NotRight 2 (dpss_one (dps_expr (dp_bm pa_list sl_list_append ty_list_append (fun _ _ => mb_append) (dp_var S_law_raised_right 1) (dpa_cons (dp_callB S_law_raised_right T.z_repr (fun X ft => (cb_repr ft)) boot_repr (dpa_cons (dp_xf T.xk (dp_var S_law_raised_right 2)) dpa_nil)) dpa_nil)))) dh_nil (by decide +kernel)))
    (by exact (dpss_cons (dps_try (dpss_one (dps_raise1 T.x_UnknownName.c S_law_raised_right (dp_var S_law_raised_right 0))) (dh_as T.ek S_law_raised_right T.g_NotThere 2 (dpss_one (dps_expr (dp_bm pa_list sl_list_append ty_list_append (fun _ _ => mb_append) (dp_var S_law_raised_right 1) (dpa_cons (dp_callB S_law_raised_right T.z_repr (fun X ft => (cb_repr ft)) boot_repr (dpa_cons (dp_xf T.xk (dp_var S_law_raised_right 2)) dpa_nil)) dpa_nil)))) dh_nil (by decide +kernel)))
    (by exact (dpss_cons (dps_try (dpss_one (dps_raise2 T.x_Broken.c S_law_raised_right (dpa_cons (dp_var S_law_raised_right 0) (by exact (dpa_cons dp_int dpa_nil))))) (dh_as T.ek S_law_raised_right T.g_CannotBe 2 (dpss_one (dps_expr (dp_bm pa_list sl_list_append ty_list_append (fun _ _ => mb_append) (dp_var S_law_raised_right 1) (dpa_cons (dp_callB S_law_raised_right T.z_repr (fun X ft => (cb_repr ft)) boot_repr (dpa_cons (dp_xf T.xk (dp_var S_law_raised_right 2)) dpa_nil)) dpa_nil)))) dh_nil (by decide +kernel)))
    (by exact (dpss_one (dps_ret (dp_cmp (fun _ ft => opD_eq ft) (dp_var S_law_raised_right 1) (dp_bin (fun _ ft => opD_mul ft) (dp_lst (dpa_cons (dp_callB S_law_raised_right T.z_repr (fun X ft => (cb_repr ft)) boot_repr (dpa_cons (dp_var S_law_raised_right 0) dpa_nil)) dpa_nil)) dp_int) (by with_unfolding_all rfl))))))))))))
theorem pl_law_raised_right (ds : List D) (M : MH) (Q : DQ) (E : Er → MH → Prop) (hl : ds.length = 1) (h : sp_law_raised_right ds M Q E) : d_law_raised_right (ends Q) (fun er _ M => E er M) (dstart N_law_raised_right ds) M := by
  unfold sp_law_raised_right at h
  split at h
  case h_2 => exact h.elim
  rename_i v
  rw [st_law_raised_right]
  obtain ⟨K, h⟩ := h
  simp only [d_law_raised_right, dRaise2, dHAsT, esAny, dIsE, dCallH, dRaise0, dRaise1, dTry, dHNil, dHOne, dHAs, dXf, goneD, dAct, dLam, Option.some.injEq, exists_eq_left', exs_0, exs_1, exs_2, exs_3, exs_4, exs_5, exs_6, exs_7, exs_8, exs_9, exs_10, exs_11, exs_12, exs_13, exs_14, exs_15, exs_16, exs_17, exs_18, exs_19, exs_20, exs_21, exs_22, exs_23, exs_24, exs_25, exs_26, exs_27, exs_28, exs_29, exs_30, exs_31, exs_32, exs_33, exs_34, exs_35, exs_36, exs_37, exs_38, exs_39, exs_40, exs_41, exs_42, exs_43, exs_44, exs_45, exs_46, exs_47, exs_48, exs_49, exs_50, exs_51, exs_52, exs_53, exs_54, exs_55, exs_56, exs_57, exs_58, exs_59, exs_60, exs_61, exs_62, exf_0, exf_1, exf_2, exf_3, exf_4, exf_5, exf_6, exf_7, exf_8, exf_9, exf_10, exf_11, exf_12, exf_13, exf_14, exf_15, exf_16, srtTI, dCallV, eqNil, dForR, dgFld, srtDO, pairs_inj, dMinDef, minDefO, dFzV, dLc2, dListZip, rows_inj, dTupleRg2, dDt1, dinT, tgetOp, tsPut, tkeyD_nats, dtO_inj, dtO_ne, dtO_ne2, dDk1, dicPO, dicPT, lenTO, tkeyD_strs, eqOwnL, eqPairs, eqOne, dJoin, dMk, dstart, ends, dVar, dC, dOp, i2, ltO, leO, gtO, geO, subO, dTest, dAnd, dOr, dNot, asV, dAndV, dOrV, dNotV, dIf, dNil, dCons, dStar, dTup, dLst, dNew, seqD, lstD, datD, eqOp, neOp, addOp, mulOp, mulM, addM, divOp, modOp, powOp, isOp, isntOp, dNext, dSeq, dDrop, dRet, dRetN, dIfS, dBreak, dCont, dNever, dFrz, dgName, dgNil, dgCons, dgTup, dgSub, dAsg, dSet, dPar, dAugI, dSeqI, dRng1, dRng2, dEnum, dFor, dLast, dLink, dCh, dYes, dLc, dCall, dCall0, dFld, dMeth, dMeth0, dFrzO, frzO, dCB, ob1, ob2, oI, ii2, lenO, intO, sumO, intsO, blsO, strsO, reprO, absO, maxO, minO, dmO, tupO, lstO, lstMO, maxLO, minLO, anyO, allO, strIO, srtSO, srtO, srtIO, numsD_lst, numsD_tup, nats_inj, nats_len, stepD_inj, nc0, nc1, nc2, nc3, nc4, nc5, nc6, nc7, nc8, nc9, nc10, nc11, nc12, nc13, nc14, nc15, nc16, nc17, nc18, nc19, nc20, appendM, popM, extendM, insertM, indexM, indexTM, updateM, dBMT, dBMT.tupT, dinOp, dgetOp, dGet2, dsPut, dNewK, dDc, dPar3, dNeg, dkO_inj, dkO_ne, dkO_ne2, lenM_dk, keyD_int, keyD_str, dic_dk, dicA_dk, moTy_dk, moTy_lst, moTy_none, dIsi, inOp, ixOp, dSl, slOp, dRev, dBM, dBM0, refL, tyD, lenM_lst, dNoP, dPart, dCallN, dMake, dProp, eqOwn, neOwn, lenOwn, strOwn, dIsO, dMethN, dsFld, dRevT, dStrI, insD_obj, insD_ref, isC_obj, isC_ref, isC_non, isC_bl, isC_int, isC_str, isC_tup, isC_lst, ex_ins2, beq_self_eq_true, Bool.not_eq_eq_eq_not, decide_true, decide_false, okN_bl, okN_int, okN_non, exists_and_left, and_assoc, List.cons.injEq, dListRg1, dListRg2, pick, List.filterMap_cons, List.filterMap_nil, List.set_cons_zero, List.set_cons_succ, List.getElem?_cons_zero, List.getElem?_cons_succ, List.getElem?_nil, List.length_cons, List.length_nil, List.length_append, List.length_map, List.length_range, rangeD_length, enumD_length, List.cons_append, List.nil_append, forall_const, true_implies, false_implies, reduceCtorEq, Bool.not_true, Bool.not_false, and_true, true_and, decide_eq_true_eq, decide_eq_false_iff_not, MH.put_same, if_true, if_false, not_true_eq_false, not_false_eq_true, exists_eq_left, exists_eq_left', Option.some.injEq, MO.lst.injEq, MH.put_put, at_0, at_1, at_2, at_3, Int.ofNat_lt, Int.ofNat_le, ix_30, ix_31, ix_32, Nat.zero_add, Int.zero_add, Nat.reduceAdd, D.lst.injEq, lenOk, Nat.reduceLeDiff, rowD_inj, strs_inj, ints_inj, ex_ins, tyNm, ts_NoneType_bool, ts_NoneType_int, ts_NoneType_str, ts_NoneType_tuple, ts_NoneType_list, ts_bool_bool, ts_bool_int, ts_bool_str, ts_bool_tuple, ts_bool_list, ts_int_bool, ts_int_int, ts_int_str, ts_int_tuple, ts_int_list, ts_str_bool, ts_str_int, ts_str_str, ts_str_tuple, ts_str_list, ts_tuple_bool, ts_tuple_int, ts_tuple_str, ts_tuple_tuple, ts_tuple_list, ts_list_bool, ts_list_int, ts_list_str, ts_list_tuple, ts_list_list, ts_dict_bool, ts_dict_int, ts_dict_str, ts_dict_tuple, ts_dict_list, ins_row, isC_row, row_ne, Int.natCast_inj, Int.toNat_natCast, D.int.injEq, D.str.injEq, D.bl.injEq, D.tup.injEq, D.ref.injEq, D.scr.injEq]
  intro p hp
  refine ⟨_, look1, datD_of K.no ⟨okN_mono K.ok (by decide), K.sh.sh, ?_⟩⟩
  refine ⟨_, look1, datD_of K.no ⟨okN_mono K.ok (by decide), K.sh.sh, ?_⟩⟩
  have sk := tx_shown 40 v K.ok
  have okS : okN 50 (.lst [.str v.py.shown, .str v.py.shown, .str v.py.shown]) := fun z hz => by
    simp only [List.mem_cons, List.not_mem_nil, or_false, or_self] at hz
    subst hz; exact sk
  refine ⟨_, by simp [List.lookup], datD_of K.no ⟨okN_mono K.ok (by decide), K.sh.sh, datD_of K.no ⟨okN_mono K.ok (by decide), K.sh.sh, by decide, by decide, okS, okS, _, .put .refl hp, ?_⟩⟩⟩
  have e : eqD (.lst [.str v.py.shown, .str v.py.shown, .str v.py.shown]) (.lst (List.replicate (Int.toNat 3) [D.str v.py.shown]).flatten) = true := by
    rw [show (List.replicate (Int.toNat 3) [D.str v.py.shown]).flatten = [.str v.py.shown, .str v.py.shown, .str v.py.shown] from rfl]
    simp [eqD, eqDL]
  rw [e]
  exact h

theorem ok_law_raised_right (T : Txt ⟨P, Wd.w, K, mg, base⟩) : Cal ⟨P, Wd.w, K, mg, base⟩ "_law_raised_right" 1 ["_law_thing"] sp_law_raised_right := cal_mk T.t_law_raised_right F_law_raised_right (r_law_raised_right T) pl_law_raised_right
def sp_law_right : DSp := fun ds M Q _ => match ds with
  | [v] => KpV v ∧ Q (.bl true) M
  | _ => False

def d_law_right_e1 : DE :=
  (dOp eqOp (dVar 4) (dVar 2))
def d_law_right_b2 : DS :=
  (dSeq (dSet 3 (dLc (dRng1 (dCons (dCB (ob1 lenO) (dCons (dVar 1) dNil)) dNil)) (dgName 4) dYes d_law_right_e1 [4]))
    (dIfS (dOr (dTest (dOp neOp (dCall 1 sp_law_sorts (dCons (dOp ixOp (dVar 1) (dVar 2)) dNil)) (dVar 3))) (dTest (dOp neOp (dCall 1 sp_law_bases (dCons (dOp ixOp (dVar 1) (dVar 2)) dNil)) (dCall 1 sp_law_due (dCons (dVar 2) dNil))))) (dRet (dC (.bl false))) dNext))
def d_law_right_r2 : DS :=
  (dIfS (dNot (dTest (dCall 2 sp_law_kept_right (dCons (dVar 1) (dCons (dVar 0) dNil))))) (dRet (dC (.bl false))) dNext)
def d_law_right_b1 : DS :=
  (dSeq (dFor (dRng1 (dCons (dCB (ob1 lenO) (dCons (dVar 1) dNil)) dNil)) (dgName 2) d_law_right_b2)
    d_law_right_r2)
def d_law_right_r1 : DS :=
  (dRet (dCall 1 sp_law_raised_right (dCons (dVar 0) dNil)))
def d_law_right : DS :=
  (dSeq (dFor (dSeqI (dCall 1 sp_law_given (dCons (dVar 0) dNil))) (dgName 1) d_law_right_b1)
    d_law_right_r1)
theorem st_law_right (v0 : D) : dstart N_law_right [v0] = [some v0, none, none, none, none] := rfl
theorem r_law_right (T : Txt ⟨P, Wd.w, K, mg, base⟩) : DPSs ⟨P, Wd.w, K, mg, base⟩ (Sx.fn N_law_right (defScope s_law_right) 1) (defBody s_law_right) d_law_right :=
  (dpss_cons (dps_for (dpi_seq (dp_call (ok_law_given T) S_law_right (dpa_cons (dp_var S_law_right 0) dpa_nil))) (dpg_name L_law_right 1) (dpss_cons (dps_for (dpi_range1 S_law_right T.z_range (dpa_cons (dp_callB S_law_right T.z_len (fun X ft => cb_len) boot_len (dpa_cons (dp_var S_law_right 1) dpa_nil)) dpa_nil)) (dpg_name L_law_right 2) (dpss_cons (dps_setLc L_law_right 3 [("_law_at", 4)] (by decide +kernel) (dpi_range1 S_law_right T.z_range (dpa_cons (dp_callB S_law_right T.z_len (fun X ft => cb_len) boot_len (dpa_cons (dp_var S_law_right 1) dpa_nil)) dpa_nil)) (dpg_name (stOk_of (ls := [4]) (by decide +kernel)) 4) dpts_nil (dp_cmp (fun _ ft => opD_eq ft) (dp_var (scOk_of (vs := [4, 2]) (gs := []) (by decide +kernel)) 4) (dp_var (scOk_of (vs := [4, 2]) (gs := []) (by decide +kernel)) 2) (by with_unfolding_all rfl)))
    (by exact (dpss_one (dps_if (DPW.pt (dpw_or (dpt_cmp (fun _ ft => opD_ne ft) (dp_call (ok_law_sorts T) S_law_right (dpa_cons (dp_ix (dp_var S_law_right 1) (dp_var S_law_right 2)) dpa_nil)) (dp_var S_law_right 3) (by with_unfolding_all rfl)) (dpw_or1 (dpt_cmp (fun _ ft => opD_ne ft) (dp_call (ok_law_bases T) S_law_right (dpa_cons (dp_ix (dp_var S_law_right 1) (dp_var S_law_right 2)) dpa_nil)) (dp_call (ok_law_due T) S_law_right (dpa_cons (dp_var S_law_right 2) dpa_nil)) (by with_unfolding_all rfl))))) (dpss_one (dps_ret dp_bl)) dpss_nil)))))
    (by exact (dpss_one (dps_if (dpt_not (dpt_val (dp_call (ok_law_kept_right T) S_law_right (dpa_cons (dp_var S_law_right 1) (by exact (dpa_cons (dp_var S_law_right 0) dpa_nil)))))) (dpss_one (dps_ret dp_bl)) dpss_nil)))))
    (by exact (dpss_one (dps_ret (dp_call (ok_law_raised_right T) S_law_right (dpa_cons (dp_var S_law_right 0) dpa_nil))))))
theorem pl_law_right (ds : List D) (M : MH) (Q : DQ) (E : Er → MH → Prop) (hl : ds.length = 1) (h : sp_law_right ds M Q E) : d_law_right (ends Q) (fun er _ M => E er M) (dstart N_law_right ds) M := by
  unfold sp_law_right at h
  split at h
  case h_2 => exact h.elim
  rename_i v
  rw [st_law_right]
  obtain ⟨K, h⟩ := h
  simp only [d_law_right, sp_law_given, srtTI, dCallV, eqNil, dForR, dgFld, srtDO, pairs_inj, dMinDef, minDefO, dFzV, dLc2, dListZip, rows_inj, dTupleRg2, dDt1, dinT, tgetOp, tsPut, tkeyD_nats, dtO_inj, dtO_ne, dtO_ne2, dDk1, dicPO, dicPT, lenTO, tkeyD_strs, eqOwnL, eqPairs, eqOne, dJoin, dMk, dstart, ends, dVar, dC, dOp, i2, ltO, leO, gtO, geO, subO, dTest, dAnd, dOr, dNot, asV, dAndV, dOrV, dNotV, dIf, dNil, dCons, dStar, dTup, dLst, dNew, seqD, lstD, datD, eqOp, neOp, addOp, mulOp, mulM, addM, divOp, modOp, powOp, isOp, isntOp, dNext, dSeq, dDrop, dRet, dRetN, dIfS, dBreak, dCont, dNever, dFrz, dgName, dgNil, dgCons, dgTup, dgSub, dAsg, dSet, dPar, dAugI, dSeqI, dRng1, dRng2, dEnum, dFor, dLast, dLink, dCh, dYes, dLc, dCall, dCall0, dFld, dMeth, dMeth0, dFrzO, frzO, dCB, ob1, ob2, oI, ii2, lenO, intO, sumO, intsO, blsO, strsO, reprO, absO, maxO, minO, dmO, tupO, lstO, lstMO, maxLO, minLO, anyO, allO, strIO, srtSO, srtO, srtIO, numsD_lst, numsD_tup, nats_inj, nats_len, stepD_inj, nc0, nc1, nc2, nc3, nc4, nc5, nc6, nc7, nc8, nc9, nc10, nc11, nc12, nc13, nc14, nc15, nc16, nc17, nc18, nc19, nc20, appendM, popM, extendM, insertM, indexM, indexTM, updateM, dBMT, dBMT.tupT, dinOp, dgetOp, dGet2, dsPut, dNewK, dDc, dPar3, dNeg, dkO_inj, dkO_ne, dkO_ne2, lenM_dk, keyD_int, keyD_str, dic_dk, dicA_dk, moTy_dk, moTy_lst, moTy_none, dIsi, inOp, ixOp, dSl, slOp, dRev, dBM, dBM0, refL, tyD, lenM_lst, dNoP, dPart, dCallN, dMake, dProp, eqOwn, neOwn, lenOwn, strOwn, dIsO, dMethN, dsFld, dRevT, dStrI, insD_obj, insD_ref, isC_obj, isC_ref, isC_non, isC_bl, isC_int, isC_str, isC_tup, isC_lst, ex_ins2, beq_self_eq_true, Bool.not_eq_eq_eq_not, decide_true, decide_false, okN_bl, okN_int, okN_non, exists_and_left, and_assoc, List.cons.injEq, dListRg1, dListRg2, pick, List.filterMap_cons, List.filterMap_nil, List.set_cons_zero, List.set_cons_succ, List.getElem?_cons_zero, List.getElem?_cons_succ, List.getElem?_nil, List.length_cons, List.length_nil, List.length_append, List.length_map, List.length_range, rangeD_length, enumD_length, List.cons_append, List.nil_append, forall_const, true_implies, false_implies, reduceCtorEq, Bool.not_true, Bool.not_false, and_true, true_and, decide_eq_true_eq, decide_eq_false_iff_not, MH.put_same, if_true, if_false, not_true_eq_false, not_false_eq_true, exists_eq_left, exists_eq_left', Option.some.injEq, MO.lst.injEq, MH.put_put, at_0, at_1, at_2, at_3, Int.ofNat_lt, Int.ofNat_le, ix_30, ix_31, ix_32, Nat.zero_add, Int.zero_add, Nat.reduceAdd, D.lst.injEq, lenOk, Nat.reduceLeDiff, rowD_inj, strs_inj, ints_inj, ex_ins, tyNm, ts_NoneType_bool, ts_NoneType_int, ts_NoneType_str, ts_NoneType_tuple, ts_NoneType_list, ts_bool_bool, ts_bool_int, ts_bool_str, ts_bool_tuple, ts_bool_list, ts_int_bool, ts_int_int, ts_int_str, ts_int_tuple, ts_int_list, ts_str_bool, ts_str_int, ts_str_str, ts_str_tuple, ts_str_list, ts_tuple_bool, ts_tuple_int, ts_tuple_str, ts_tuple_tuple, ts_tuple_list, ts_list_bool, ts_list_int, ts_list_str, ts_list_tuple, ts_list_list, ts_dict_bool, ts_dict_int, ts_dict_str, ts_dict_tuple, ts_dict_list, ins_row, isC_row, row_ne, Int.natCast_inj, Int.toNat_natCast, D.int.injEq, D.str.injEq, D.bl.injEq, D.tup.injEq, D.ref.injEq, D.scr.injEq]
  refine for_list (fun k σ M' => M' = M ∧ ∃ o1 o2 o3 o4, σ = [some v, o1, o2, o3, o4]) ⟨rfl, _, _, _, _, rfl⟩ ?_ ?_
  · rintro σ M' ⟨rfl, o1, o2, o3, o4, rfl⟩
    simp only [d_law_right_r1, sp_law_raised_right, srtTI, dCallV, eqNil, dForR, dgFld, srtDO, pairs_inj, dMinDef, minDefO, dFzV, dLc2, dListZip, rows_inj, dTupleRg2, dDt1, dinT, tgetOp, tsPut, tkeyD_nats, dtO_inj, dtO_ne, dtO_ne2, dDk1, dicPO, dicPT, lenTO, tkeyD_strs, eqOwnL, eqPairs, eqOne, dJoin, dMk, dstart, ends, dVar, dC, dOp, i2, ltO, leO, gtO, geO, subO, dTest, dAnd, dOr, dNot, asV, dAndV, dOrV, dNotV, dIf, dNil, dCons, dStar, dTup, dLst, dNew, seqD, lstD, datD, eqOp, neOp, addOp, mulOp, mulM, addM, divOp, modOp, powOp, isOp, isntOp, dNext, dSeq, dDrop, dRet, dRetN, dIfS, dBreak, dCont, dNever, dFrz, dgName, dgNil, dgCons, dgTup, dgSub, dAsg, dSet, dPar, dAugI, dSeqI, dRng1, dRng2, dEnum, dFor, dLast, dLink, dCh, dYes, dLc, dCall, dCall0, dFld, dMeth, dMeth0, dFrzO, frzO, dCB, ob1, ob2, oI, ii2, lenO, intO, sumO, intsO, blsO, strsO, reprO, absO, maxO, minO, dmO, tupO, lstO, lstMO, maxLO, minLO, anyO, allO, strIO, srtSO, srtO, srtIO, numsD_lst, numsD_tup, nats_inj, nats_len, stepD_inj, nc0, nc1, nc2, nc3, nc4, nc5, nc6, nc7, nc8, nc9, nc10, nc11, nc12, nc13, nc14, nc15, nc16, nc17, nc18, nc19, nc20, appendM, popM, extendM, insertM, indexM, indexTM, updateM, dBMT, dBMT.tupT, dinOp, dgetOp, dGet2, dsPut, dNewK, dDc, dPar3, dNeg, dkO_inj, dkO_ne, dkO_ne2, lenM_dk, keyD_int, keyD_str, dic_dk, dicA_dk, moTy_dk, moTy_lst, moTy_none, dIsi, inOp, ixOp, dSl, slOp, dRev, dBM, dBM0, refL, tyD, lenM_lst, dNoP, dPart, dCallN, dMake, dProp, eqOwn, neOwn, lenOwn, strOwn, dIsO, dMethN, dsFld, dRevT, dStrI, insD_obj, insD_ref, isC_obj, isC_ref, isC_non, isC_bl, isC_int, isC_str, isC_tup, isC_lst, ex_ins2, beq_self_eq_true, Bool.not_eq_eq_eq_not, decide_true, decide_false, okN_bl, okN_int, okN_non, exists_and_left, and_assoc, List.cons.injEq, dListRg1, dListRg2, pick, List.filterMap_cons, List.filterMap_nil, List.set_cons_zero, List.set_cons_succ, List.getElem?_cons_zero, List.getElem?_cons_succ, List.getElem?_nil, List.length_cons, List.length_nil, List.length_append, List.length_map, List.length_range, rangeD_length, enumD_length, List.cons_append, List.nil_append, forall_const, true_implies, false_implies, reduceCtorEq, Bool.not_true, Bool.not_false, and_true, true_and, decide_eq_true_eq, decide_eq_false_iff_not, MH.put_same, if_true, if_false, not_true_eq_false, not_false_eq_true, exists_eq_left, exists_eq_left', Option.some.injEq, MO.lst.injEq, MH.put_put, at_0, at_1, at_2, at_3, Int.ofNat_lt, Int.ofNat_le, ix_30, ix_31, ix_32, Nat.zero_add, Int.zero_add, Nat.reduceAdd, D.lst.injEq, lenOk, Nat.reduceLeDiff, rowD_inj, strs_inj, ints_inj, ex_ins, tyNm, ts_NoneType_bool, ts_NoneType_int, ts_NoneType_str, ts_NoneType_tuple, ts_NoneType_list, ts_bool_bool, ts_bool_int, ts_bool_str, ts_bool_tuple, ts_bool_list, ts_int_bool, ts_int_int, ts_int_str, ts_int_tuple, ts_int_list, ts_str_bool, ts_str_int, ts_str_str, ts_str_tuple, ts_str_list, ts_tuple_bool, ts_tuple_int, ts_tuple_str, ts_tuple_tuple, ts_tuple_list, ts_list_bool, ts_list_int, ts_list_str, ts_list_tuple, ts_list_list, ts_dict_bool, ts_dict_int, ts_dict_str, ts_dict_tuple, ts_dict_list, ins_row, isC_row, row_ne, Int.natCast_inj, Int.toNat_natCast, D.int.injEq, D.str.injEq, D.bl.injEq, D.tup.injEq, D.ref.injEq, D.scr.injEq]
    exact ⟨K, M', .refl, h⟩
  · rintro k σ M' hk ⟨rfl, o1, o2, o3, o4, rfl⟩
    have ek : [all18 v, all18 v][k] = all18 v := match k, hk with | 0, _ => rfl | 1, _ => rfl
    rw [ek]
    unfold all18
    simp only [d_law_right_b1, srtTI, dCallV, eqNil, dForR, dgFld, srtDO, pairs_inj, dMinDef, minDefO, dFzV, dLc2, dListZip, rows_inj, dTupleRg2, dDt1, dinT, tgetOp, tsPut, tkeyD_nats, dtO_inj, dtO_ne, dtO_ne2, dDk1, dicPO, dicPT, lenTO, tkeyD_strs, eqOwnL, eqPairs, eqOne, dJoin, dMk, dstart, ends, dVar, dC, dOp, i2, ltO, leO, gtO, geO, subO, dTest, dAnd, dOr, dNot, asV, dAndV, dOrV, dNotV, dIf, dNil, dCons, dStar, dTup, dLst, dNew, seqD, lstD, datD, eqOp, neOp, addOp, mulOp, mulM, addM, divOp, modOp, powOp, isOp, isntOp, dNext, dSeq, dDrop, dRet, dRetN, dIfS, dBreak, dCont, dNever, dFrz, dgName, dgNil, dgCons, dgTup, dgSub, dAsg, dSet, dPar, dAugI, dSeqI, dRng1, dRng2, dEnum, dFor, dLast, dLink, dCh, dYes, dLc, dCall, dCall0, dFld, dMeth, dMeth0, dFrzO, frzO, dCB, ob1, ob2, oI, ii2, lenO, intO, sumO, intsO, blsO, strsO, reprO, absO, maxO, minO, dmO, tupO, lstO, lstMO, maxLO, minLO, anyO, allO, strIO, srtSO, srtO, srtIO, numsD_lst, numsD_tup, nats_inj, nats_len, stepD_inj, nc0, nc1, nc2, nc3, nc4, nc5, nc6, nc7, nc8, nc9, nc10, nc11, nc12, nc13, nc14, nc15, nc16, nc17, nc18, nc19, nc20, appendM, popM, extendM, insertM, indexM, indexTM, updateM, dBMT, dBMT.tupT, dinOp, dgetOp, dGet2, dsPut, dNewK, dDc, dPar3, dNeg, dkO_inj, dkO_ne, dkO_ne2, lenM_dk, keyD_int, keyD_str, dic_dk, dicA_dk, moTy_dk, moTy_lst, moTy_none, dIsi, inOp, ixOp, dSl, slOp, dRev, dBM, dBM0, refL, tyD, lenM_lst, dNoP, dPart, dCallN, dMake, dProp, eqOwn, neOwn, lenOwn, strOwn, dIsO, dMethN, dsFld, dRevT, dStrI, insD_obj, insD_ref, isC_obj, isC_ref, isC_non, isC_bl, isC_int, isC_str, isC_tup, isC_lst, ex_ins2, beq_self_eq_true, Bool.not_eq_eq_eq_not, decide_true, decide_false, okN_bl, okN_int, okN_non, exists_and_left, and_assoc, List.cons.injEq, dListRg1, dListRg2, pick, List.filterMap_cons, List.filterMap_nil, List.set_cons_zero, List.set_cons_succ, List.getElem?_cons_zero, List.getElem?_cons_succ, List.getElem?_nil, List.length_cons, List.length_nil, List.length_append, List.length_map, List.length_range, rangeD_length, enumD_length, List.cons_append, List.nil_append, forall_const, true_implies, false_implies, reduceCtorEq, Bool.not_true, Bool.not_false, and_true, true_and, decide_eq_true_eq, decide_eq_false_iff_not, MH.put_same, if_true, if_false, not_true_eq_false, not_false_eq_true, exists_eq_left, exists_eq_left', Option.some.injEq, MO.lst.injEq, MH.put_put, at_0, at_1, at_2, at_3, Int.ofNat_lt, Int.ofNat_le, ix_30, ix_31, ix_32, Nat.zero_add, Int.zero_add, Nat.reduceAdd, D.lst.injEq, lenOk, Nat.reduceLeDiff, rowD_inj, strs_inj, ints_inj, ex_ins, tyNm, ts_NoneType_bool, ts_NoneType_int, ts_NoneType_str, ts_NoneType_tuple, ts_NoneType_list, ts_bool_bool, ts_bool_int, ts_bool_str, ts_bool_tuple, ts_bool_list, ts_int_bool, ts_int_int, ts_int_str, ts_int_tuple, ts_int_list, ts_str_bool, ts_str_int, ts_str_str, ts_str_tuple, ts_str_list, ts_tuple_bool, ts_tuple_int, ts_tuple_str, ts_tuple_tuple, ts_tuple_list, ts_list_bool, ts_list_int, ts_list_str, ts_list_tuple, ts_list_list, ts_dict_bool, ts_dict_int, ts_dict_str, ts_dict_tuple, ts_dict_list, ins_row, isC_row, row_ne, Int.natCast_inj, Int.toNat_natCast, D.int.injEq, D.str.injEq, D.bl.injEq, D.tup.injEq, D.ref.injEq, D.scr.injEq]
    refine ⟨by decide, by decide, for_range (fun j σ N => N = M' ∧ ∃ o2 o3 o4, σ = [some v, some (.lst ((List.range 18).map (exc18 v))), o2, o3, o4]) ⟨rfl, _, _, _, rfl⟩ ?_ ?_⟩
    · rintro σ N ⟨rfl, o2, o3, o4, rfl⟩
      simp only [d_law_right_r2, sp_law_kept_right, srtTI, dCallV, eqNil, dForR, dgFld, srtDO, pairs_inj, dMinDef, minDefO, dFzV, dLc2, dListZip, rows_inj, dTupleRg2, dDt1, dinT, tgetOp, tsPut, tkeyD_nats, dtO_inj, dtO_ne, dtO_ne2, dDk1, dicPO, dicPT, lenTO, tkeyD_strs, eqOwnL, eqPairs, eqOne, dJoin, dMk, dstart, ends, dVar, dC, dOp, i2, ltO, leO, gtO, geO, subO, dTest, dAnd, dOr, dNot, asV, dAndV, dOrV, dNotV, dIf, dNil, dCons, dStar, dTup, dLst, dNew, seqD, lstD, datD, eqOp, neOp, addOp, mulOp, mulM, addM, divOp, modOp, powOp, isOp, isntOp, dNext, dSeq, dDrop, dRet, dRetN, dIfS, dBreak, dCont, dNever, dFrz, dgName, dgNil, dgCons, dgTup, dgSub, dAsg, dSet, dPar, dAugI, dSeqI, dRng1, dRng2, dEnum, dFor, dLast, dLink, dCh, dYes, dLc, dCall, dCall0, dFld, dMeth, dMeth0, dFrzO, frzO, dCB, ob1, ob2, oI, ii2, lenO, intO, sumO, intsO, blsO, strsO, reprO, absO, maxO, minO, dmO, tupO, lstO, lstMO, maxLO, minLO, anyO, allO, strIO, srtSO, srtO, srtIO, numsD_lst, numsD_tup, nats_inj, nats_len, stepD_inj, nc0, nc1, nc2, nc3, nc4, nc5, nc6, nc7, nc8, nc9, nc10, nc11, nc12, nc13, nc14, nc15, nc16, nc17, nc18, nc19, nc20, appendM, popM, extendM, insertM, indexM, indexTM, updateM, dBMT, dBMT.tupT, dinOp, dgetOp, dGet2, dsPut, dNewK, dDc, dPar3, dNeg, dkO_inj, dkO_ne, dkO_ne2, lenM_dk, keyD_int, keyD_str, dic_dk, dicA_dk, moTy_dk, moTy_lst, moTy_none, dIsi, inOp, ixOp, dSl, slOp, dRev, dBM, dBM0, refL, tyD, lenM_lst, dNoP, dPart, dCallN, dMake, dProp, eqOwn, neOwn, lenOwn, strOwn, dIsO, dMethN, dsFld, dRevT, dStrI, insD_obj, insD_ref, isC_obj, isC_ref, isC_non, isC_bl, isC_int, isC_str, isC_tup, isC_lst, ex_ins2, beq_self_eq_true, Bool.not_eq_eq_eq_not, decide_true, decide_false, okN_bl, okN_int, okN_non, exists_and_left, and_assoc, List.cons.injEq, dListRg1, dListRg2, pick, List.filterMap_cons, List.filterMap_nil, List.set_cons_zero, List.set_cons_succ, List.getElem?_cons_zero, List.getElem?_cons_succ, List.getElem?_nil, List.length_cons, List.length_nil, List.length_append, List.length_map, List.length_range, rangeD_length, enumD_length, List.cons_append, List.nil_append, forall_const, true_implies, false_implies, reduceCtorEq, Bool.not_true, Bool.not_false, and_true, true_and, decide_eq_true_eq, decide_eq_false_iff_not, MH.put_same, if_true, if_false, not_true_eq_false, not_false_eq_true, exists_eq_left, exists_eq_left', Option.some.injEq, MO.lst.injEq, MH.put_put, at_0, at_1, at_2, at_3, Int.ofNat_lt, Int.ofNat_le, ix_30, ix_31, ix_32, Nat.zero_add, Int.zero_add, Nat.reduceAdd, D.lst.injEq, lenOk, Nat.reduceLeDiff, rowD_inj, strs_inj, ints_inj, ex_ins, tyNm, ts_NoneType_bool, ts_NoneType_int, ts_NoneType_str, ts_NoneType_tuple, ts_NoneType_list, ts_bool_bool, ts_bool_int, ts_bool_str, ts_bool_tuple, ts_bool_list, ts_int_bool, ts_int_int, ts_int_str, ts_int_tuple, ts_int_list, ts_str_bool, ts_str_int, ts_str_str, ts_str_tuple, ts_str_list, ts_tuple_bool, ts_tuple_int, ts_tuple_str, ts_tuple_tuple, ts_tuple_list, ts_list_bool, ts_list_int, ts_list_str, ts_list_tuple, ts_list_list, ts_dict_bool, ts_dict_int, ts_dict_str, ts_dict_tuple, ts_dict_list, ins_row, isC_row, row_ne, Int.natCast_inj, Int.toNat_natCast, D.int.injEq, D.str.injEq, D.bl.injEq, D.tup.injEq, D.ref.injEq, D.scr.injEq]
      exact ⟨K, rfl, _, rfl⟩
    · rintro j σ N hj ⟨rfl, o2, o3, o4, rfl⟩
      have hj2 : j < 18 := hj
      have a : atI ((List.range 18).map (exc18 v)) (j : Int) = some (exc18 v j) := atI_some (n := j) rfl (by simp [hj2])
      simp only [d_law_right_b2, Int.zero_add, srtTI, dCallV, eqNil, dForR, dgFld, srtDO, pairs_inj, dMinDef, minDefO, dFzV, dLc2, dListZip, rows_inj, dTupleRg2, dDt1, dinT, tgetOp, tsPut, tkeyD_nats, dtO_inj, dtO_ne, dtO_ne2, dDk1, dicPO, dicPT, lenTO, tkeyD_strs, eqOwnL, eqPairs, eqOne, dJoin, dMk, dstart, ends, dVar, dC, dOp, i2, ltO, leO, gtO, geO, subO, dTest, dAnd, dOr, dNot, asV, dAndV, dOrV, dNotV, dIf, dNil, dCons, dStar, dTup, dLst, dNew, seqD, lstD, datD, eqOp, neOp, addOp, mulOp, mulM, addM, divOp, modOp, powOp, isOp, isntOp, dNext, dSeq, dDrop, dRet, dRetN, dIfS, dBreak, dCont, dNever, dFrz, dgName, dgNil, dgCons, dgTup, dgSub, dAsg, dSet, dPar, dAugI, dSeqI, dRng1, dRng2, dEnum, dFor, dLast, dLink, dCh, dYes, dLc, dCall, dCall0, dFld, dMeth, dMeth0, dFrzO, frzO, dCB, ob1, ob2, oI, ii2, lenO, intO, sumO, intsO, blsO, strsO, reprO, absO, maxO, minO, dmO, tupO, lstO, lstMO, maxLO, minLO, anyO, allO, strIO, srtSO, srtO, srtIO, numsD_lst, numsD_tup, nats_inj, nats_len, stepD_inj, nc0, nc1, nc2, nc3, nc4, nc5, nc6, nc7, nc8, nc9, nc10, nc11, nc12, nc13, nc14, nc15, nc16, nc17, nc18, nc19, nc20, appendM, popM, extendM, insertM, indexM, indexTM, updateM, dBMT, dBMT.tupT, dinOp, dgetOp, dGet2, dsPut, dNewK, dDc, dPar3, dNeg, dkO_inj, dkO_ne, dkO_ne2, lenM_dk, keyD_int, keyD_str, dic_dk, dicA_dk, moTy_dk, moTy_lst, moTy_none, dIsi, inOp, ixOp, dSl, slOp, dRev, dBM, dBM0, refL, tyD, lenM_lst, dNoP, dPart, dCallN, dMake, dProp, eqOwn, neOwn, lenOwn, strOwn, dIsO, dMethN, dsFld, dRevT, dStrI, insD_obj, insD_ref, isC_obj, isC_ref, isC_non, isC_bl, isC_int, isC_str, isC_tup, isC_lst, ex_ins2, beq_self_eq_true, Bool.not_eq_eq_eq_not, decide_true, decide_false, okN_bl, okN_int, okN_non, exists_and_left, and_assoc, List.cons.injEq, dListRg1, dListRg2, pick, List.filterMap_cons, List.filterMap_nil, List.set_cons_zero, List.set_cons_succ, List.getElem?_cons_zero, List.getElem?_cons_succ, List.getElem?_nil, List.length_cons, List.length_nil, List.length_append, List.length_map, List.length_range, rangeD_length, enumD_length, List.cons_append, List.nil_append, forall_const, true_implies, false_implies, reduceCtorEq, Bool.not_true, Bool.not_false, and_true, true_and, decide_eq_true_eq, decide_eq_false_iff_not, MH.put_same, if_true, if_false, not_true_eq_false, not_false_eq_true, exists_eq_left, exists_eq_left', Option.some.injEq, MO.lst.injEq, MH.put_put, at_0, at_1, at_2, at_3, Int.ofNat_lt, Int.ofNat_le, ix_30, ix_31, ix_32, Nat.zero_add, Int.zero_add, Nat.reduceAdd, D.lst.injEq, lenOk, Nat.reduceLeDiff, rowD_inj, strs_inj, ints_inj, ex_ins, tyNm, ts_NoneType_bool, ts_NoneType_int, ts_NoneType_str, ts_NoneType_tuple, ts_NoneType_list, ts_bool_bool, ts_bool_int, ts_bool_str, ts_bool_tuple, ts_bool_list, ts_int_bool, ts_int_int, ts_int_str, ts_int_tuple, ts_int_list, ts_str_bool, ts_str_int, ts_str_str, ts_str_tuple, ts_str_list, ts_tuple_bool, ts_tuple_int, ts_tuple_str, ts_tuple_tuple, ts_tuple_list, ts_list_bool, ts_list_int, ts_list_str, ts_list_tuple, ts_list_list, ts_dict_bool, ts_dict_int, ts_dict_str, ts_dict_tuple, ts_dict_list, ins_row, isC_row, row_ne, Int.natCast_inj, Int.toNat_natCast, D.int.injEq, D.str.injEq, D.bl.injEq, D.tup.injEq, D.ref.injEq, D.scr.injEq]
      refine ⟨by decide, by decide, lc_range (fun i => .bl (decide (i = j))) (by unfold lenOk; decide) ?_ ?_⟩
      · intro p acc i C hi hp hC
        simp only [wipeD, d_law_right_e1, srtTI, dCallV, eqNil, dForR, dgFld, srtDO, pairs_inj, dMinDef, minDefO, dFzV, dLc2, dListZip, rows_inj, dTupleRg2, dDt1, dinT, tgetOp, tsPut, tkeyD_nats, dtO_inj, dtO_ne, dtO_ne2, dDk1, dicPO, dicPT, lenTO, tkeyD_strs, eqOwnL, eqPairs, eqOne, dJoin, dMk, dstart, ends, dVar, dC, dOp, i2, ltO, leO, gtO, geO, subO, dTest, dAnd, dOr, dNot, asV, dAndV, dOrV, dNotV, dIf, dNil, dCons, dStar, dTup, dLst, dNew, seqD, lstD, datD, eqOp, neOp, addOp, mulOp, mulM, addM, divOp, modOp, powOp, isOp, isntOp, dNext, dSeq, dDrop, dRet, dRetN, dIfS, dBreak, dCont, dNever, dFrz, dgName, dgNil, dgCons, dgTup, dgSub, dAsg, dSet, dPar, dAugI, dSeqI, dRng1, dRng2, dEnum, dFor, dLast, dLink, dCh, dYes, dLc, dCall, dCall0, dFld, dMeth, dMeth0, dFrzO, frzO, dCB, ob1, ob2, oI, ii2, lenO, intO, sumO, intsO, blsO, strsO, reprO, absO, maxO, minO, dmO, tupO, lstO, lstMO, maxLO, minLO, anyO, allO, strIO, srtSO, srtO, srtIO, numsD_lst, numsD_tup, nats_inj, nats_len, stepD_inj, nc0, nc1, nc2, nc3, nc4, nc5, nc6, nc7, nc8, nc9, nc10, nc11, nc12, nc13, nc14, nc15, nc16, nc17, nc18, nc19, nc20, appendM, popM, extendM, insertM, indexM, indexTM, updateM, dBMT, dBMT.tupT, dinOp, dgetOp, dGet2, dsPut, dNewK, dDc, dPar3, dNeg, dkO_inj, dkO_ne, dkO_ne2, lenM_dk, keyD_int, keyD_str, dic_dk, dicA_dk, moTy_dk, moTy_lst, moTy_none, dIsi, inOp, ixOp, dSl, slOp, dRev, dBM, dBM0, refL, tyD, lenM_lst, dNoP, dPart, dCallN, dMake, dProp, eqOwn, neOwn, lenOwn, strOwn, dIsO, dMethN, dsFld, dRevT, dStrI, insD_obj, insD_ref, isC_obj, isC_ref, isC_non, isC_bl, isC_int, isC_str, isC_tup, isC_lst, ex_ins2, beq_self_eq_true, Bool.not_eq_eq_eq_not, decide_true, decide_false, okN_bl, okN_int, okN_non, exists_and_left, and_assoc, List.cons.injEq, dListRg1, dListRg2, pick, List.filterMap_cons, List.filterMap_nil, List.set_cons_zero, List.set_cons_succ, List.getElem?_cons_zero, List.getElem?_cons_succ, List.getElem?_nil, List.length_cons, List.length_nil, List.length_append, List.length_map, List.length_range, rangeD_length, enumD_length, List.cons_append, List.nil_append, forall_const, true_implies, false_implies, reduceCtorEq, Bool.not_true, Bool.not_false, and_true, true_and, decide_eq_true_eq, decide_eq_false_iff_not, MH.put_same, if_true, if_false, not_true_eq_false, not_false_eq_true, exists_eq_left, exists_eq_left', Option.some.injEq, MO.lst.injEq, MH.put_put, at_0, at_1, at_2, at_3, Int.ofNat_lt, Int.ofNat_le, ix_30, ix_31, ix_32, Nat.zero_add, Int.zero_add, Nat.reduceAdd, D.lst.injEq, lenOk, Nat.reduceLeDiff, rowD_inj, strs_inj, ints_inj, ex_ins, tyNm, ts_NoneType_bool, ts_NoneType_int, ts_NoneType_str, ts_NoneType_tuple, ts_NoneType_list, ts_bool_bool, ts_bool_int, ts_bool_str, ts_bool_tuple, ts_bool_list, ts_int_bool, ts_int_int, ts_int_str, ts_int_tuple, ts_int_list, ts_str_bool, ts_str_int, ts_str_str, ts_str_tuple, ts_str_list, ts_tuple_bool, ts_tuple_int, ts_tuple_str, ts_tuple_tuple, ts_tuple_list, ts_list_bool, ts_list_int, ts_list_str, ts_list_tuple, ts_list_list, ts_dict_bool, ts_dict_int, ts_dict_str, ts_dict_tuple, ts_dict_list, ins_row, isC_row, row_ne, Int.natCast_inj, Int.toNat_natCast, D.int.injEq, D.str.injEq, D.bl.injEq, D.tup.injEq, D.ref.injEq, D.scr.injEq]
        exact hC
      · simp only [srtTI, dCallV, eqNil, dForR, dgFld, srtDO, pairs_inj, dMinDef, minDefO, dFzV, dLc2, dListZip, rows_inj, dTupleRg2, dDt1, dinT, tgetOp, tsPut, tkeyD_nats, dtO_inj, dtO_ne, dtO_ne2, dDk1, dicPO, dicPT, lenTO, tkeyD_strs, eqOwnL, eqPairs, eqOne, dJoin, dMk, dstart, ends, dVar, dC, dOp, i2, ltO, leO, gtO, geO, subO, dTest, dAnd, dOr, dNot, asV, dAndV, dOrV, dNotV, dIf, dNil, dCons, dStar, dTup, dLst, dNew, seqD, lstD, datD, eqOp, neOp, addOp, mulOp, mulM, addM, divOp, modOp, powOp, isOp, isntOp, dNext, dSeq, dDrop, dRet, dRetN, dIfS, dBreak, dCont, dNever, dFrz, dgName, dgNil, dgCons, dgTup, dgSub, dAsg, dSet, dPar, dAugI, dSeqI, dRng1, dRng2, dEnum, dFor, dLast, dLink, dCh, dYes, dLc, dCall, dCall0, dFld, dMeth, dMeth0, dFrzO, frzO, dCB, ob1, ob2, oI, ii2, lenO, intO, sumO, intsO, blsO, strsO, reprO, absO, maxO, minO, dmO, tupO, lstO, lstMO, maxLO, minLO, anyO, allO, strIO, srtSO, srtO, srtIO, numsD_lst, numsD_tup, nats_inj, nats_len, stepD_inj, nc0, nc1, nc2, nc3, nc4, nc5, nc6, nc7, nc8, nc9, nc10, nc11, nc12, nc13, nc14, nc15, nc16, nc17, nc18, nc19, nc20, appendM, popM, extendM, insertM, indexM, indexTM, updateM, dBMT, dBMT.tupT, dinOp, dgetOp, dGet2, dsPut, dNewK, dDc, dPar3, dNeg, dkO_inj, dkO_ne, dkO_ne2, lenM_dk, keyD_int, keyD_str, dic_dk, dicA_dk, moTy_dk, moTy_lst, moTy_none, dIsi, inOp, ixOp, dSl, slOp, dRev, dBM, dBM0, refL, tyD, lenM_lst, dNoP, dPart, dCallN, dMake, dProp, eqOwn, neOwn, lenOwn, strOwn, dIsO, dMethN, dsFld, dRevT, dStrI, insD_obj, insD_ref, isC_obj, isC_ref, isC_non, isC_bl, isC_int, isC_str, isC_tup, isC_lst, ex_ins2, beq_self_eq_true, Bool.not_eq_eq_eq_not, decide_true, decide_false, okN_bl, okN_int, okN_non, exists_and_left, and_assoc, List.cons.injEq, dListRg1, dListRg2, pick, List.filterMap_cons, List.filterMap_nil, List.set_cons_zero, List.set_cons_succ, List.getElem?_cons_zero, List.getElem?_cons_succ, List.getElem?_nil, List.length_cons, List.length_nil, List.length_append, List.length_map, List.length_range, rangeD_length, enumD_length, List.cons_append, List.nil_append, forall_const, true_implies, false_implies, reduceCtorEq, Bool.not_true, Bool.not_false, and_true, true_and, decide_eq_true_eq, decide_eq_false_iff_not, MH.put_same, if_true, if_false, not_true_eq_false, not_false_eq_true, exists_eq_left, exists_eq_left', Option.some.injEq, MO.lst.injEq, MH.put_put, at_0, at_1, at_2, at_3, Int.ofNat_lt, Int.ofNat_le, ix_30, ix_31, ix_32, Nat.zero_add, Int.zero_add, Nat.reduceAdd, D.lst.injEq, lenOk, Nat.reduceLeDiff, rowD_inj, strs_inj, ints_inj, ex_ins, tyNm, ts_NoneType_bool, ts_NoneType_int, ts_NoneType_str, ts_NoneType_tuple, ts_NoneType_list, ts_bool_bool, ts_bool_int, ts_bool_str, ts_bool_tuple, ts_bool_list, ts_int_bool, ts_int_int, ts_int_str, ts_int_tuple, ts_int_list, ts_str_bool, ts_str_int, ts_str_str, ts_str_tuple, ts_str_list, ts_tuple_bool, ts_tuple_int, ts_tuple_str, ts_tuple_tuple, ts_tuple_list, ts_list_bool, ts_list_int, ts_list_str, ts_list_tuple, ts_list_list, ts_dict_bool, ts_dict_int, ts_dict_str, ts_dict_tuple, ts_dict_list, ins_row, isC_row, row_ne, Int.natCast_inj, Int.toNat_natCast, D.int.injEq, D.str.injEq, D.bl.injEq, D.tup.injEq, D.ref.injEq, D.scr.injEq]
        refine ⟨_, a, ?_⟩
        unfold exc18
        simp only [sp_law_sorts, srtTI, dCallV, eqNil, dForR, dgFld, srtDO, pairs_inj, dMinDef, minDefO, dFzV, dLc2, dListZip, rows_inj, dTupleRg2, dDt1, dinT, tgetOp, tsPut, tkeyD_nats, dtO_inj, dtO_ne, dtO_ne2, dDk1, dicPO, dicPT, lenTO, tkeyD_strs, eqOwnL, eqPairs, eqOne, dJoin, dMk, dstart, ends, dVar, dC, dOp, i2, ltO, leO, gtO, geO, subO, dTest, dAnd, dOr, dNot, asV, dAndV, dOrV, dNotV, dIf, dNil, dCons, dStar, dTup, dLst, dNew, seqD, lstD, datD, eqOp, neOp, addOp, mulOp, mulM, addM, divOp, modOp, powOp, isOp, isntOp, dNext, dSeq, dDrop, dRet, dRetN, dIfS, dBreak, dCont, dNever, dFrz, dgName, dgNil, dgCons, dgTup, dgSub, dAsg, dSet, dPar, dAugI, dSeqI, dRng1, dRng2, dEnum, dFor, dLast, dLink, dCh, dYes, dLc, dCall, dCall0, dFld, dMeth, dMeth0, dFrzO, frzO, dCB, ob1, ob2, oI, ii2, lenO, intO, sumO, intsO, blsO, strsO, reprO, absO, maxO, minO, dmO, tupO, lstO, lstMO, maxLO, minLO, anyO, allO, strIO, srtSO, srtO, srtIO, numsD_lst, numsD_tup, nats_inj, nats_len, stepD_inj, nc0, nc1, nc2, nc3, nc4, nc5, nc6, nc7, nc8, nc9, nc10, nc11, nc12, nc13, nc14, nc15, nc16, nc17, nc18, nc19, nc20, appendM, popM, extendM, insertM, indexM, indexTM, updateM, dBMT, dBMT.tupT, dinOp, dgetOp, dGet2, dsPut, dNewK, dDc, dPar3, dNeg, dkO_inj, dkO_ne, dkO_ne2, lenM_dk, keyD_int, keyD_str, dic_dk, dicA_dk, moTy_dk, moTy_lst, moTy_none, dIsi, inOp, ixOp, dSl, slOp, dRev, dBM, dBM0, refL, tyD, lenM_lst, dNoP, dPart, dCallN, dMake, dProp, eqOwn, neOwn, lenOwn, strOwn, dIsO, dMethN, dsFld, dRevT, dStrI, insD_obj, insD_ref, isC_obj, isC_ref, isC_non, isC_bl, isC_int, isC_str, isC_tup, isC_lst, ex_ins2, beq_self_eq_true, Bool.not_eq_eq_eq_not, decide_true, decide_false, okN_bl, okN_int, okN_non, exists_and_left, and_assoc, List.cons.injEq, dListRg1, dListRg2, pick, List.filterMap_cons, List.filterMap_nil, List.set_cons_zero, List.set_cons_succ, List.getElem?_cons_zero, List.getElem?_cons_succ, List.getElem?_nil, List.length_cons, List.length_nil, List.length_append, List.length_map, List.length_range, rangeD_length, enumD_length, List.cons_append, List.nil_append, forall_const, true_implies, false_implies, reduceCtorEq, Bool.not_true, Bool.not_false, and_true, true_and, decide_eq_true_eq, decide_eq_false_iff_not, MH.put_same, if_true, if_false, not_true_eq_false, not_false_eq_true, exists_eq_left, exists_eq_left', Option.some.injEq, MO.lst.injEq, MH.put_put, at_0, at_1, at_2, at_3, Int.ofNat_lt, Int.ofNat_le, ix_30, ix_31, ix_32, Nat.zero_add, Int.zero_add, Nat.reduceAdd, D.lst.injEq, lenOk, Nat.reduceLeDiff, rowD_inj, strs_inj, ints_inj, ex_ins, tyNm, ts_NoneType_bool, ts_NoneType_int, ts_NoneType_str, ts_NoneType_tuple, ts_NoneType_list, ts_bool_bool, ts_bool_int, ts_bool_str, ts_bool_tuple, ts_bool_list, ts_int_bool, ts_int_int, ts_int_str, ts_int_tuple, ts_int_list, ts_str_bool, ts_str_int, ts_str_str, ts_str_tuple, ts_str_list, ts_tuple_bool, ts_tuple_int, ts_tuple_str, ts_tuple_tuple, ts_tuple_list, ts_list_bool, ts_list_int, ts_list_str, ts_list_tuple, ts_list_list, ts_dict_bool, ts_dict_int, ts_dict_str, ts_dict_tuple, ts_dict_list, ins_row, isC_row, row_ne, Int.natCast_inj, Int.toNat_natCast, D.int.injEq, D.str.injEq, D.bl.injEq, D.tup.injEq, D.ref.injEq, D.scr.injEq]
        have okb : ∀ (l : List D), (∀ x ∈ l, ∃ b, x = .bl b) → okN 50 (.lst l) := fun l hl x hx => by
          obtain ⟨b, rfl⟩ := hl x hx
          exact trivial
        have b1 : ∀ x ∈ sort18 j, ∃ b, x = .bl b := fun x hx => by
          obtain ⟨i, _, rfl⟩ := List.mem_map.mp hx
          exact ⟨_, rfl⟩
        have b9 : ∀ x ∈ base18 j, ∃ b, x = .bl b := fun x hx => by
          simp only [base18, List.mem_cons, List.not_mem_nil, or_false] at hx
          rcases hx with rfl | rfl | rfl | rfl | rfl | rfl | rfl | rfl | rfl <;> exact ⟨_, rfl⟩
        have ok1 : okN 50 (.lst (sort18 j)) := okb _ b1
        have ok9 : okN 50 (.lst (base18 j)) := okb _ b9
        have self : ∀ l : List D, (∀ x ∈ l, ∃ b, x = .bl b) → eqD (.lst l) (.lst l) = true := by
          intro l
          induction l with
          | nil => intro _; simp [eqD, eqDL]
          | cons x r ih =>
            intro hl
            obtain ⟨b, rfl⟩ := hl x List.mem_cons_self
            have := ih fun y hy => hl y (List.mem_cons_of_mem _ hy)
            simp only [eqD, eqDL] at this ⊢
            simp [this]
        refine ⟨j, hj2, rfl, ok1, ok1, fun z => ?_, fun _ => ⟨_, a, ?_⟩⟩
        · have q : eqD (.lst (sort18 j)) (.lst (sort18 j)) = false := z
          rw [self _ b1] at q
          cases q
        · show sp_law_bases [.exc (nm18.getD j "") (fl18.getD j []) (vs18 v j)] _ _ _
          simp only [sp_law_bases, sp_law_due, srtTI, dCallV, eqNil, dForR, dgFld, srtDO, pairs_inj, dMinDef, minDefO, dFzV, dLc2, dListZip, rows_inj, dTupleRg2, dDt1, dinT, tgetOp, tsPut, tkeyD_nats, dtO_inj, dtO_ne, dtO_ne2, dDk1, dicPO, dicPT, lenTO, tkeyD_strs, eqOwnL, eqPairs, eqOne, dJoin, dMk, dstart, ends, dVar, dC, dOp, i2, ltO, leO, gtO, geO, subO, dTest, dAnd, dOr, dNot, asV, dAndV, dOrV, dNotV, dIf, dNil, dCons, dStar, dTup, dLst, dNew, seqD, lstD, datD, eqOp, neOp, addOp, mulOp, mulM, addM, divOp, modOp, powOp, isOp, isntOp, dNext, dSeq, dDrop, dRet, dRetN, dIfS, dBreak, dCont, dNever, dFrz, dgName, dgNil, dgCons, dgTup, dgSub, dAsg, dSet, dPar, dAugI, dSeqI, dRng1, dRng2, dEnum, dFor, dLast, dLink, dCh, dYes, dLc, dCall, dCall0, dFld, dMeth, dMeth0, dFrzO, frzO, dCB, ob1, ob2, oI, ii2, lenO, intO, sumO, intsO, blsO, strsO, reprO, absO, maxO, minO, dmO, tupO, lstO, lstMO, maxLO, minLO, anyO, allO, strIO, srtSO, srtO, srtIO, numsD_lst, numsD_tup, nats_inj, nats_len, stepD_inj, nc0, nc1, nc2, nc3, nc4, nc5, nc6, nc7, nc8, nc9, nc10, nc11, nc12, nc13, nc14, nc15, nc16, nc17, nc18, nc19, nc20, appendM, popM, extendM, insertM, indexM, indexTM, updateM, dBMT, dBMT.tupT, dinOp, dgetOp, dGet2, dsPut, dNewK, dDc, dPar3, dNeg, dkO_inj, dkO_ne, dkO_ne2, lenM_dk, keyD_int, keyD_str, dic_dk, dicA_dk, moTy_dk, moTy_lst, moTy_none, dIsi, inOp, ixOp, dSl, slOp, dRev, dBM, dBM0, refL, tyD, lenM_lst, dNoP, dPart, dCallN, dMake, dProp, eqOwn, neOwn, lenOwn, strOwn, dIsO, dMethN, dsFld, dRevT, dStrI, insD_obj, insD_ref, isC_obj, isC_ref, isC_non, isC_bl, isC_int, isC_str, isC_tup, isC_lst, ex_ins2, beq_self_eq_true, Bool.not_eq_eq_eq_not, decide_true, decide_false, okN_bl, okN_int, okN_non, exists_and_left, and_assoc, List.cons.injEq, dListRg1, dListRg2, pick, List.filterMap_cons, List.filterMap_nil, List.set_cons_zero, List.set_cons_succ, List.getElem?_cons_zero, List.getElem?_cons_succ, List.getElem?_nil, List.length_cons, List.length_nil, List.length_append, List.length_map, List.length_range, rangeD_length, enumD_length, List.cons_append, List.nil_append, forall_const, true_implies, false_implies, reduceCtorEq, Bool.not_true, Bool.not_false, and_true, true_and, decide_eq_true_eq, decide_eq_false_iff_not, MH.put_same, if_true, if_false, not_true_eq_false, not_false_eq_true, exists_eq_left, exists_eq_left', Option.some.injEq, MO.lst.injEq, MH.put_put, at_0, at_1, at_2, at_3, Int.ofNat_lt, Int.ofNat_le, ix_30, ix_31, ix_32, Nat.zero_add, Int.zero_add, Nat.reduceAdd, D.lst.injEq, lenOk, Nat.reduceLeDiff, rowD_inj, strs_inj, ints_inj, ex_ins, tyNm, ts_NoneType_bool, ts_NoneType_int, ts_NoneType_str, ts_NoneType_tuple, ts_NoneType_list, ts_bool_bool, ts_bool_int, ts_bool_str, ts_bool_tuple, ts_bool_list, ts_int_bool, ts_int_int, ts_int_str, ts_int_tuple, ts_int_list, ts_str_bool, ts_str_int, ts_str_str, ts_str_tuple, ts_str_list, ts_tuple_bool, ts_tuple_int, ts_tuple_str, ts_tuple_tuple, ts_tuple_list, ts_list_bool, ts_list_int, ts_list_str, ts_list_tuple, ts_list_list, ts_dict_bool, ts_dict_int, ts_dict_str, ts_dict_tuple, ts_dict_list, ins_row, isC_row, row_ne, Int.natCast_inj, Int.toNat_natCast, D.int.injEq, D.str.injEq, D.bl.injEq, D.tup.injEq, D.ref.injEq, D.scr.injEq]
          refine ⟨j, hj2, rfl, ok9, ok9, fun z => ?_, fun _ => ⟨_, rfl⟩⟩
          rw [self _ b9] at z
          cases z

theorem ok_law_right (T : Txt ⟨P, Wd.w, K, mg, base⟩) : Cal ⟨P, Wd.w, K, mg, base⟩ "_law_right" 2 ["_law_thing"] sp_law_right := cal_mk T.t_law_right F_law_right (r_law_right T) pl_law_right
def sp_law : DSp := fun ds M Q _ => match ds with
  | [.scr ns] => ns.length ≤ 63 ∧ Q (.bl true) M
  | _ => False
theorem law_want : ∀ (ns : List Int) (Q : DQ) (E : Er → MH → Prop), ns.length ≤ 63 → (∀ M, Q (.bl true) M) → sp_law [.scr ns] (fun _ => none) Q E := fun ns Q E h q => ⟨h, q _⟩

def d_law_e1 : DE :=
  (dOp modOp (dCB (ob1 intO) (dCons (dVar 3) dNil)) (dOp powOp (dC (.int 10)) (dC (.int 12))))
def d_law_t2 : DT :=
  (dNot (dTest (dCall 1 sp_law_right (dCons (dVar 4) dNil))))
def d_law : DS :=
  (dSeq (dSet 1 (dLst (dCons (dC (.int 40)) (dCons (dC (.int 7)) (dCons (dC (.int 6)) (dCons (dC (.int 8)) (dCons (dC (.int 4)) (dCons (dC (.int 8)) dNil))))))))
    (dSeq (dIfS (dTest (dOp neOp (dVar 1) (dLst (dCons (dC (.int 40)) (dCons (dC (.int 7)) (dCons (dC (.int 6)) (dCons (dC (.int 8)) (dCons (dC (.int 4)) (dCons (dC (.int 8)) dNil))))))))) (dRet (dC (.bl false))) dNext)
    (dSeq (dSet 2 (dOp addOp (dLst (dCons (dC .non) (dCons (dC (.str "a")) (dCons (dTup (dCons (dC (.int 1)) (dCons (dC (.str "x")) dNil))) (dCons (dC (.bl true)) (dCons (dNeg (dC (.int 3))) dNil)))))) (dLc (dSeqI (dSl (dVar 0) dNoP (dPart (dC (.int 3))))) (dgName 3) dYes d_law_e1 [3])))
    (dRet (dOp eqOp (dLc (dSeqI (dVar 2)) (dgName 4) d_law_t2 (dVar 4) [4]) (dLst dNil))))))
theorem st_law (v0 : D) : dstart N_law [v0] = [some v0, none, none, none, none] := rfl
theorem r_law (T : Txt ⟨P, Wd.w, K, mg, base⟩) : DPSs ⟨P, Wd.w, K, mg, base⟩ (Sx.fn N_law (defScope s_law) 2) (defBody s_law) d_law :=
  (dpss_cons (dps_set L_law 1 (dp_lst (dpa_cons (dp_gint S_law T.c_MOST_THINGS) (by exact (dpa_cons (dp_gint S_law T.c_MOST_WALKED) (by exact (dpa_cons (dp_gint S_law T.c_MOST_PRICED) (by exact (dpa_cons (dp_gint S_law T.c_MOST_HEAP) (by exact (dpa_cons (dp_gint S_law T.c_MOST_ROWS) (by exact (dpa_cons (dp_gint S_law T.c_MOST_PLANNED) dpa_nil)))))))))))))
    (by exact (dpss_cons (dps_if (dpt_cmp (fun _ ft => opD_ne ft) (dp_var S_law 1) (dp_lst (dpa_cons dp_int (by exact (dpa_cons dp_int (by exact (dpa_cons dp_int (by exact (dpa_cons dp_int (by exact (dpa_cons dp_int (by exact (dpa_cons dp_int dpa_nil)))))))))))) (by with_unfolding_all rfl)) (dpss_one (dps_ret dp_bl)) dpss_nil)
    (by exact (dpss_cons (dps_set L_law 2 (dp_bin (fun _ ft => opD_add ft) (dp_lst (dpa_cons dp_non (by exact (dpa_cons dp_str (by exact (dpa_cons (dp_tup (dpa_cons dp_int (by exact (dpa_cons dp_str dpa_nil)))) (by exact (dpa_cons dp_bl (by exact (dpa_cons (dp_neg dp_int) dpa_nil)))))))))) (dp_lc [("_law_cell", 3)] (by decide +kernel) (dpi_seq (dp_slice (dp_var S_law 0) dpo_none (dpo_some dp_int))) (dpg_name (stOk_of (ls := [3]) (by decide +kernel)) 3) dpts_nil (dp_bin (fun _ ft => opD_mod ft) (dp_callT (scOk_of (vs := [3]) (gs := ["int"]) (by decide +kernel)) T.z_int (fun X ft => cb_int) boot_int (dpa_cons (dp_var (scOk_of (vs := [3]) (gs := ["int"]) (by decide +kernel)) 3) dpa_nil)) (dp_bin (fun _ ft => opD_pow ft) dp_int dp_int)))))
    (by exact (dpss_one (dps_ret (dp_cmp (fun _ ft => opD_eq ft) (dp_lc [("_law_thing", 4)] (by decide +kernel) (dpi_seq (dp_var S_law 2)) (dpg_name (stOk_of (ls := [4]) (by decide +kernel)) 4) (dpts_one (dpt_not (dpt_val (dp_call (ok_law_right T) (scOk_of (vs := [4]) (gs := ["_law_right"]) (by decide +kernel)) (dpa_cons (dp_var (scOk_of (vs := [4]) (gs := ["_law_right"]) (by decide +kernel)) 4) dpa_nil))))) (dp_var (scOk_of (vs := [4]) (gs := ["_law_right"]) (by decide +kernel)) 4)) (dp_lst dpa_nil) (by with_unfolding_all rfl))))))))))
theorem pl_law (ds : List D) (M : MH) (Q : DQ) (E : Er → MH → Prop) (hl : ds.length = 1) (h : sp_law ds M Q E) : d_law (ends Q) (fun er _ M => E er M) (dstart N_law ds) M := by
  unfold sp_law at h
  split at h
  case h_2 => exact h.elim
  rename_i ns
  rw [st_law]
  obtain ⟨hn, h⟩ := h
  simp only [d_law, srtTI, dCallV, eqNil, dForR, dgFld, srtDO, pairs_inj, dMinDef, minDefO, dFzV, dLc2, dListZip, rows_inj, dTupleRg2, dDt1, dinT, tgetOp, tsPut, tkeyD_nats, dtO_inj, dtO_ne, dtO_ne2, dDk1, dicPO, dicPT, lenTO, tkeyD_strs, eqOwnL, eqPairs, eqOne, dJoin, dMk, dstart, ends, dVar, dC, dOp, i2, ltO, leO, gtO, geO, subO, dTest, dAnd, dOr, dNot, asV, dAndV, dOrV, dNotV, dIf, dNil, dCons, dStar, dTup, dLst, dNew, seqD, lstD, datD, eqOp, neOp, addOp, mulOp, mulM, addM, divOp, modOp, powOp, isOp, isntOp, dNext, dSeq, dDrop, dRet, dRetN, dIfS, dBreak, dCont, dNever, dFrz, dgName, dgNil, dgCons, dgTup, dgSub, dAsg, dSet, dPar, dAugI, dSeqI, dRng1, dRng2, dEnum, dFor, dLast, dLink, dCh, dYes, dLc, dCall, dCall0, dFld, dMeth, dMeth0, dFrzO, frzO, dCB, ob1, ob2, oI, ii2, lenO, intO, sumO, intsO, blsO, strsO, reprO, absO, maxO, minO, dmO, tupO, lstO, lstMO, maxLO, minLO, anyO, allO, strIO, srtSO, srtO, srtIO, numsD_lst, numsD_tup, nats_inj, nats_len, stepD_inj, nc0, nc1, nc2, nc3, nc4, nc5, nc6, nc7, nc8, nc9, nc10, nc11, nc12, nc13, nc14, nc15, nc16, nc17, nc18, nc19, nc20, appendM, popM, extendM, insertM, indexM, indexTM, updateM, dBMT, dBMT.tupT, dinOp, dgetOp, dGet2, dsPut, dNewK, dDc, dPar3, dNeg, dkO_inj, dkO_ne, dkO_ne2, lenM_dk, keyD_int, keyD_str, dic_dk, dicA_dk, moTy_dk, moTy_lst, moTy_none, dIsi, inOp, ixOp, dSl, slOp, dRev, dBM, dBM0, refL, tyD, lenM_lst, dNoP, dPart, dCallN, dMake, dProp, eqOwn, neOwn, lenOwn, strOwn, dIsO, dMethN, dsFld, dRevT, dStrI, insD_obj, insD_ref, isC_obj, isC_ref, isC_non, isC_bl, isC_int, isC_str, isC_tup, isC_lst, ex_ins2, beq_self_eq_true, Bool.not_eq_eq_eq_not, decide_true, decide_false, okN_bl, okN_int, okN_non, exists_and_left, and_assoc, List.cons.injEq, dListRg1, dListRg2, pick, List.filterMap_cons, List.filterMap_nil, List.set_cons_zero, List.set_cons_succ, List.getElem?_cons_zero, List.getElem?_cons_succ, List.getElem?_nil, List.length_cons, List.length_nil, List.length_append, List.length_map, List.length_range, rangeD_length, enumD_length, List.cons_append, List.nil_append, forall_const, true_implies, false_implies, reduceCtorEq, Bool.not_true, Bool.not_false, and_true, true_and, decide_eq_true_eq, decide_eq_false_iff_not, MH.put_same, if_true, if_false, not_true_eq_false, not_false_eq_true, exists_eq_left, exists_eq_left', Option.some.injEq, MO.lst.injEq, MH.put_put, at_0, at_1, at_2, at_3, Int.ofNat_lt, Int.ofNat_le, ix_30, ix_31, ix_32, Nat.zero_add, Int.zero_add, Nat.reduceAdd, D.lst.injEq, lenOk, Nat.reduceLeDiff, rowD_inj, strs_inj, ints_inj, ex_ins, tyNm, ts_NoneType_bool, ts_NoneType_int, ts_NoneType_str, ts_NoneType_tuple, ts_NoneType_list, ts_bool_bool, ts_bool_int, ts_bool_str, ts_bool_tuple, ts_bool_list, ts_int_bool, ts_int_int, ts_int_str, ts_int_tuple, ts_int_list, ts_str_bool, ts_str_int, ts_str_str, ts_str_tuple, ts_str_list, ts_tuple_bool, ts_tuple_int, ts_tuple_str, ts_tuple_tuple, ts_tuple_list, ts_list_bool, ts_list_int, ts_list_str, ts_list_tuple, ts_list_list, ts_dict_bool, ts_dict_int, ts_dict_str, ts_dict_tuple, ts_dict_list, ins_row, isC_row, row_ne, Int.natCast_inj, Int.toNat_natCast, D.int.injEq, D.str.injEq, D.bl.injEq, D.tup.injEq, D.ref.injEq, D.scr.injEq]
  have e40 : eqD (.lst [.int 40, .int 7, .int 6, .int 8, .int 4, .int 8]) (.lst [.int 40, .int 7, .int 6, .int 8, .int 4, .int 8]) = true := by decide +kernel
  have ok40 : okN 50 (.lst [.int 40, .int 7, .int 6, .int 8, .int 4, .int 8]) := fun z hz => by
    simp only [List.mem_cons, List.not_mem_nil, or_false] at hz
    rcases hz with rfl | rfl | rfl | rfl | rfl | rfl <;> exact trivial
  rw [e40]
  refine ⟨ok40, ok40, fun z => (by cases z), fun _ => ?_⟩
  have ln : (cutD ns none (some 3)).length ≤ 63 := by
    have : ∀ (l : List Int) (a b : Option Int), (cutD l a b).length ≤ l.length := fun l a b => by
      unfold cutD
      simp
      try omega
    have := this ns none (some 3)
    omega
  refine lc_idx (fun i => .int ((cutD ns none (some 3)).getD i 0 % 10 ^ 12)) (by unfold lenOk; rw [List.length_map]; omega) ?_ ?_
  · intro p acc i hi C hp hC
    have hi2 : i < (cutD ns none (some 3)).length := by rwa [List.length_map] at hi
    rw [W.getD_lt hi2] at hC
    rw [List.getElem_map]
    simp only [wipeD, d_law_e1, srtTI, dCallV, eqNil, dForR, dgFld, srtDO, pairs_inj, dMinDef, minDefO, dFzV, dLc2, dListZip, rows_inj, dTupleRg2, dDt1, dinT, tgetOp, tsPut, tkeyD_nats, dtO_inj, dtO_ne, dtO_ne2, dDk1, dicPO, dicPT, lenTO, tkeyD_strs, eqOwnL, eqPairs, eqOne, dJoin, dMk, dstart, ends, dVar, dC, dOp, i2, ltO, leO, gtO, geO, subO, dTest, dAnd, dOr, dNot, asV, dAndV, dOrV, dNotV, dIf, dNil, dCons, dStar, dTup, dLst, dNew, seqD, lstD, datD, eqOp, neOp, addOp, mulOp, mulM, addM, divOp, modOp, powOp, isOp, isntOp, dNext, dSeq, dDrop, dRet, dRetN, dIfS, dBreak, dCont, dNever, dFrz, dgName, dgNil, dgCons, dgTup, dgSub, dAsg, dSet, dPar, dAugI, dSeqI, dRng1, dRng2, dEnum, dFor, dLast, dLink, dCh, dYes, dLc, dCall, dCall0, dFld, dMeth, dMeth0, dFrzO, frzO, dCB, ob1, ob2, oI, ii2, lenO, intO, sumO, intsO, blsO, strsO, reprO, absO, maxO, minO, dmO, tupO, lstO, lstMO, maxLO, minLO, anyO, allO, strIO, srtSO, srtO, srtIO, numsD_lst, numsD_tup, nats_inj, nats_len, stepD_inj, nc0, nc1, nc2, nc3, nc4, nc5, nc6, nc7, nc8, nc9, nc10, nc11, nc12, nc13, nc14, nc15, nc16, nc17, nc18, nc19, nc20, appendM, popM, extendM, insertM, indexM, indexTM, updateM, dBMT, dBMT.tupT, dinOp, dgetOp, dGet2, dsPut, dNewK, dDc, dPar3, dNeg, dkO_inj, dkO_ne, dkO_ne2, lenM_dk, keyD_int, keyD_str, dic_dk, dicA_dk, moTy_dk, moTy_lst, moTy_none, dIsi, inOp, ixOp, dSl, slOp, dRev, dBM, dBM0, refL, tyD, lenM_lst, dNoP, dPart, dCallN, dMake, dProp, eqOwn, neOwn, lenOwn, strOwn, dIsO, dMethN, dsFld, dRevT, dStrI, insD_obj, insD_ref, isC_obj, isC_ref, isC_non, isC_bl, isC_int, isC_str, isC_tup, isC_lst, ex_ins2, beq_self_eq_true, Bool.not_eq_eq_eq_not, decide_true, decide_false, okN_bl, okN_int, okN_non, exists_and_left, and_assoc, List.cons.injEq, dListRg1, dListRg2, pick, List.filterMap_cons, List.filterMap_nil, List.set_cons_zero, List.set_cons_succ, List.getElem?_cons_zero, List.getElem?_cons_succ, List.getElem?_nil, List.length_cons, List.length_nil, List.length_append, List.length_map, List.length_range, rangeD_length, enumD_length, List.cons_append, List.nil_append, forall_const, true_implies, false_implies, reduceCtorEq, Bool.not_true, Bool.not_false, and_true, true_and, decide_eq_true_eq, decide_eq_false_iff_not, MH.put_same, if_true, if_false, not_true_eq_false, not_false_eq_true, exists_eq_left, exists_eq_left', Option.some.injEq, MO.lst.injEq, MH.put_put, at_0, at_1, at_2, at_3, Int.ofNat_lt, Int.ofNat_le, ix_30, ix_31, ix_32, Nat.zero_add, Int.zero_add, Nat.reduceAdd, D.lst.injEq, lenOk, Nat.reduceLeDiff, rowD_inj, strs_inj, ints_inj, ex_ins, tyNm, ts_NoneType_bool, ts_NoneType_int, ts_NoneType_str, ts_NoneType_tuple, ts_NoneType_list, ts_bool_bool, ts_bool_int, ts_bool_str, ts_bool_tuple, ts_bool_list, ts_int_bool, ts_int_int, ts_int_str, ts_int_tuple, ts_int_list, ts_str_bool, ts_str_int, ts_str_str, ts_str_tuple, ts_str_list, ts_tuple_bool, ts_tuple_int, ts_tuple_str, ts_tuple_tuple, ts_tuple_list, ts_list_bool, ts_list_int, ts_list_str, ts_list_tuple, ts_list_list, ts_dict_bool, ts_dict_int, ts_dict_str, ts_dict_tuple, ts_dict_list, ins_row, isC_row, row_ne, Int.natCast_inj, Int.toNat_natCast, D.int.injEq, D.str.injEq, D.bl.injEq, D.tup.injEq, D.ref.injEq, D.scr.injEq]
    exact ⟨by unfold CPow; decide +kernel, by decide, hC⟩
  · simp only [srtTI, dCallV, eqNil, dForR, dgFld, srtDO, pairs_inj, dMinDef, minDefO, dFzV, dLc2, dListZip, rows_inj, dTupleRg2, dDt1, dinT, tgetOp, tsPut, tkeyD_nats, dtO_inj, dtO_ne, dtO_ne2, dDk1, dicPO, dicPT, lenTO, tkeyD_strs, eqOwnL, eqPairs, eqOne, dJoin, dMk, dstart, ends, dVar, dC, dOp, i2, ltO, leO, gtO, geO, subO, dTest, dAnd, dOr, dNot, asV, dAndV, dOrV, dNotV, dIf, dNil, dCons, dStar, dTup, dLst, dNew, seqD, lstD, datD, eqOp, neOp, addOp, mulOp, mulM, addM, divOp, modOp, powOp, isOp, isntOp, dNext, dSeq, dDrop, dRet, dRetN, dIfS, dBreak, dCont, dNever, dFrz, dgName, dgNil, dgCons, dgTup, dgSub, dAsg, dSet, dPar, dAugI, dSeqI, dRng1, dRng2, dEnum, dFor, dLast, dLink, dCh, dYes, dLc, dCall, dCall0, dFld, dMeth, dMeth0, dFrzO, frzO, dCB, ob1, ob2, oI, ii2, lenO, intO, sumO, intsO, blsO, strsO, reprO, absO, maxO, minO, dmO, tupO, lstO, lstMO, maxLO, minLO, anyO, allO, strIO, srtSO, srtO, srtIO, numsD_lst, numsD_tup, nats_inj, nats_len, stepD_inj, nc0, nc1, nc2, nc3, nc4, nc5, nc6, nc7, nc8, nc9, nc10, nc11, nc12, nc13, nc14, nc15, nc16, nc17, nc18, nc19, nc20, appendM, popM, extendM, insertM, indexM, indexTM, updateM, dBMT, dBMT.tupT, dinOp, dgetOp, dGet2, dsPut, dNewK, dDc, dPar3, dNeg, dkO_inj, dkO_ne, dkO_ne2, lenM_dk, keyD_int, keyD_str, dic_dk, dicA_dk, moTy_dk, moTy_lst, moTy_none, dIsi, inOp, ixOp, dSl, slOp, dRev, dBM, dBM0, refL, tyD, lenM_lst, dNoP, dPart, dCallN, dMake, dProp, eqOwn, neOwn, lenOwn, strOwn, dIsO, dMethN, dsFld, dRevT, dStrI, insD_obj, insD_ref, isC_obj, isC_ref, isC_non, isC_bl, isC_int, isC_str, isC_tup, isC_lst, ex_ins2, beq_self_eq_true, Bool.not_eq_eq_eq_not, decide_true, decide_false, okN_bl, okN_int, okN_non, exists_and_left, and_assoc, List.cons.injEq, dListRg1, dListRg2, pick, List.filterMap_cons, List.filterMap_nil, List.set_cons_zero, List.set_cons_succ, List.getElem?_cons_zero, List.getElem?_cons_succ, List.getElem?_nil, List.length_cons, List.length_nil, List.length_append, List.length_map, List.length_range, rangeD_length, enumD_length, List.cons_append, List.nil_append, forall_const, true_implies, false_implies, reduceCtorEq, Bool.not_true, Bool.not_false, and_true, true_and, decide_eq_true_eq, decide_eq_false_iff_not, MH.put_same, if_true, if_false, not_true_eq_false, not_false_eq_true, exists_eq_left, exists_eq_left', Option.some.injEq, MO.lst.injEq, MH.put_put, at_0, at_1, at_2, at_3, Int.ofNat_lt, Int.ofNat_le, ix_30, ix_31, ix_32, Nat.zero_add, Int.zero_add, Nat.reduceAdd, D.lst.injEq, lenOk, Nat.reduceLeDiff, rowD_inj, strs_inj, ints_inj, ex_ins, tyNm, ts_NoneType_bool, ts_NoneType_int, ts_NoneType_str, ts_NoneType_tuple, ts_NoneType_list, ts_bool_bool, ts_bool_int, ts_bool_str, ts_bool_tuple, ts_bool_list, ts_int_bool, ts_int_int, ts_int_str, ts_int_tuple, ts_int_list, ts_str_bool, ts_str_int, ts_str_str, ts_str_tuple, ts_str_list, ts_tuple_bool, ts_tuple_int, ts_tuple_str, ts_tuple_tuple, ts_tuple_list, ts_list_bool, ts_list_int, ts_list_str, ts_list_tuple, ts_list_list, ts_dict_bool, ts_dict_int, ts_dict_str, ts_dict_tuple, ts_dict_list, ins_row, isC_row, row_ne, Int.natCast_inj, Int.toNat_natCast, D.int.injEq, D.str.injEq, D.bl.injEq, D.tup.injEq, D.ref.injEq, D.scr.injEq]
    refine ⟨by omega, ?_⟩
    generalize hL : (D.non :: D.str (Str.ofString "a") :: D.tup [D.int 1, D.str (Str.ofString "x")] :: D.bl true :: D.int (-3) :: List.map (fun i => D.int ((cutD ns none (some 3)).getD i 0 % 10 ^ 12)) (List.range (cutD ns none (some 3)).length)) = L
    have kp : ∀ x ∈ L, KpV x := by
      subst hL
      intro x hx
      simp only [List.mem_cons, List.mem_map] at hx
      rcases hx with rfl | rfl | rfl | rfl | rfl | ⟨i, _, rfl⟩
      · exact ⟨trivial, rfl, by decide, fun _ e => by cases e⟩
      · exact ⟨show PyData.strOk _ = true by decide +kernel, by decide +kernel, by decide, fun _ e => by cases e⟩
      · refine ⟨fun z hz => ?_, by decide +kernel, by decide, fun _ e => by cases e⟩
        simp only [List.mem_cons, List.not_mem_nil, or_false] at hz
        rcases hz with rfl | rfl
        · exact trivial
        · show PyData.strOk _ = true; decide +kernel
      · exact ⟨trivial, rfl, by decide, fun _ e => by cases e⟩
      · exact ⟨trivial, by decide, by decide, fun _ e => by cases e⟩
      · generalize (cutD ns none (some 3)).getD i 0 = y
        have b1 : 0 ≤ y % 10 ^ 12 := Int.emod_nonneg _ (by decide)
        have b2 : y % 10 ^ 12 < 10 ^ 12 := Int.emod_lt_of_pos _ (by decide)
        refine ⟨trivial, ?_, by simp [bulkD], fun _ e => by cases e⟩
        generalize y % 10 ^ 12 = w at b1 b2
        have b3 : w.natAbs < 2 ^ 50 := by
          have : (10 : Int) ^ 12 = 1000000000000 := by decide
          have : (2 : Nat) ^ 50 = 1125899906842624 := by decide
          omega
        show decide (w.natAbs.log2 < 50) = true
        refine decide_eq_true ?_
        by_cases z : w.natAbs = 0
        · rw [z]; decide
        · exact (Nat.log2_lt z).mpr b3
    have lL : L.length ≤ 100 := by
      subst hL
      simp only [List.length_cons, List.length_map, List.length_range]
      omega
    refine lc_test (fun _ => false) (fun _ => .non) (by unfold lenOk; omega) ?_ ?_
    · intro p acc i hi C S hp hC hS
      simp only [wipeD, d_law_t2, sp_law_right, srtTI, dCallV, eqNil, dForR, dgFld, srtDO, pairs_inj, dMinDef, minDefO, dFzV, dLc2, dListZip, rows_inj, dTupleRg2, dDt1, dinT, tgetOp, tsPut, tkeyD_nats, dtO_inj, dtO_ne, dtO_ne2, dDk1, dicPO, dicPT, lenTO, tkeyD_strs, eqOwnL, eqPairs, eqOne, dJoin, dMk, dstart, ends, dVar, dC, dOp, i2, ltO, leO, gtO, geO, subO, dTest, dAnd, dOr, dNot, asV, dAndV, dOrV, dNotV, dIf, dNil, dCons, dStar, dTup, dLst, dNew, seqD, lstD, datD, eqOp, neOp, addOp, mulOp, mulM, addM, divOp, modOp, powOp, isOp, isntOp, dNext, dSeq, dDrop, dRet, dRetN, dIfS, dBreak, dCont, dNever, dFrz, dgName, dgNil, dgCons, dgTup, dgSub, dAsg, dSet, dPar, dAugI, dSeqI, dRng1, dRng2, dEnum, dFor, dLast, dLink, dCh, dYes, dLc, dCall, dCall0, dFld, dMeth, dMeth0, dFrzO, frzO, dCB, ob1, ob2, oI, ii2, lenO, intO, sumO, intsO, blsO, strsO, reprO, absO, maxO, minO, dmO, tupO, lstO, lstMO, maxLO, minLO, anyO, allO, strIO, srtSO, srtO, srtIO, numsD_lst, numsD_tup, nats_inj, nats_len, stepD_inj, nc0, nc1, nc2, nc3, nc4, nc5, nc6, nc7, nc8, nc9, nc10, nc11, nc12, nc13, nc14, nc15, nc16, nc17, nc18, nc19, nc20, appendM, popM, extendM, insertM, indexM, indexTM, updateM, dBMT, dBMT.tupT, dinOp, dgetOp, dGet2, dsPut, dNewK, dDc, dPar3, dNeg, dkO_inj, dkO_ne, dkO_ne2, lenM_dk, keyD_int, keyD_str, dic_dk, dicA_dk, moTy_dk, moTy_lst, moTy_none, dIsi, inOp, ixOp, dSl, slOp, dRev, dBM, dBM0, refL, tyD, lenM_lst, dNoP, dPart, dCallN, dMake, dProp, eqOwn, neOwn, lenOwn, strOwn, dIsO, dMethN, dsFld, dRevT, dStrI, insD_obj, insD_ref, isC_obj, isC_ref, isC_non, isC_bl, isC_int, isC_str, isC_tup, isC_lst, ex_ins2, beq_self_eq_true, Bool.not_eq_eq_eq_not, decide_true, decide_false, okN_bl, okN_int, okN_non, exists_and_left, and_assoc, List.cons.injEq, dListRg1, dListRg2, pick, List.filterMap_cons, List.filterMap_nil, List.set_cons_zero, List.set_cons_succ, List.getElem?_cons_zero, List.getElem?_cons_succ, List.getElem?_nil, List.length_cons, List.length_nil, List.length_append, List.length_map, List.length_range, rangeD_length, enumD_length, List.cons_append, List.nil_append, forall_const, true_implies, false_implies, reduceCtorEq, Bool.not_true, Bool.not_false, and_true, true_and, decide_eq_true_eq, decide_eq_false_iff_not, MH.put_same, if_true, if_false, not_true_eq_false, not_false_eq_true, exists_eq_left, exists_eq_left', Option.some.injEq, MO.lst.injEq, MH.put_put, at_0, at_1, at_2, at_3, Int.ofNat_lt, Int.ofNat_le, ix_30, ix_31, ix_32, Nat.zero_add, Int.zero_add, Nat.reduceAdd, D.lst.injEq, lenOk, Nat.reduceLeDiff, rowD_inj, strs_inj, ints_inj, ex_ins, tyNm, ts_NoneType_bool, ts_NoneType_int, ts_NoneType_str, ts_NoneType_tuple, ts_NoneType_list, ts_bool_bool, ts_bool_int, ts_bool_str, ts_bool_tuple, ts_bool_list, ts_int_bool, ts_int_int, ts_int_str, ts_int_tuple, ts_int_list, ts_str_bool, ts_str_int, ts_str_str, ts_str_tuple, ts_str_list, ts_tuple_bool, ts_tuple_int, ts_tuple_str, ts_tuple_tuple, ts_tuple_list, ts_list_bool, ts_list_int, ts_list_str, ts_list_tuple, ts_list_list, ts_dict_bool, ts_dict_int, ts_dict_str, ts_dict_tuple, ts_dict_list, ins_row, isC_row, row_ne, Int.natCast_inj, Int.toNat_natCast, D.int.injEq, D.str.injEq, D.bl.injEq, D.tup.injEq, D.ref.injEq, D.scr.injEq]
      exact ⟨kp _ (List.getElem_mem hi), hS rfl⟩
    · have e0 : (((List.range L.length).filter fun _ => false).map fun _ => D.non) = [] := by simp
      rw [e0]
      exact ⟨fun z hz => (by cases hz), fun z hz => (by cases hz), M, .refl, h⟩

theorem ok_law (T : Txt ⟨P, Wd.w, K, mg, base⟩) : Cal ⟨P, Wd.w, K, mg, base⟩ "law" 3 ["_law_cells"] sp_law := cal_mk T.t_law F_law (r_law T) pl_law
end
theorem all_mk {l : PySem.W.OpenLaw} {w : World} {K : PySem.W.Frag} {h : Heap} {mg : Str → Option Value} {fa f0 f1 f2 f3 f4 f5 f6 f7 : Addr} (X : K.In h) (G : h.Ns mainGlobals mg) (hfa : mg "law" = some (.ref fa))
    {od0 an0 od1 an1 od2 an2 od3 an3 od4 an4 od5 an5 od6 an6 od7 an7 : Option Addr} {sl0 sl1 sl2 sl3 sl4 sl5 sl6 sl7 : Array (Option Value)} {oc0 kV0 dc0 pm0 cd0 ct0 oc1 kV1 dc1 pm1 cd1 ct1 oc2 kV2 dc2 pm2 cd2 ct2 oc3 kV3 dc3 pm3 cd3 ct3 oc4 kV4 dc4 pm4 cd4 ct4 oc5 kV5 dc5 pm5 cd5 ct5 oc6 kV6 dc6 pm6 cd6 ct6 oc7 kV7 dc7 pm7 cd7 ct7 : Value}
    {tk0 tk1 tk2 tk3 tk4 tk5 : Tok}
    (a0 : PySem.W.nsIn K mainGlobals "_law_given" = some (some (.ref f0))) (l0 : K.lookup f0 = some ⟨oc0, od0, .func (PySem.W.fnOf "_law_given" "_law_given" (defArgs s_law_given) (defBody s_law_given) (defScope s_law_given) .none kV0 dc0 pm0 an0 cd0 ct0), sl0⟩) (c0 : PySem.W.codeIn K cd0 "_law_given" = true) (k0 : PySem.W.keepIn K (.ref f0) = true)
    (a1 : PySem.W.nsIn K mainGlobals "_law_sorts" = some (some (.ref f1))) (l1 : K.lookup f1 = some ⟨oc1, od1, .func (PySem.W.fnOf "_law_sorts" "_law_sorts" (defArgs s_law_sorts) (defBody s_law_sorts) (defScope s_law_sorts) .none kV1 dc1 pm1 an1 cd1 ct1), sl1⟩) (c1 : PySem.W.codeIn K cd1 "_law_sorts" = true) (k1 : PySem.W.keepIn K (.ref f1) = true)
    (a2 : PySem.W.nsIn K mainGlobals "_law_bases" = some (some (.ref f2))) (l2 : K.lookup f2 = some ⟨oc2, od2, .func (PySem.W.fnOf "_law_bases" "_law_bases" (defArgs s_law_bases) (defBody s_law_bases) (defScope s_law_bases) .none kV2 dc2 pm2 an2 cd2 ct2), sl2⟩) (c2 : PySem.W.codeIn K cd2 "_law_bases" = true) (k2 : PySem.W.keepIn K (.ref f2) = true)
    (a3 : PySem.W.nsIn K mainGlobals "_law_due" = some (some (.ref f3))) (l3 : K.lookup f3 = some ⟨oc3, od3, .func (PySem.W.fnOf "_law_due" "_law_due" (defArgs s_law_due) (defBody s_law_due) (defScope s_law_due) .none kV3 dc3 pm3 an3 cd3 ct3), sl3⟩) (c3 : PySem.W.codeIn K cd3 "_law_due" = true) (k3 : PySem.W.keepIn K (.ref f3) = true)
    (a4 : PySem.W.nsIn K mainGlobals "_law_kept_right" = some (some (.ref f4))) (l4 : K.lookup f4 = some ⟨oc4, od4, .func (PySem.W.fnOf "_law_kept_right" "_law_kept_right" (defArgs s_law_kept_right) (defBody s_law_kept_right) (defScope s_law_kept_right) .none kV4 dc4 pm4 an4 cd4 ct4), sl4⟩) (c4 : PySem.W.codeIn K cd4 "_law_kept_right" = true) (k4 : PySem.W.keepIn K (.ref f4) = true)
    (a5 : PySem.W.nsIn K mainGlobals "_law_raised_right" = some (some (.ref f5))) (l5 : K.lookup f5 = some ⟨oc5, od5, .func (PySem.W.fnOf "_law_raised_right" "_law_raised_right" (defArgs s_law_raised_right) (defBody s_law_raised_right) (defScope s_law_raised_right) .none kV5 dc5 pm5 an5 cd5 ct5), sl5⟩) (c5 : PySem.W.codeIn K cd5 "_law_raised_right" = true) (k5 : PySem.W.keepIn K (.ref f5) = true)
    (a6 : PySem.W.nsIn K mainGlobals "_law_right" = some (some (.ref f6))) (l6 : K.lookup f6 = some ⟨oc6, od6, .func (PySem.W.fnOf "_law_right" "_law_right" (defArgs s_law_right) (defBody s_law_right) (defScope s_law_right) .none kV6 dc6 pm6 an6 cd6 ct6), sl6⟩) (c6 : PySem.W.codeIn K cd6 "_law_right" = true) (k6 : PySem.W.keepIn K (.ref f6) = true)
    (a7 : PySem.W.nsIn K mainGlobals "law" = some (some (.ref f7))) (l7 : K.lookup f7 = some ⟨oc7, od7, .func (PySem.W.fnOf "law" "law" (defArgs s_law) (defBody s_law) (defScope s_law) .none kV7 dc7 pm7 an7 cd7 ct7), sl7⟩) (c7 : PySem.W.codeIn K cd7 "law" = true) (k7 : PySem.W.keepIn K (.ref f7) = true)
    (zArithmeticError : PySem.W.nsIn K mainGlobals "ArithmeticError" = some none)
    (zIndexError : PySem.W.nsIn K mainGlobals "IndexError" = some none)
    (zKeyError : PySem.W.nsIn K mainGlobals "KeyError" = some none)
    (zLookupError : PySem.W.nsIn K mainGlobals "LookupError" = some none)
    (zValueError : PySem.W.nsIn K mainGlobals "ValueError" = some none)
    (zZeroDivisionError : PySem.W.nsIn K mainGlobals "ZeroDivisionError" = some none)
    (zint : PySem.W.nsIn K mainGlobals "int" = some none)
    (zisinstance : PySem.W.nsIn K mainGlobals "isinstance" = some none)
    (zlen : PySem.W.nsIn K mainGlobals "len" = some none)
    (zrange : PySem.W.nsIn K mainGlobals "range" = some none)
    (zrepr : PySem.W.nsIn K mainGlobals "repr" = some none)
    (q0 : PySem.W.nsIn K mainGlobals "MOST_THINGS" = some (some (.int 40 tk0)))
    (q1 : PySem.W.nsIn K mainGlobals "MOST_WALKED" = some (some (.int 7 tk1)))
    (q2 : PySem.W.nsIn K mainGlobals "MOST_PRICED" = some (some (.int 6 tk2)))
    (q3 : PySem.W.nsIn K mainGlobals "MOST_HEAP" = some (some (.int 8 tk3)))
    (q4 : PySem.W.nsIn K mainGlobals "MOST_ROWS" = some (some (.int 4 tk4)))
    (q5 : PySem.W.nsIn K mainGlobals "MOST_PLANNED" = some (some (.int 8 tk5)))
    (ekH : ∀ p ∈ exsL, PySem.W.exmOne K (clsV K p.1.1) (clsV K p.1.2) = some p.2)
    (xkH : ∀ p ∈ exfL, ∃ C, clsV K p.1 = .ref C ∧ XfC K C ∧ PySem.W.findIn K (.ref C) p.2 = some none)
    {iaBroken : Addr} (ibBroken : PySem.W.nsIn K mainGlobals "Broken" = some (some (.ref iaBroken)))
    {iaCannotBe : Addr} (ibCannotBe : PySem.W.nsIn K mainGlobals "CannotBe" = some (some (.ref iaCannotBe)))
    {iaInUse : Addr} (ibInUse : PySem.W.nsIn K mainGlobals "InUse" = some (some (.ref iaInUse)))
    {iaInvalidClaim : Addr} (ibInvalidClaim : PySem.W.nsIn K mainGlobals "InvalidClaim" = some (some (.ref iaInvalidClaim)))
    {iaInvalidExchange : Addr} (ibInvalidExchange : PySem.W.nsIn K mainGlobals "InvalidExchange" = some (some (.ref iaInvalidExchange)))
    {iaInvalidHeap : Addr} (ibInvalidHeap : PySem.W.nsIn K mainGlobals "InvalidHeap" = some (some (.ref iaInvalidHeap)))
    {iaInvalidName : Addr} (ibInvalidName : PySem.W.nsIn K mainGlobals "InvalidName" = some (some (.ref iaInvalidName)))
    {iaInvalidNumber : Addr} (ibInvalidNumber : PySem.W.nsIn K mainGlobals "InvalidNumber" = some (some (.ref iaInvalidNumber)))
    {iaInvalidOrders : Addr} (ibInvalidOrders : PySem.W.nsIn K mainGlobals "InvalidOrders" = some (some (.ref iaInvalidOrders)))
    {iaInvalidPlace : Addr} (ibInvalidPlace : PySem.W.nsIn K mainGlobals "InvalidPlace" = some (some (.ref iaInvalidPlace)))
    {iaInvalidPlan : Addr} (ibInvalidPlan : PySem.W.nsIn K mainGlobals "InvalidPlan" = some (some (.ref iaInvalidPlan)))
    {iaInvalidRows : Addr} (ibInvalidRows : PySem.W.nsIn K mainGlobals "InvalidRows" = some (some (.ref iaInvalidRows)))
    {iaInvalidText : Addr} (ibInvalidText : PySem.W.nsIn K mainGlobals "InvalidText" = some (some (.ref iaInvalidText)))
    {iaInvalidThings : Addr} (ibInvalidThings : PySem.W.nsIn K mainGlobals "InvalidThings" = some (some (.ref iaInvalidThings)))
    {iaNotARow : Addr} (ibNotARow : PySem.W.nsIn K mainGlobals "NotARow" = some (some (.ref iaNotARow)))
    {iaNotRight : Addr} (ibNotRight : PySem.W.nsIn K mainGlobals "NotRight" = some (some (.ref iaNotRight)))
    {iaNotThere : Addr} (ibNotThere : PySem.W.nsIn K mainGlobals "NotThere" = some (some (.ref iaNotThere)))
    {iaNothingToUndo : Addr} (ibNothingToUndo : PySem.W.nsIn K mainGlobals "NothingToUndo" = some (some (.ref iaNothingToUndo)))
    {iaOtherThings : Addr} (ibOtherThings : PySem.W.nsIn K mainGlobals "OtherThings" = some (some (.ref iaOtherThings)))
    {iaTooMany : Addr} (ibTooMany : PySem.W.nsIn K mainGlobals "TooMany" = some (some (.ref iaTooMany)))
    {iaUnknownName : Addr} (ibUnknownName : PySem.W.nsIn K mainGlobals "UnknownName" = some (some (.ref iaUnknownName)))
    (eqA : PySem.W.specialIn K (.builtin "object.__class__") "__get__" = some (some (.builtin "getset_descriptor.__get__"))) (eqB : PySem.W.takesIn K (.builtin "object.__class__") = some true)
    (erBroken : EiC K iaBroken)
    (erInUse : EiC K iaInUse)
    (erInvalidClaim : EiC K iaInvalidClaim)
    (erInvalidExchange : EiC K iaInvalidExchange)
    (erInvalidHeap : EiC K iaInvalidHeap)
    (erInvalidName : EiC K iaInvalidName)
    (erInvalidNumber : EiC K iaInvalidNumber)
    (erInvalidOrders : EiC K iaInvalidOrders)
    (erInvalidPlace : EiC K iaInvalidPlace)
    (erInvalidPlan : EiC K iaInvalidPlan)
    (erInvalidRows : EiC K iaInvalidRows)
    (erInvalidText : EiC K iaInvalidText)
    (erInvalidThings : EiC K iaInvalidThings)
    (erNotARow : EiC K iaNotARow)
    (erNothingToUndo : EiC K iaNothingToUndo)
    (erOtherThings : EiC K iaOtherThings)
    (erTooMany : EiC K iaTooMany)
    (erUnknownName : EiC K iaUnknownName)
    (ekBroken : PySem.W.kitOne K (.ref iaBroken) (.ref iaBroken) = some true ∧ PySem.W.kitOne K (.ref iaBroken) (.ref iaCannotBe) = some true ∧ PySem.W.kitOne K (.ref iaBroken) (.ref iaInUse) = some false ∧ PySem.W.kitOne K (.ref iaBroken) (.ref iaInvalidClaim) = some false ∧ PySem.W.kitOne K (.ref iaBroken) (.ref iaInvalidExchange) = some false ∧ PySem.W.kitOne K (.ref iaBroken) (.ref iaInvalidHeap) = some false ∧ PySem.W.kitOne K (.ref iaBroken) (.ref iaInvalidName) = some false ∧ PySem.W.kitOne K (.ref iaBroken) (.ref iaInvalidNumber) = some false ∧ PySem.W.kitOne K (.ref iaBroken) (.ref iaInvalidOrders) = some false ∧ PySem.W.kitOne K (.ref iaBroken) (.ref iaInvalidPlace) = some false ∧ PySem.W.kitOne K (.ref iaBroken) (.ref iaInvalidPlan) = some false ∧ PySem.W.kitOne K (.ref iaBroken) (.ref iaInvalidRows) = some false ∧ PySem.W.kitOne K (.ref iaBroken) (.ref iaInvalidText) = some false ∧ PySem.W.kitOne K (.ref iaBroken) (.ref iaInvalidThings) = some false ∧ PySem.W.kitOne K (.ref iaBroken) (.ref iaNotARow) = some false ∧ PySem.W.kitOne K (.ref iaBroken) (.ref iaNotRight) = some false ∧ PySem.W.kitOne K (.ref iaBroken) (.ref iaNotThere) = some false ∧ PySem.W.kitOne K (.ref iaBroken) (.ref iaNothingToUndo) = some false ∧ PySem.W.kitOne K (.ref iaBroken) (.ref iaOtherThings) = some false ∧ PySem.W.kitOne K (.ref iaBroken) (.ref iaTooMany) = some false ∧ PySem.W.kitOne K (.ref iaBroken) (.ref iaUnknownName) = some false ∧ PySem.W.kitOne K (.ref iaBroken) (.type "ArithmeticError") = some true ∧ PySem.W.kitOne K (.ref iaBroken) (.type "IndexError") = some false ∧ PySem.W.kitOne K (.ref iaBroken) (.type "KeyError") = some false ∧ PySem.W.kitOne K (.ref iaBroken) (.type "LookupError") = some false ∧ PySem.W.kitOne K (.ref iaBroken) (.type "ValueError") = some false ∧ PySem.W.kitOne K (.ref iaBroken) (.type "ZeroDivisionError") = some false)
    (ekInUse : PySem.W.kitOne K (.ref iaInUse) (.ref iaBroken) = some false ∧ PySem.W.kitOne K (.ref iaInUse) (.ref iaCannotBe) = some false ∧ PySem.W.kitOne K (.ref iaInUse) (.ref iaInUse) = some true ∧ PySem.W.kitOne K (.ref iaInUse) (.ref iaInvalidClaim) = some false ∧ PySem.W.kitOne K (.ref iaInUse) (.ref iaInvalidExchange) = some false ∧ PySem.W.kitOne K (.ref iaInUse) (.ref iaInvalidHeap) = some false ∧ PySem.W.kitOne K (.ref iaInUse) (.ref iaInvalidName) = some false ∧ PySem.W.kitOne K (.ref iaInUse) (.ref iaInvalidNumber) = some false ∧ PySem.W.kitOne K (.ref iaInUse) (.ref iaInvalidOrders) = some false ∧ PySem.W.kitOne K (.ref iaInUse) (.ref iaInvalidPlace) = some false ∧ PySem.W.kitOne K (.ref iaInUse) (.ref iaInvalidPlan) = some false ∧ PySem.W.kitOne K (.ref iaInUse) (.ref iaInvalidRows) = some false ∧ PySem.W.kitOne K (.ref iaInUse) (.ref iaInvalidText) = some false ∧ PySem.W.kitOne K (.ref iaInUse) (.ref iaInvalidThings) = some false ∧ PySem.W.kitOne K (.ref iaInUse) (.ref iaNotARow) = some false ∧ PySem.W.kitOne K (.ref iaInUse) (.ref iaNotRight) = some false ∧ PySem.W.kitOne K (.ref iaInUse) (.ref iaNotThere) = some true ∧ PySem.W.kitOne K (.ref iaInUse) (.ref iaNothingToUndo) = some false ∧ PySem.W.kitOne K (.ref iaInUse) (.ref iaOtherThings) = some false ∧ PySem.W.kitOne K (.ref iaInUse) (.ref iaTooMany) = some false ∧ PySem.W.kitOne K (.ref iaInUse) (.ref iaUnknownName) = some false ∧ PySem.W.kitOne K (.ref iaInUse) (.type "ArithmeticError") = some false ∧ PySem.W.kitOne K (.ref iaInUse) (.type "IndexError") = some false ∧ PySem.W.kitOne K (.ref iaInUse) (.type "KeyError") = some false ∧ PySem.W.kitOne K (.ref iaInUse) (.type "LookupError") = some true ∧ PySem.W.kitOne K (.ref iaInUse) (.type "ValueError") = some false ∧ PySem.W.kitOne K (.ref iaInUse) (.type "ZeroDivisionError") = some false)
    (ekInvalidClaim : PySem.W.kitOne K (.ref iaInvalidClaim) (.ref iaBroken) = some false ∧ PySem.W.kitOne K (.ref iaInvalidClaim) (.ref iaCannotBe) = some false ∧ PySem.W.kitOne K (.ref iaInvalidClaim) (.ref iaInUse) = some false ∧ PySem.W.kitOne K (.ref iaInvalidClaim) (.ref iaInvalidClaim) = some true ∧ PySem.W.kitOne K (.ref iaInvalidClaim) (.ref iaInvalidExchange) = some false ∧ PySem.W.kitOne K (.ref iaInvalidClaim) (.ref iaInvalidHeap) = some false ∧ PySem.W.kitOne K (.ref iaInvalidClaim) (.ref iaInvalidName) = some false ∧ PySem.W.kitOne K (.ref iaInvalidClaim) (.ref iaInvalidNumber) = some false ∧ PySem.W.kitOne K (.ref iaInvalidClaim) (.ref iaInvalidOrders) = some false ∧ PySem.W.kitOne K (.ref iaInvalidClaim) (.ref iaInvalidPlace) = some false ∧ PySem.W.kitOne K (.ref iaInvalidClaim) (.ref iaInvalidPlan) = some false ∧ PySem.W.kitOne K (.ref iaInvalidClaim) (.ref iaInvalidRows) = some false ∧ PySem.W.kitOne K (.ref iaInvalidClaim) (.ref iaInvalidText) = some false ∧ PySem.W.kitOne K (.ref iaInvalidClaim) (.ref iaInvalidThings) = some false ∧ PySem.W.kitOne K (.ref iaInvalidClaim) (.ref iaNotARow) = some false ∧ PySem.W.kitOne K (.ref iaInvalidClaim) (.ref iaNotRight) = some true ∧ PySem.W.kitOne K (.ref iaInvalidClaim) (.ref iaNotThere) = some false ∧ PySem.W.kitOne K (.ref iaInvalidClaim) (.ref iaNothingToUndo) = some false ∧ PySem.W.kitOne K (.ref iaInvalidClaim) (.ref iaOtherThings) = some false ∧ PySem.W.kitOne K (.ref iaInvalidClaim) (.ref iaTooMany) = some false ∧ PySem.W.kitOne K (.ref iaInvalidClaim) (.ref iaUnknownName) = some false ∧ PySem.W.kitOne K (.ref iaInvalidClaim) (.type "ArithmeticError") = some false ∧ PySem.W.kitOne K (.ref iaInvalidClaim) (.type "IndexError") = some false ∧ PySem.W.kitOne K (.ref iaInvalidClaim) (.type "KeyError") = some false ∧ PySem.W.kitOne K (.ref iaInvalidClaim) (.type "LookupError") = some false ∧ PySem.W.kitOne K (.ref iaInvalidClaim) (.type "ValueError") = some true ∧ PySem.W.kitOne K (.ref iaInvalidClaim) (.type "ZeroDivisionError") = some false)
    (ekInvalidExchange : PySem.W.kitOne K (.ref iaInvalidExchange) (.ref iaBroken) = some false ∧ PySem.W.kitOne K (.ref iaInvalidExchange) (.ref iaCannotBe) = some false ∧ PySem.W.kitOne K (.ref iaInvalidExchange) (.ref iaInUse) = some false ∧ PySem.W.kitOne K (.ref iaInvalidExchange) (.ref iaInvalidClaim) = some false ∧ PySem.W.kitOne K (.ref iaInvalidExchange) (.ref iaInvalidExchange) = some true ∧ PySem.W.kitOne K (.ref iaInvalidExchange) (.ref iaInvalidHeap) = some false ∧ PySem.W.kitOne K (.ref iaInvalidExchange) (.ref iaInvalidName) = some false ∧ PySem.W.kitOne K (.ref iaInvalidExchange) (.ref iaInvalidNumber) = some false ∧ PySem.W.kitOne K (.ref iaInvalidExchange) (.ref iaInvalidOrders) = some false ∧ PySem.W.kitOne K (.ref iaInvalidExchange) (.ref iaInvalidPlace) = some false ∧ PySem.W.kitOne K (.ref iaInvalidExchange) (.ref iaInvalidPlan) = some false ∧ PySem.W.kitOne K (.ref iaInvalidExchange) (.ref iaInvalidRows) = some false ∧ PySem.W.kitOne K (.ref iaInvalidExchange) (.ref iaInvalidText) = some false ∧ PySem.W.kitOne K (.ref iaInvalidExchange) (.ref iaInvalidThings) = some false ∧ PySem.W.kitOne K (.ref iaInvalidExchange) (.ref iaNotARow) = some false ∧ PySem.W.kitOne K (.ref iaInvalidExchange) (.ref iaNotRight) = some true ∧ PySem.W.kitOne K (.ref iaInvalidExchange) (.ref iaNotThere) = some false ∧ PySem.W.kitOne K (.ref iaInvalidExchange) (.ref iaNothingToUndo) = some false ∧ PySem.W.kitOne K (.ref iaInvalidExchange) (.ref iaOtherThings) = some false ∧ PySem.W.kitOne K (.ref iaInvalidExchange) (.ref iaTooMany) = some false ∧ PySem.W.kitOne K (.ref iaInvalidExchange) (.ref iaUnknownName) = some false ∧ PySem.W.kitOne K (.ref iaInvalidExchange) (.type "ArithmeticError") = some false ∧ PySem.W.kitOne K (.ref iaInvalidExchange) (.type "IndexError") = some false ∧ PySem.W.kitOne K (.ref iaInvalidExchange) (.type "KeyError") = some false ∧ PySem.W.kitOne K (.ref iaInvalidExchange) (.type "LookupError") = some false ∧ PySem.W.kitOne K (.ref iaInvalidExchange) (.type "ValueError") = some true ∧ PySem.W.kitOne K (.ref iaInvalidExchange) (.type "ZeroDivisionError") = some false)
    (ekInvalidHeap : PySem.W.kitOne K (.ref iaInvalidHeap) (.ref iaBroken) = some false ∧ PySem.W.kitOne K (.ref iaInvalidHeap) (.ref iaCannotBe) = some false ∧ PySem.W.kitOne K (.ref iaInvalidHeap) (.ref iaInUse) = some false ∧ PySem.W.kitOne K (.ref iaInvalidHeap) (.ref iaInvalidClaim) = some false ∧ PySem.W.kitOne K (.ref iaInvalidHeap) (.ref iaInvalidExchange) = some false ∧ PySem.W.kitOne K (.ref iaInvalidHeap) (.ref iaInvalidHeap) = some true ∧ PySem.W.kitOne K (.ref iaInvalidHeap) (.ref iaInvalidName) = some false ∧ PySem.W.kitOne K (.ref iaInvalidHeap) (.ref iaInvalidNumber) = some false ∧ PySem.W.kitOne K (.ref iaInvalidHeap) (.ref iaInvalidOrders) = some false ∧ PySem.W.kitOne K (.ref iaInvalidHeap) (.ref iaInvalidPlace) = some false ∧ PySem.W.kitOne K (.ref iaInvalidHeap) (.ref iaInvalidPlan) = some false ∧ PySem.W.kitOne K (.ref iaInvalidHeap) (.ref iaInvalidRows) = some false ∧ PySem.W.kitOne K (.ref iaInvalidHeap) (.ref iaInvalidText) = some false ∧ PySem.W.kitOne K (.ref iaInvalidHeap) (.ref iaInvalidThings) = some false ∧ PySem.W.kitOne K (.ref iaInvalidHeap) (.ref iaNotARow) = some false ∧ PySem.W.kitOne K (.ref iaInvalidHeap) (.ref iaNotRight) = some true ∧ PySem.W.kitOne K (.ref iaInvalidHeap) (.ref iaNotThere) = some false ∧ PySem.W.kitOne K (.ref iaInvalidHeap) (.ref iaNothingToUndo) = some false ∧ PySem.W.kitOne K (.ref iaInvalidHeap) (.ref iaOtherThings) = some false ∧ PySem.W.kitOne K (.ref iaInvalidHeap) (.ref iaTooMany) = some false ∧ PySem.W.kitOne K (.ref iaInvalidHeap) (.ref iaUnknownName) = some false ∧ PySem.W.kitOne K (.ref iaInvalidHeap) (.type "ArithmeticError") = some false ∧ PySem.W.kitOne K (.ref iaInvalidHeap) (.type "IndexError") = some false ∧ PySem.W.kitOne K (.ref iaInvalidHeap) (.type "KeyError") = some false ∧ PySem.W.kitOne K (.ref iaInvalidHeap) (.type "LookupError") = some false ∧ PySem.W.kitOne K (.ref iaInvalidHeap) (.type "ValueError") = some true ∧ PySem.W.kitOne K (.ref iaInvalidHeap) (.type "ZeroDivisionError") = some false)
    (ekInvalidName : PySem.W.kitOne K (.ref iaInvalidName) (.ref iaBroken) = some false ∧ PySem.W.kitOne K (.ref iaInvalidName) (.ref iaCannotBe) = some false ∧ PySem.W.kitOne K (.ref iaInvalidName) (.ref iaInUse) = some false ∧ PySem.W.kitOne K (.ref iaInvalidName) (.ref iaInvalidClaim) = some false ∧ PySem.W.kitOne K (.ref iaInvalidName) (.ref iaInvalidExchange) = some false ∧ PySem.W.kitOne K (.ref iaInvalidName) (.ref iaInvalidHeap) = some false ∧ PySem.W.kitOne K (.ref iaInvalidName) (.ref iaInvalidName) = some true ∧ PySem.W.kitOne K (.ref iaInvalidName) (.ref iaInvalidNumber) = some false ∧ PySem.W.kitOne K (.ref iaInvalidName) (.ref iaInvalidOrders) = some false ∧ PySem.W.kitOne K (.ref iaInvalidName) (.ref iaInvalidPlace) = some false ∧ PySem.W.kitOne K (.ref iaInvalidName) (.ref iaInvalidPlan) = some false ∧ PySem.W.kitOne K (.ref iaInvalidName) (.ref iaInvalidRows) = some false ∧ PySem.W.kitOne K (.ref iaInvalidName) (.ref iaInvalidText) = some false ∧ PySem.W.kitOne K (.ref iaInvalidName) (.ref iaInvalidThings) = some false ∧ PySem.W.kitOne K (.ref iaInvalidName) (.ref iaNotARow) = some false ∧ PySem.W.kitOne K (.ref iaInvalidName) (.ref iaNotRight) = some true ∧ PySem.W.kitOne K (.ref iaInvalidName) (.ref iaNotThere) = some false ∧ PySem.W.kitOne K (.ref iaInvalidName) (.ref iaNothingToUndo) = some false ∧ PySem.W.kitOne K (.ref iaInvalidName) (.ref iaOtherThings) = some false ∧ PySem.W.kitOne K (.ref iaInvalidName) (.ref iaTooMany) = some false ∧ PySem.W.kitOne K (.ref iaInvalidName) (.ref iaUnknownName) = some false ∧ PySem.W.kitOne K (.ref iaInvalidName) (.type "ArithmeticError") = some false ∧ PySem.W.kitOne K (.ref iaInvalidName) (.type "IndexError") = some false ∧ PySem.W.kitOne K (.ref iaInvalidName) (.type "KeyError") = some false ∧ PySem.W.kitOne K (.ref iaInvalidName) (.type "LookupError") = some false ∧ PySem.W.kitOne K (.ref iaInvalidName) (.type "ValueError") = some true ∧ PySem.W.kitOne K (.ref iaInvalidName) (.type "ZeroDivisionError") = some false)
    (ekInvalidNumber : PySem.W.kitOne K (.ref iaInvalidNumber) (.ref iaBroken) = some false ∧ PySem.W.kitOne K (.ref iaInvalidNumber) (.ref iaCannotBe) = some false ∧ PySem.W.kitOne K (.ref iaInvalidNumber) (.ref iaInUse) = some false ∧ PySem.W.kitOne K (.ref iaInvalidNumber) (.ref iaInvalidClaim) = some false ∧ PySem.W.kitOne K (.ref iaInvalidNumber) (.ref iaInvalidExchange) = some false ∧ PySem.W.kitOne K (.ref iaInvalidNumber) (.ref iaInvalidHeap) = some false ∧ PySem.W.kitOne K (.ref iaInvalidNumber) (.ref iaInvalidName) = some false ∧ PySem.W.kitOne K (.ref iaInvalidNumber) (.ref iaInvalidNumber) = some true ∧ PySem.W.kitOne K (.ref iaInvalidNumber) (.ref iaInvalidOrders) = some false ∧ PySem.W.kitOne K (.ref iaInvalidNumber) (.ref iaInvalidPlace) = some false ∧ PySem.W.kitOne K (.ref iaInvalidNumber) (.ref iaInvalidPlan) = some false ∧ PySem.W.kitOne K (.ref iaInvalidNumber) (.ref iaInvalidRows) = some false ∧ PySem.W.kitOne K (.ref iaInvalidNumber) (.ref iaInvalidText) = some false ∧ PySem.W.kitOne K (.ref iaInvalidNumber) (.ref iaInvalidThings) = some false ∧ PySem.W.kitOne K (.ref iaInvalidNumber) (.ref iaNotARow) = some false ∧ PySem.W.kitOne K (.ref iaInvalidNumber) (.ref iaNotRight) = some true ∧ PySem.W.kitOne K (.ref iaInvalidNumber) (.ref iaNotThere) = some false ∧ PySem.W.kitOne K (.ref iaInvalidNumber) (.ref iaNothingToUndo) = some false ∧ PySem.W.kitOne K (.ref iaInvalidNumber) (.ref iaOtherThings) = some false ∧ PySem.W.kitOne K (.ref iaInvalidNumber) (.ref iaTooMany) = some false ∧ PySem.W.kitOne K (.ref iaInvalidNumber) (.ref iaUnknownName) = some false ∧ PySem.W.kitOne K (.ref iaInvalidNumber) (.type "ArithmeticError") = some false ∧ PySem.W.kitOne K (.ref iaInvalidNumber) (.type "IndexError") = some false ∧ PySem.W.kitOne K (.ref iaInvalidNumber) (.type "KeyError") = some false ∧ PySem.W.kitOne K (.ref iaInvalidNumber) (.type "LookupError") = some false ∧ PySem.W.kitOne K (.ref iaInvalidNumber) (.type "ValueError") = some true ∧ PySem.W.kitOne K (.ref iaInvalidNumber) (.type "ZeroDivisionError") = some false)
    (ekInvalidOrders : PySem.W.kitOne K (.ref iaInvalidOrders) (.ref iaBroken) = some false ∧ PySem.W.kitOne K (.ref iaInvalidOrders) (.ref iaCannotBe) = some false ∧ PySem.W.kitOne K (.ref iaInvalidOrders) (.ref iaInUse) = some false ∧ PySem.W.kitOne K (.ref iaInvalidOrders) (.ref iaInvalidClaim) = some false ∧ PySem.W.kitOne K (.ref iaInvalidOrders) (.ref iaInvalidExchange) = some false ∧ PySem.W.kitOne K (.ref iaInvalidOrders) (.ref iaInvalidHeap) = some false ∧ PySem.W.kitOne K (.ref iaInvalidOrders) (.ref iaInvalidName) = some false ∧ PySem.W.kitOne K (.ref iaInvalidOrders) (.ref iaInvalidNumber) = some false ∧ PySem.W.kitOne K (.ref iaInvalidOrders) (.ref iaInvalidOrders) = some true ∧ PySem.W.kitOne K (.ref iaInvalidOrders) (.ref iaInvalidPlace) = some false ∧ PySem.W.kitOne K (.ref iaInvalidOrders) (.ref iaInvalidPlan) = some false ∧ PySem.W.kitOne K (.ref iaInvalidOrders) (.ref iaInvalidRows) = some false ∧ PySem.W.kitOne K (.ref iaInvalidOrders) (.ref iaInvalidText) = some false ∧ PySem.W.kitOne K (.ref iaInvalidOrders) (.ref iaInvalidThings) = some false ∧ PySem.W.kitOne K (.ref iaInvalidOrders) (.ref iaNotARow) = some false ∧ PySem.W.kitOne K (.ref iaInvalidOrders) (.ref iaNotRight) = some true ∧ PySem.W.kitOne K (.ref iaInvalidOrders) (.ref iaNotThere) = some false ∧ PySem.W.kitOne K (.ref iaInvalidOrders) (.ref iaNothingToUndo) = some false ∧ PySem.W.kitOne K (.ref iaInvalidOrders) (.ref iaOtherThings) = some false ∧ PySem.W.kitOne K (.ref iaInvalidOrders) (.ref iaTooMany) = some false ∧ PySem.W.kitOne K (.ref iaInvalidOrders) (.ref iaUnknownName) = some false ∧ PySem.W.kitOne K (.ref iaInvalidOrders) (.type "ArithmeticError") = some false ∧ PySem.W.kitOne K (.ref iaInvalidOrders) (.type "IndexError") = some false ∧ PySem.W.kitOne K (.ref iaInvalidOrders) (.type "KeyError") = some false ∧ PySem.W.kitOne K (.ref iaInvalidOrders) (.type "LookupError") = some false ∧ PySem.W.kitOne K (.ref iaInvalidOrders) (.type "ValueError") = some true ∧ PySem.W.kitOne K (.ref iaInvalidOrders) (.type "ZeroDivisionError") = some false)
    (ekInvalidPlace : PySem.W.kitOne K (.ref iaInvalidPlace) (.ref iaBroken) = some false ∧ PySem.W.kitOne K (.ref iaInvalidPlace) (.ref iaCannotBe) = some false ∧ PySem.W.kitOne K (.ref iaInvalidPlace) (.ref iaInUse) = some false ∧ PySem.W.kitOne K (.ref iaInvalidPlace) (.ref iaInvalidClaim) = some false ∧ PySem.W.kitOne K (.ref iaInvalidPlace) (.ref iaInvalidExchange) = some false ∧ PySem.W.kitOne K (.ref iaInvalidPlace) (.ref iaInvalidHeap) = some false ∧ PySem.W.kitOne K (.ref iaInvalidPlace) (.ref iaInvalidName) = some false ∧ PySem.W.kitOne K (.ref iaInvalidPlace) (.ref iaInvalidNumber) = some false ∧ PySem.W.kitOne K (.ref iaInvalidPlace) (.ref iaInvalidOrders) = some false ∧ PySem.W.kitOne K (.ref iaInvalidPlace) (.ref iaInvalidPlace) = some true ∧ PySem.W.kitOne K (.ref iaInvalidPlace) (.ref iaInvalidPlan) = some false ∧ PySem.W.kitOne K (.ref iaInvalidPlace) (.ref iaInvalidRows) = some false ∧ PySem.W.kitOne K (.ref iaInvalidPlace) (.ref iaInvalidText) = some false ∧ PySem.W.kitOne K (.ref iaInvalidPlace) (.ref iaInvalidThings) = some false ∧ PySem.W.kitOne K (.ref iaInvalidPlace) (.ref iaNotARow) = some false ∧ PySem.W.kitOne K (.ref iaInvalidPlace) (.ref iaNotRight) = some true ∧ PySem.W.kitOne K (.ref iaInvalidPlace) (.ref iaNotThere) = some false ∧ PySem.W.kitOne K (.ref iaInvalidPlace) (.ref iaNothingToUndo) = some false ∧ PySem.W.kitOne K (.ref iaInvalidPlace) (.ref iaOtherThings) = some false ∧ PySem.W.kitOne K (.ref iaInvalidPlace) (.ref iaTooMany) = some false ∧ PySem.W.kitOne K (.ref iaInvalidPlace) (.ref iaUnknownName) = some false ∧ PySem.W.kitOne K (.ref iaInvalidPlace) (.type "ArithmeticError") = some false ∧ PySem.W.kitOne K (.ref iaInvalidPlace) (.type "IndexError") = some false ∧ PySem.W.kitOne K (.ref iaInvalidPlace) (.type "KeyError") = some false ∧ PySem.W.kitOne K (.ref iaInvalidPlace) (.type "LookupError") = some false ∧ PySem.W.kitOne K (.ref iaInvalidPlace) (.type "ValueError") = some true ∧ PySem.W.kitOne K (.ref iaInvalidPlace) (.type "ZeroDivisionError") = some false)
    (ekInvalidPlan : PySem.W.kitOne K (.ref iaInvalidPlan) (.ref iaBroken) = some false ∧ PySem.W.kitOne K (.ref iaInvalidPlan) (.ref iaCannotBe) = some false ∧ PySem.W.kitOne K (.ref iaInvalidPlan) (.ref iaInUse) = some false ∧ PySem.W.kitOne K (.ref iaInvalidPlan) (.ref iaInvalidClaim) = some false ∧ PySem.W.kitOne K (.ref iaInvalidPlan) (.ref iaInvalidExchange) = some false ∧ PySem.W.kitOne K (.ref iaInvalidPlan) (.ref iaInvalidHeap) = some false ∧ PySem.W.kitOne K (.ref iaInvalidPlan) (.ref iaInvalidName) = some false ∧ PySem.W.kitOne K (.ref iaInvalidPlan) (.ref iaInvalidNumber) = some false ∧ PySem.W.kitOne K (.ref iaInvalidPlan) (.ref iaInvalidOrders) = some false ∧ PySem.W.kitOne K (.ref iaInvalidPlan) (.ref iaInvalidPlace) = some false ∧ PySem.W.kitOne K (.ref iaInvalidPlan) (.ref iaInvalidPlan) = some true ∧ PySem.W.kitOne K (.ref iaInvalidPlan) (.ref iaInvalidRows) = some false ∧ PySem.W.kitOne K (.ref iaInvalidPlan) (.ref iaInvalidText) = some false ∧ PySem.W.kitOne K (.ref iaInvalidPlan) (.ref iaInvalidThings) = some false ∧ PySem.W.kitOne K (.ref iaInvalidPlan) (.ref iaNotARow) = some false ∧ PySem.W.kitOne K (.ref iaInvalidPlan) (.ref iaNotRight) = some true ∧ PySem.W.kitOne K (.ref iaInvalidPlan) (.ref iaNotThere) = some false ∧ PySem.W.kitOne K (.ref iaInvalidPlan) (.ref iaNothingToUndo) = some false ∧ PySem.W.kitOne K (.ref iaInvalidPlan) (.ref iaOtherThings) = some false ∧ PySem.W.kitOne K (.ref iaInvalidPlan) (.ref iaTooMany) = some false ∧ PySem.W.kitOne K (.ref iaInvalidPlan) (.ref iaUnknownName) = some false ∧ PySem.W.kitOne K (.ref iaInvalidPlan) (.type "ArithmeticError") = some false ∧ PySem.W.kitOne K (.ref iaInvalidPlan) (.type "IndexError") = some false ∧ PySem.W.kitOne K (.ref iaInvalidPlan) (.type "KeyError") = some false ∧ PySem.W.kitOne K (.ref iaInvalidPlan) (.type "LookupError") = some false ∧ PySem.W.kitOne K (.ref iaInvalidPlan) (.type "ValueError") = some true ∧ PySem.W.kitOne K (.ref iaInvalidPlan) (.type "ZeroDivisionError") = some false)
    (ekInvalidRows : PySem.W.kitOne K (.ref iaInvalidRows) (.ref iaBroken) = some false ∧ PySem.W.kitOne K (.ref iaInvalidRows) (.ref iaCannotBe) = some false ∧ PySem.W.kitOne K (.ref iaInvalidRows) (.ref iaInUse) = some false ∧ PySem.W.kitOne K (.ref iaInvalidRows) (.ref iaInvalidClaim) = some false ∧ PySem.W.kitOne K (.ref iaInvalidRows) (.ref iaInvalidExchange) = some false ∧ PySem.W.kitOne K (.ref iaInvalidRows) (.ref iaInvalidHeap) = some false ∧ PySem.W.kitOne K (.ref iaInvalidRows) (.ref iaInvalidName) = some false ∧ PySem.W.kitOne K (.ref iaInvalidRows) (.ref iaInvalidNumber) = some false ∧ PySem.W.kitOne K (.ref iaInvalidRows) (.ref iaInvalidOrders) = some false ∧ PySem.W.kitOne K (.ref iaInvalidRows) (.ref iaInvalidPlace) = some false ∧ PySem.W.kitOne K (.ref iaInvalidRows) (.ref iaInvalidPlan) = some false ∧ PySem.W.kitOne K (.ref iaInvalidRows) (.ref iaInvalidRows) = some true ∧ PySem.W.kitOne K (.ref iaInvalidRows) (.ref iaInvalidText) = some false ∧ PySem.W.kitOne K (.ref iaInvalidRows) (.ref iaInvalidThings) = some false ∧ PySem.W.kitOne K (.ref iaInvalidRows) (.ref iaNotARow) = some false ∧ PySem.W.kitOne K (.ref iaInvalidRows) (.ref iaNotRight) = some true ∧ PySem.W.kitOne K (.ref iaInvalidRows) (.ref iaNotThere) = some false ∧ PySem.W.kitOne K (.ref iaInvalidRows) (.ref iaNothingToUndo) = some false ∧ PySem.W.kitOne K (.ref iaInvalidRows) (.ref iaOtherThings) = some false ∧ PySem.W.kitOne K (.ref iaInvalidRows) (.ref iaTooMany) = some false ∧ PySem.W.kitOne K (.ref iaInvalidRows) (.ref iaUnknownName) = some false ∧ PySem.W.kitOne K (.ref iaInvalidRows) (.type "ArithmeticError") = some false ∧ PySem.W.kitOne K (.ref iaInvalidRows) (.type "IndexError") = some false ∧ PySem.W.kitOne K (.ref iaInvalidRows) (.type "KeyError") = some false ∧ PySem.W.kitOne K (.ref iaInvalidRows) (.type "LookupError") = some false ∧ PySem.W.kitOne K (.ref iaInvalidRows) (.type "ValueError") = some true ∧ PySem.W.kitOne K (.ref iaInvalidRows) (.type "ZeroDivisionError") = some false)
    (ekInvalidText : PySem.W.kitOne K (.ref iaInvalidText) (.ref iaBroken) = some false ∧ PySem.W.kitOne K (.ref iaInvalidText) (.ref iaCannotBe) = some false ∧ PySem.W.kitOne K (.ref iaInvalidText) (.ref iaInUse) = some false ∧ PySem.W.kitOne K (.ref iaInvalidText) (.ref iaInvalidClaim) = some false ∧ PySem.W.kitOne K (.ref iaInvalidText) (.ref iaInvalidExchange) = some false ∧ PySem.W.kitOne K (.ref iaInvalidText) (.ref iaInvalidHeap) = some false ∧ PySem.W.kitOne K (.ref iaInvalidText) (.ref iaInvalidName) = some false ∧ PySem.W.kitOne K (.ref iaInvalidText) (.ref iaInvalidNumber) = some false ∧ PySem.W.kitOne K (.ref iaInvalidText) (.ref iaInvalidOrders) = some false ∧ PySem.W.kitOne K (.ref iaInvalidText) (.ref iaInvalidPlace) = some false ∧ PySem.W.kitOne K (.ref iaInvalidText) (.ref iaInvalidPlan) = some false ∧ PySem.W.kitOne K (.ref iaInvalidText) (.ref iaInvalidRows) = some false ∧ PySem.W.kitOne K (.ref iaInvalidText) (.ref iaInvalidText) = some true ∧ PySem.W.kitOne K (.ref iaInvalidText) (.ref iaInvalidThings) = some false ∧ PySem.W.kitOne K (.ref iaInvalidText) (.ref iaNotARow) = some false ∧ PySem.W.kitOne K (.ref iaInvalidText) (.ref iaNotRight) = some true ∧ PySem.W.kitOne K (.ref iaInvalidText) (.ref iaNotThere) = some false ∧ PySem.W.kitOne K (.ref iaInvalidText) (.ref iaNothingToUndo) = some false ∧ PySem.W.kitOne K (.ref iaInvalidText) (.ref iaOtherThings) = some false ∧ PySem.W.kitOne K (.ref iaInvalidText) (.ref iaTooMany) = some false ∧ PySem.W.kitOne K (.ref iaInvalidText) (.ref iaUnknownName) = some false ∧ PySem.W.kitOne K (.ref iaInvalidText) (.type "ArithmeticError") = some false ∧ PySem.W.kitOne K (.ref iaInvalidText) (.type "IndexError") = some false ∧ PySem.W.kitOne K (.ref iaInvalidText) (.type "KeyError") = some false ∧ PySem.W.kitOne K (.ref iaInvalidText) (.type "LookupError") = some false ∧ PySem.W.kitOne K (.ref iaInvalidText) (.type "ValueError") = some true ∧ PySem.W.kitOne K (.ref iaInvalidText) (.type "ZeroDivisionError") = some false)
    (ekInvalidThings : PySem.W.kitOne K (.ref iaInvalidThings) (.ref iaBroken) = some false ∧ PySem.W.kitOne K (.ref iaInvalidThings) (.ref iaCannotBe) = some false ∧ PySem.W.kitOne K (.ref iaInvalidThings) (.ref iaInUse) = some false ∧ PySem.W.kitOne K (.ref iaInvalidThings) (.ref iaInvalidClaim) = some false ∧ PySem.W.kitOne K (.ref iaInvalidThings) (.ref iaInvalidExchange) = some false ∧ PySem.W.kitOne K (.ref iaInvalidThings) (.ref iaInvalidHeap) = some false ∧ PySem.W.kitOne K (.ref iaInvalidThings) (.ref iaInvalidName) = some false ∧ PySem.W.kitOne K (.ref iaInvalidThings) (.ref iaInvalidNumber) = some false ∧ PySem.W.kitOne K (.ref iaInvalidThings) (.ref iaInvalidOrders) = some false ∧ PySem.W.kitOne K (.ref iaInvalidThings) (.ref iaInvalidPlace) = some false ∧ PySem.W.kitOne K (.ref iaInvalidThings) (.ref iaInvalidPlan) = some false ∧ PySem.W.kitOne K (.ref iaInvalidThings) (.ref iaInvalidRows) = some false ∧ PySem.W.kitOne K (.ref iaInvalidThings) (.ref iaInvalidText) = some false ∧ PySem.W.kitOne K (.ref iaInvalidThings) (.ref iaInvalidThings) = some true ∧ PySem.W.kitOne K (.ref iaInvalidThings) (.ref iaNotARow) = some false ∧ PySem.W.kitOne K (.ref iaInvalidThings) (.ref iaNotRight) = some true ∧ PySem.W.kitOne K (.ref iaInvalidThings) (.ref iaNotThere) = some false ∧ PySem.W.kitOne K (.ref iaInvalidThings) (.ref iaNothingToUndo) = some false ∧ PySem.W.kitOne K (.ref iaInvalidThings) (.ref iaOtherThings) = some false ∧ PySem.W.kitOne K (.ref iaInvalidThings) (.ref iaTooMany) = some false ∧ PySem.W.kitOne K (.ref iaInvalidThings) (.ref iaUnknownName) = some false ∧ PySem.W.kitOne K (.ref iaInvalidThings) (.type "ArithmeticError") = some false ∧ PySem.W.kitOne K (.ref iaInvalidThings) (.type "IndexError") = some false ∧ PySem.W.kitOne K (.ref iaInvalidThings) (.type "KeyError") = some false ∧ PySem.W.kitOne K (.ref iaInvalidThings) (.type "LookupError") = some false ∧ PySem.W.kitOne K (.ref iaInvalidThings) (.type "ValueError") = some true ∧ PySem.W.kitOne K (.ref iaInvalidThings) (.type "ZeroDivisionError") = some false)
    (ekNotARow : PySem.W.kitOne K (.ref iaNotARow) (.ref iaBroken) = some false ∧ PySem.W.kitOne K (.ref iaNotARow) (.ref iaCannotBe) = some false ∧ PySem.W.kitOne K (.ref iaNotARow) (.ref iaInUse) = some false ∧ PySem.W.kitOne K (.ref iaNotARow) (.ref iaInvalidClaim) = some false ∧ PySem.W.kitOne K (.ref iaNotARow) (.ref iaInvalidExchange) = some false ∧ PySem.W.kitOne K (.ref iaNotARow) (.ref iaInvalidHeap) = some false ∧ PySem.W.kitOne K (.ref iaNotARow) (.ref iaInvalidName) = some false ∧ PySem.W.kitOne K (.ref iaNotARow) (.ref iaInvalidNumber) = some false ∧ PySem.W.kitOne K (.ref iaNotARow) (.ref iaInvalidOrders) = some false ∧ PySem.W.kitOne K (.ref iaNotARow) (.ref iaInvalidPlace) = some false ∧ PySem.W.kitOne K (.ref iaNotARow) (.ref iaInvalidPlan) = some false ∧ PySem.W.kitOne K (.ref iaNotARow) (.ref iaInvalidRows) = some false ∧ PySem.W.kitOne K (.ref iaNotARow) (.ref iaInvalidText) = some false ∧ PySem.W.kitOne K (.ref iaNotARow) (.ref iaInvalidThings) = some false ∧ PySem.W.kitOne K (.ref iaNotARow) (.ref iaNotARow) = some true ∧ PySem.W.kitOne K (.ref iaNotARow) (.ref iaNotRight) = some true ∧ PySem.W.kitOne K (.ref iaNotARow) (.ref iaNotThere) = some false ∧ PySem.W.kitOne K (.ref iaNotARow) (.ref iaNothingToUndo) = some false ∧ PySem.W.kitOne K (.ref iaNotARow) (.ref iaOtherThings) = some false ∧ PySem.W.kitOne K (.ref iaNotARow) (.ref iaTooMany) = some false ∧ PySem.W.kitOne K (.ref iaNotARow) (.ref iaUnknownName) = some false ∧ PySem.W.kitOne K (.ref iaNotARow) (.type "ArithmeticError") = some false ∧ PySem.W.kitOne K (.ref iaNotARow) (.type "IndexError") = some false ∧ PySem.W.kitOne K (.ref iaNotARow) (.type "KeyError") = some false ∧ PySem.W.kitOne K (.ref iaNotARow) (.type "LookupError") = some false ∧ PySem.W.kitOne K (.ref iaNotARow) (.type "ValueError") = some true ∧ PySem.W.kitOne K (.ref iaNotARow) (.type "ZeroDivisionError") = some false)
    (ekNothingToUndo : PySem.W.kitOne K (.ref iaNothingToUndo) (.ref iaBroken) = some false ∧ PySem.W.kitOne K (.ref iaNothingToUndo) (.ref iaCannotBe) = some true ∧ PySem.W.kitOne K (.ref iaNothingToUndo) (.ref iaInUse) = some false ∧ PySem.W.kitOne K (.ref iaNothingToUndo) (.ref iaInvalidClaim) = some false ∧ PySem.W.kitOne K (.ref iaNothingToUndo) (.ref iaInvalidExchange) = some false ∧ PySem.W.kitOne K (.ref iaNothingToUndo) (.ref iaInvalidHeap) = some false ∧ PySem.W.kitOne K (.ref iaNothingToUndo) (.ref iaInvalidName) = some false ∧ PySem.W.kitOne K (.ref iaNothingToUndo) (.ref iaInvalidNumber) = some false ∧ PySem.W.kitOne K (.ref iaNothingToUndo) (.ref iaInvalidOrders) = some false ∧ PySem.W.kitOne K (.ref iaNothingToUndo) (.ref iaInvalidPlace) = some false ∧ PySem.W.kitOne K (.ref iaNothingToUndo) (.ref iaInvalidPlan) = some false ∧ PySem.W.kitOne K (.ref iaNothingToUndo) (.ref iaInvalidRows) = some false ∧ PySem.W.kitOne K (.ref iaNothingToUndo) (.ref iaInvalidText) = some false ∧ PySem.W.kitOne K (.ref iaNothingToUndo) (.ref iaInvalidThings) = some false ∧ PySem.W.kitOne K (.ref iaNothingToUndo) (.ref iaNotARow) = some false ∧ PySem.W.kitOne K (.ref iaNothingToUndo) (.ref iaNotRight) = some false ∧ PySem.W.kitOne K (.ref iaNothingToUndo) (.ref iaNotThere) = some false ∧ PySem.W.kitOne K (.ref iaNothingToUndo) (.ref iaNothingToUndo) = some true ∧ PySem.W.kitOne K (.ref iaNothingToUndo) (.ref iaOtherThings) = some false ∧ PySem.W.kitOne K (.ref iaNothingToUndo) (.ref iaTooMany) = some false ∧ PySem.W.kitOne K (.ref iaNothingToUndo) (.ref iaUnknownName) = some false ∧ PySem.W.kitOne K (.ref iaNothingToUndo) (.type "ArithmeticError") = some true ∧ PySem.W.kitOne K (.ref iaNothingToUndo) (.type "IndexError") = some false ∧ PySem.W.kitOne K (.ref iaNothingToUndo) (.type "KeyError") = some false ∧ PySem.W.kitOne K (.ref iaNothingToUndo) (.type "LookupError") = some false ∧ PySem.W.kitOne K (.ref iaNothingToUndo) (.type "ValueError") = some false ∧ PySem.W.kitOne K (.ref iaNothingToUndo) (.type "ZeroDivisionError") = some false)
    (ekOtherThings : PySem.W.kitOne K (.ref iaOtherThings) (.ref iaBroken) = some false ∧ PySem.W.kitOne K (.ref iaOtherThings) (.ref iaCannotBe) = some true ∧ PySem.W.kitOne K (.ref iaOtherThings) (.ref iaInUse) = some false ∧ PySem.W.kitOne K (.ref iaOtherThings) (.ref iaInvalidClaim) = some false ∧ PySem.W.kitOne K (.ref iaOtherThings) (.ref iaInvalidExchange) = some false ∧ PySem.W.kitOne K (.ref iaOtherThings) (.ref iaInvalidHeap) = some false ∧ PySem.W.kitOne K (.ref iaOtherThings) (.ref iaInvalidName) = some false ∧ PySem.W.kitOne K (.ref iaOtherThings) (.ref iaInvalidNumber) = some false ∧ PySem.W.kitOne K (.ref iaOtherThings) (.ref iaInvalidOrders) = some false ∧ PySem.W.kitOne K (.ref iaOtherThings) (.ref iaInvalidPlace) = some false ∧ PySem.W.kitOne K (.ref iaOtherThings) (.ref iaInvalidPlan) = some false ∧ PySem.W.kitOne K (.ref iaOtherThings) (.ref iaInvalidRows) = some false ∧ PySem.W.kitOne K (.ref iaOtherThings) (.ref iaInvalidText) = some false ∧ PySem.W.kitOne K (.ref iaOtherThings) (.ref iaInvalidThings) = some false ∧ PySem.W.kitOne K (.ref iaOtherThings) (.ref iaNotARow) = some false ∧ PySem.W.kitOne K (.ref iaOtherThings) (.ref iaNotRight) = some false ∧ PySem.W.kitOne K (.ref iaOtherThings) (.ref iaNotThere) = some false ∧ PySem.W.kitOne K (.ref iaOtherThings) (.ref iaNothingToUndo) = some false ∧ PySem.W.kitOne K (.ref iaOtherThings) (.ref iaOtherThings) = some true ∧ PySem.W.kitOne K (.ref iaOtherThings) (.ref iaTooMany) = some false ∧ PySem.W.kitOne K (.ref iaOtherThings) (.ref iaUnknownName) = some false ∧ PySem.W.kitOne K (.ref iaOtherThings) (.type "ArithmeticError") = some true ∧ PySem.W.kitOne K (.ref iaOtherThings) (.type "IndexError") = some false ∧ PySem.W.kitOne K (.ref iaOtherThings) (.type "KeyError") = some false ∧ PySem.W.kitOne K (.ref iaOtherThings) (.type "LookupError") = some false ∧ PySem.W.kitOne K (.ref iaOtherThings) (.type "ValueError") = some false ∧ PySem.W.kitOne K (.ref iaOtherThings) (.type "ZeroDivisionError") = some false)
    (ekTooMany : PySem.W.kitOne K (.ref iaTooMany) (.ref iaBroken) = some false ∧ PySem.W.kitOne K (.ref iaTooMany) (.ref iaCannotBe) = some true ∧ PySem.W.kitOne K (.ref iaTooMany) (.ref iaInUse) = some false ∧ PySem.W.kitOne K (.ref iaTooMany) (.ref iaInvalidClaim) = some false ∧ PySem.W.kitOne K (.ref iaTooMany) (.ref iaInvalidExchange) = some false ∧ PySem.W.kitOne K (.ref iaTooMany) (.ref iaInvalidHeap) = some false ∧ PySem.W.kitOne K (.ref iaTooMany) (.ref iaInvalidName) = some false ∧ PySem.W.kitOne K (.ref iaTooMany) (.ref iaInvalidNumber) = some false ∧ PySem.W.kitOne K (.ref iaTooMany) (.ref iaInvalidOrders) = some false ∧ PySem.W.kitOne K (.ref iaTooMany) (.ref iaInvalidPlace) = some false ∧ PySem.W.kitOne K (.ref iaTooMany) (.ref iaInvalidPlan) = some false ∧ PySem.W.kitOne K (.ref iaTooMany) (.ref iaInvalidRows) = some false ∧ PySem.W.kitOne K (.ref iaTooMany) (.ref iaInvalidText) = some false ∧ PySem.W.kitOne K (.ref iaTooMany) (.ref iaInvalidThings) = some false ∧ PySem.W.kitOne K (.ref iaTooMany) (.ref iaNotARow) = some false ∧ PySem.W.kitOne K (.ref iaTooMany) (.ref iaNotRight) = some false ∧ PySem.W.kitOne K (.ref iaTooMany) (.ref iaNotThere) = some false ∧ PySem.W.kitOne K (.ref iaTooMany) (.ref iaNothingToUndo) = some false ∧ PySem.W.kitOne K (.ref iaTooMany) (.ref iaOtherThings) = some false ∧ PySem.W.kitOne K (.ref iaTooMany) (.ref iaTooMany) = some true ∧ PySem.W.kitOne K (.ref iaTooMany) (.ref iaUnknownName) = some false ∧ PySem.W.kitOne K (.ref iaTooMany) (.type "ArithmeticError") = some true ∧ PySem.W.kitOne K (.ref iaTooMany) (.type "IndexError") = some false ∧ PySem.W.kitOne K (.ref iaTooMany) (.type "KeyError") = some false ∧ PySem.W.kitOne K (.ref iaTooMany) (.type "LookupError") = some false ∧ PySem.W.kitOne K (.ref iaTooMany) (.type "ValueError") = some false ∧ PySem.W.kitOne K (.ref iaTooMany) (.type "ZeroDivisionError") = some false)
    (ekUnknownName : PySem.W.kitOne K (.ref iaUnknownName) (.ref iaBroken) = some false ∧ PySem.W.kitOne K (.ref iaUnknownName) (.ref iaCannotBe) = some false ∧ PySem.W.kitOne K (.ref iaUnknownName) (.ref iaInUse) = some false ∧ PySem.W.kitOne K (.ref iaUnknownName) (.ref iaInvalidClaim) = some false ∧ PySem.W.kitOne K (.ref iaUnknownName) (.ref iaInvalidExchange) = some false ∧ PySem.W.kitOne K (.ref iaUnknownName) (.ref iaInvalidHeap) = some false ∧ PySem.W.kitOne K (.ref iaUnknownName) (.ref iaInvalidName) = some false ∧ PySem.W.kitOne K (.ref iaUnknownName) (.ref iaInvalidNumber) = some false ∧ PySem.W.kitOne K (.ref iaUnknownName) (.ref iaInvalidOrders) = some false ∧ PySem.W.kitOne K (.ref iaUnknownName) (.ref iaInvalidPlace) = some false ∧ PySem.W.kitOne K (.ref iaUnknownName) (.ref iaInvalidPlan) = some false ∧ PySem.W.kitOne K (.ref iaUnknownName) (.ref iaInvalidRows) = some false ∧ PySem.W.kitOne K (.ref iaUnknownName) (.ref iaInvalidText) = some false ∧ PySem.W.kitOne K (.ref iaUnknownName) (.ref iaInvalidThings) = some false ∧ PySem.W.kitOne K (.ref iaUnknownName) (.ref iaNotARow) = some false ∧ PySem.W.kitOne K (.ref iaUnknownName) (.ref iaNotRight) = some false ∧ PySem.W.kitOne K (.ref iaUnknownName) (.ref iaNotThere) = some true ∧ PySem.W.kitOne K (.ref iaUnknownName) (.ref iaNothingToUndo) = some false ∧ PySem.W.kitOne K (.ref iaUnknownName) (.ref iaOtherThings) = some false ∧ PySem.W.kitOne K (.ref iaUnknownName) (.ref iaTooMany) = some false ∧ PySem.W.kitOne K (.ref iaUnknownName) (.ref iaUnknownName) = some true ∧ PySem.W.kitOne K (.ref iaUnknownName) (.type "ArithmeticError") = some false ∧ PySem.W.kitOne K (.ref iaUnknownName) (.type "IndexError") = some false ∧ PySem.W.kitOne K (.ref iaUnknownName) (.type "KeyError") = some false ∧ PySem.W.kitOne K (.ref iaUnknownName) (.type "LookupError") = some true ∧ PySem.W.kitOne K (.ref iaUnknownName) (.type "ValueError") = some false ∧ PySem.W.kitOne K (.ref iaUnknownName) (.type "ZeroDivisionError") = some false)
    {hgCannotBe : Addr} (hhCannotBe : PySem.W.nsIn K mainGlobals "CannotBe" = some (some (.ref hgCannotBe)))
    {hgNotRight : Addr} (hhNotRight : PySem.W.nsIn K mainGlobals "NotRight" = some (some (.ref hgNotRight)))
    {hgNotThere : Addr} (hhNotThere : PySem.W.nsIn K mainGlobals "NotThere" = some (some (.ref hgNotThere)))
    (xBroken : ∀ base, Xk2 ⟨PySem.Challenge.pw_twostretches_k01_limits_and_errors, w, K, mg, base⟩ "Broken" "index" "shown" "index" "shown")
    (xInUse : ∀ base, Xk1 ⟨PySem.Challenge.pw_twostretches_k01_limits_and_errors, w, K, mg, base⟩ "InUse" "index" "index")
    (xInvalidClaim : ∀ base, Xk1 ⟨PySem.Challenge.pw_twostretches_k01_limits_and_errors, w, K, mg, base⟩ "InvalidClaim" "given" "given")
    (xInvalidExchange : ∀ base, Xk1 ⟨PySem.Challenge.pw_twostretches_k01_limits_and_errors, w, K, mg, base⟩ "InvalidExchange" "given" "given")
    (xInvalidHeap : ∀ base, Xk1 ⟨PySem.Challenge.pw_twostretches_k01_limits_and_errors, w, K, mg, base⟩ "InvalidHeap" "index" "index")
    (xInvalidName : ∀ base, Xk1 ⟨PySem.Challenge.pw_twostretches_k01_limits_and_errors, w, K, mg, base⟩ "InvalidName" "given" "given")
    (xInvalidNumber : ∀ base, Xk1 ⟨PySem.Challenge.pw_twostretches_k01_limits_and_errors, w, K, mg, base⟩ "InvalidNumber" "given" "given")
    (xInvalidOrders : ∀ base, Xk1 ⟨PySem.Challenge.pw_twostretches_k01_limits_and_errors, w, K, mg, base⟩ "InvalidOrders" "index" "index")
    (xInvalidPlace : ∀ base, Xk1 ⟨PySem.Challenge.pw_twostretches_k01_limits_and_errors, w, K, mg, base⟩ "InvalidPlace" "given" "given")
    (xInvalidPlan : ∀ base, Xk1 ⟨PySem.Challenge.pw_twostretches_k01_limits_and_errors, w, K, mg, base⟩ "InvalidPlan" "index" "index")
    (xInvalidRows : ∀ base, Xk1 ⟨PySem.Challenge.pw_twostretches_k01_limits_and_errors, w, K, mg, base⟩ "InvalidRows" "index" "index")
    (xInvalidText : ∀ base, Xk1 ⟨PySem.Challenge.pw_twostretches_k01_limits_and_errors, w, K, mg, base⟩ "InvalidText" "given" "given")
    (xInvalidThings : ∀ base, Xk1 ⟨PySem.Challenge.pw_twostretches_k01_limits_and_errors, w, K, mg, base⟩ "InvalidThings" "index" "index")
    (xNotARow : ∀ base, Xk1 ⟨PySem.Challenge.pw_twostretches_k01_limits_and_errors, w, K, mg, base⟩ "NotARow" "given" "given")
    (xNothingToUndo : ∀ base, Xc0 ⟨PySem.Challenge.pw_twostretches_k01_limits_and_errors, w, K, mg, base⟩ "NothingToUndo")
    (xOtherThings : ∀ base, Xc0 ⟨PySem.Challenge.pw_twostretches_k01_limits_and_errors, w, K, mg, base⟩ "OtherThings")
    (xTooMany : ∀ base, Xk1 ⟨PySem.Challenge.pw_twostretches_k01_limits_and_errors, w, K, mg, base⟩ "TooMany" "most" "most")
    (xUnknownName : ∀ base, Xk1 ⟨PySem.Challenge.pw_twostretches_k01_limits_and_errors, w, K, mg, base⟩ "UnknownName" "given" "given")
    : ∃ fd : FuncData, (∀ (s : Shared) (v : Value), BindsTo s fd ⟨[v], []⟩ [("_law_cells", v)]) ∧ ∀ base : Heap, K.In base → base.Ns mainGlobals mg → FnG PySem.Challenge.pw_twostretches_k01_limits_and_errors w K mg base (L2N.CX PySem.Challenge.pw_twostretches_k01_limits_and_errors w) 3 fa fd ["_law_cells"] (@lift (mkW w) mkF K 1 sp_law) := by
  letI : Wd := mkW w
  letI : Fb := mkF
  have e := hfa.symm.trans (PySem.W.mg_of X G a7)
  cases e
  have F0 := fun_mk (st := s_law_given) l0 c0 k0
  have b0 := F0.binds (ps := ["_law_thing"]) fun _ _ _ _ _ _ us hl => match us, hl with | [_], _ => rfl
  have F1 := fun_mk (st := s_law_sorts) l1 c1 k1
  have b1 := F1.binds (ps := ["_law_e"]) fun _ _ _ _ _ _ us hl => match us, hl with | [_], _ => rfl
  have F2 := fun_mk (st := s_law_bases) l2 c2 k2
  have b2 := F2.binds (ps := ["_law_e"]) fun _ _ _ _ _ _ us hl => match us, hl with | [_], _ => rfl
  have F3 := fun_mk (st := s_law_due) l3 c3 k3
  have b3 := F3.binds (ps := ["_law_k"]) fun _ _ _ _ _ _ us hl => match us, hl with | [_], _ => rfl
  have F4 := fun_mk (st := s_law_kept_right) l4 c4 k4
  have b4 := F4.binds (ps := ["_law_found", "_law_thing"]) fun _ _ _ _ _ _ us hl => match us, hl with | [_, _], _ => rfl
  have F5 := fun_mk (st := s_law_raised_right) l5 c5 k5
  have b5 := F5.binds (ps := ["_law_thing"]) fun _ _ _ _ _ _ us hl => match us, hl with | [_], _ => rfl
  have F6 := fun_mk (st := s_law_right) l6 c6 k6
  have b6 := F6.binds (ps := ["_law_thing"]) fun _ _ _ _ _ _ us hl => match us, hl with | [_], _ => rfl
  have F7 := fun_mk (st := s_law) l7 c7 k7
  have b7 := F7.binds (ps := ["_law_cells"]) fun _ _ _ _ _ _ us hl => match us, hl with | [_], _ => rfl
  have T : ∀ base : Heap, Txt ⟨PySem.Challenge.pw_twostretches_k01_limits_and_errors, w, K, mg, base⟩ := fun base => {
    t_law_given := ⟨_, _, F0, PySem.W.mg_of X G a0, b0⟩
    t_law_sorts := ⟨_, _, F1, PySem.W.mg_of X G a1, b1⟩
    t_law_bases := ⟨_, _, F2, PySem.W.mg_of X G a2, b2⟩
    t_law_due := ⟨_, _, F3, PySem.W.mg_of X G a3, b3⟩
    t_law_kept_right := ⟨_, _, F4, PySem.W.mg_of X G a4, b4⟩
    t_law_raised_right := ⟨_, _, F5, PySem.W.mg_of X G a5, b5⟩
    t_law_right := ⟨_, _, F6, PySem.W.mg_of X G a6, b6⟩
    t_law := ⟨_, _, F7, PySem.W.mg_of X G a7, b7⟩
    z_ArithmeticError := PySem.W.mg_none_of X G zArithmeticError
    z_IndexError := PySem.W.mg_none_of X G zIndexError
    z_KeyError := PySem.W.mg_none_of X G zKeyError
    z_LookupError := PySem.W.mg_none_of X G zLookupError
    z_ValueError := PySem.W.mg_none_of X G zValueError
    z_ZeroDivisionError := PySem.W.mg_none_of X G zZeroDivisionError
    z_int := PySem.W.mg_none_of X G zint
    z_isinstance := PySem.W.mg_none_of X G zisinstance
    z_len := PySem.W.mg_none_of X G zlen
    z_range := PySem.W.mg_none_of X G zrange
    z_repr := PySem.W.mg_none_of X G zrepr
    ek := exK_of ekH
    xk := xfK_of xkH
    ei := eiK_of (List.forall_mem_append.mpr ⟨(ei_row ibBroken erBroken eqA eqB (L := eisRBroken) (.cons (clsV_of ibBroken) ekBroken.1 (.cons (clsV_of ibCannotBe) ekBroken.2.1 (.cons (clsV_of ibInUse) ekBroken.2.2.1 (.cons (clsV_of ibInvalidClaim) ekBroken.2.2.2.1 (.cons (clsV_of ibInvalidExchange) ekBroken.2.2.2.2.1 (.cons (clsV_of ibInvalidHeap) ekBroken.2.2.2.2.2.1 (.cons (clsV_of ibInvalidName) ekBroken.2.2.2.2.2.2.1 (.cons (clsV_of ibInvalidNumber) ekBroken.2.2.2.2.2.2.2.1 (.cons (clsV_of ibInvalidOrders) ekBroken.2.2.2.2.2.2.2.2.1 (.cons (clsV_of ibInvalidPlace) ekBroken.2.2.2.2.2.2.2.2.2.1 (.cons (clsV_of ibInvalidPlan) ekBroken.2.2.2.2.2.2.2.2.2.2.1 (.cons (clsV_of ibInvalidRows) ekBroken.2.2.2.2.2.2.2.2.2.2.2.1 (.cons (clsV_of ibInvalidText) ekBroken.2.2.2.2.2.2.2.2.2.2.2.2.1 (.cons (clsV_of ibInvalidThings) ekBroken.2.2.2.2.2.2.2.2.2.2.2.2.2.1 (.cons (clsV_of ibNotARow) ekBroken.2.2.2.2.2.2.2.2.2.2.2.2.2.2.1 (.cons (clsV_of ibNotRight) ekBroken.2.2.2.2.2.2.2.2.2.2.2.2.2.2.2.1 (.cons (clsV_of ibNotThere) ekBroken.2.2.2.2.2.2.2.2.2.2.2.2.2.2.2.2.1 (.cons (clsV_of ibNothingToUndo) ekBroken.2.2.2.2.2.2.2.2.2.2.2.2.2.2.2.2.2.1 (.cons (clsV_of ibOtherThings) ekBroken.2.2.2.2.2.2.2.2.2.2.2.2.2.2.2.2.2.2.1 (.cons (clsV_of ibTooMany) ekBroken.2.2.2.2.2.2.2.2.2.2.2.2.2.2.2.2.2.2.2.1 (.cons (clsV_of ibUnknownName) ekBroken.2.2.2.2.2.2.2.2.2.2.2.2.2.2.2.2.2.2.2.2.1 (.cons (clsV_ty "ArithmeticError" zArithmeticError rfl) ekBroken.2.2.2.2.2.2.2.2.2.2.2.2.2.2.2.2.2.2.2.2.2.1 (.cons (clsV_ty "IndexError" zIndexError rfl) ekBroken.2.2.2.2.2.2.2.2.2.2.2.2.2.2.2.2.2.2.2.2.2.2.1 (.cons (clsV_ty "KeyError" zKeyError rfl) ekBroken.2.2.2.2.2.2.2.2.2.2.2.2.2.2.2.2.2.2.2.2.2.2.2.1 (.cons (clsV_ty "LookupError" zLookupError rfl) ekBroken.2.2.2.2.2.2.2.2.2.2.2.2.2.2.2.2.2.2.2.2.2.2.2.2.1 (.cons (clsV_ty "ValueError" zValueError rfl) ekBroken.2.2.2.2.2.2.2.2.2.2.2.2.2.2.2.2.2.2.2.2.2.2.2.2.2.1 (.cons (clsV_ty "ZeroDivisionError" zZeroDivisionError rfl) ekBroken.2.2.2.2.2.2.2.2.2.2.2.2.2.2.2.2.2.2.2.2.2.2.2.2.2.2 .nil)))))))))))))))))))))))))))), (List.forall_mem_append.mpr ⟨(ei_row ibInUse erInUse eqA eqB (L := eisRInUse) (.cons (clsV_of ibBroken) ekInUse.1 (.cons (clsV_of ibCannotBe) ekInUse.2.1 (.cons (clsV_of ibInUse) ekInUse.2.2.1 (.cons (clsV_of ibInvalidClaim) ekInUse.2.2.2.1 (.cons (clsV_of ibInvalidExchange) ekInUse.2.2.2.2.1 (.cons (clsV_of ibInvalidHeap) ekInUse.2.2.2.2.2.1 (.cons (clsV_of ibInvalidName) ekInUse.2.2.2.2.2.2.1 (.cons (clsV_of ibInvalidNumber) ekInUse.2.2.2.2.2.2.2.1 (.cons (clsV_of ibInvalidOrders) ekInUse.2.2.2.2.2.2.2.2.1 (.cons (clsV_of ibInvalidPlace) ekInUse.2.2.2.2.2.2.2.2.2.1 (.cons (clsV_of ibInvalidPlan) ekInUse.2.2.2.2.2.2.2.2.2.2.1 (.cons (clsV_of ibInvalidRows) ekInUse.2.2.2.2.2.2.2.2.2.2.2.1 (.cons (clsV_of ibInvalidText) ekInUse.2.2.2.2.2.2.2.2.2.2.2.2.1 (.cons (clsV_of ibInvalidThings) ekInUse.2.2.2.2.2.2.2.2.2.2.2.2.2.1 (.cons (clsV_of ibNotARow) ekInUse.2.2.2.2.2.2.2.2.2.2.2.2.2.2.1 (.cons (clsV_of ibNotRight) ekInUse.2.2.2.2.2.2.2.2.2.2.2.2.2.2.2.1 (.cons (clsV_of ibNotThere) ekInUse.2.2.2.2.2.2.2.2.2.2.2.2.2.2.2.2.1 (.cons (clsV_of ibNothingToUndo) ekInUse.2.2.2.2.2.2.2.2.2.2.2.2.2.2.2.2.2.1 (.cons (clsV_of ibOtherThings) ekInUse.2.2.2.2.2.2.2.2.2.2.2.2.2.2.2.2.2.2.1 (.cons (clsV_of ibTooMany) ekInUse.2.2.2.2.2.2.2.2.2.2.2.2.2.2.2.2.2.2.2.1 (.cons (clsV_of ibUnknownName) ekInUse.2.2.2.2.2.2.2.2.2.2.2.2.2.2.2.2.2.2.2.2.1 (.cons (clsV_ty "ArithmeticError" zArithmeticError rfl) ekInUse.2.2.2.2.2.2.2.2.2.2.2.2.2.2.2.2.2.2.2.2.2.1 (.cons (clsV_ty "IndexError" zIndexError rfl) ekInUse.2.2.2.2.2.2.2.2.2.2.2.2.2.2.2.2.2.2.2.2.2.2.1 (.cons (clsV_ty "KeyError" zKeyError rfl) ekInUse.2.2.2.2.2.2.2.2.2.2.2.2.2.2.2.2.2.2.2.2.2.2.2.1 (.cons (clsV_ty "LookupError" zLookupError rfl) ekInUse.2.2.2.2.2.2.2.2.2.2.2.2.2.2.2.2.2.2.2.2.2.2.2.2.1 (.cons (clsV_ty "ValueError" zValueError rfl) ekInUse.2.2.2.2.2.2.2.2.2.2.2.2.2.2.2.2.2.2.2.2.2.2.2.2.2.1 (.cons (clsV_ty "ZeroDivisionError" zZeroDivisionError rfl) ekInUse.2.2.2.2.2.2.2.2.2.2.2.2.2.2.2.2.2.2.2.2.2.2.2.2.2.2 .nil)))))))))))))))))))))))))))), (List.forall_mem_append.mpr ⟨(ei_row ibInvalidClaim erInvalidClaim eqA eqB (L := eisRInvalidClaim) (.cons (clsV_of ibBroken) ekInvalidClaim.1 (.cons (clsV_of ibCannotBe) ekInvalidClaim.2.1 (.cons (clsV_of ibInUse) ekInvalidClaim.2.2.1 (.cons (clsV_of ibInvalidClaim) ekInvalidClaim.2.2.2.1 (.cons (clsV_of ibInvalidExchange) ekInvalidClaim.2.2.2.2.1 (.cons (clsV_of ibInvalidHeap) ekInvalidClaim.2.2.2.2.2.1 (.cons (clsV_of ibInvalidName) ekInvalidClaim.2.2.2.2.2.2.1 (.cons (clsV_of ibInvalidNumber) ekInvalidClaim.2.2.2.2.2.2.2.1 (.cons (clsV_of ibInvalidOrders) ekInvalidClaim.2.2.2.2.2.2.2.2.1 (.cons (clsV_of ibInvalidPlace) ekInvalidClaim.2.2.2.2.2.2.2.2.2.1 (.cons (clsV_of ibInvalidPlan) ekInvalidClaim.2.2.2.2.2.2.2.2.2.2.1 (.cons (clsV_of ibInvalidRows) ekInvalidClaim.2.2.2.2.2.2.2.2.2.2.2.1 (.cons (clsV_of ibInvalidText) ekInvalidClaim.2.2.2.2.2.2.2.2.2.2.2.2.1 (.cons (clsV_of ibInvalidThings) ekInvalidClaim.2.2.2.2.2.2.2.2.2.2.2.2.2.1 (.cons (clsV_of ibNotARow) ekInvalidClaim.2.2.2.2.2.2.2.2.2.2.2.2.2.2.1 (.cons (clsV_of ibNotRight) ekInvalidClaim.2.2.2.2.2.2.2.2.2.2.2.2.2.2.2.1 (.cons (clsV_of ibNotThere) ekInvalidClaim.2.2.2.2.2.2.2.2.2.2.2.2.2.2.2.2.1 (.cons (clsV_of ibNothingToUndo) ekInvalidClaim.2.2.2.2.2.2.2.2.2.2.2.2.2.2.2.2.2.1 (.cons (clsV_of ibOtherThings) ekInvalidClaim.2.2.2.2.2.2.2.2.2.2.2.2.2.2.2.2.2.2.1 (.cons (clsV_of ibTooMany) ekInvalidClaim.2.2.2.2.2.2.2.2.2.2.2.2.2.2.2.2.2.2.2.1 (.cons (clsV_of ibUnknownName) ekInvalidClaim.2.2.2.2.2.2.2.2.2.2.2.2.2.2.2.2.2.2.2.2.1 (.cons (clsV_ty "ArithmeticError" zArithmeticError rfl) ekInvalidClaim.2.2.2.2.2.2.2.2.2.2.2.2.2.2.2.2.2.2.2.2.2.1 (.cons (clsV_ty "IndexError" zIndexError rfl) ekInvalidClaim.2.2.2.2.2.2.2.2.2.2.2.2.2.2.2.2.2.2.2.2.2.2.1 (.cons (clsV_ty "KeyError" zKeyError rfl) ekInvalidClaim.2.2.2.2.2.2.2.2.2.2.2.2.2.2.2.2.2.2.2.2.2.2.2.1 (.cons (clsV_ty "LookupError" zLookupError rfl) ekInvalidClaim.2.2.2.2.2.2.2.2.2.2.2.2.2.2.2.2.2.2.2.2.2.2.2.2.1 (.cons (clsV_ty "ValueError" zValueError rfl) ekInvalidClaim.2.2.2.2.2.2.2.2.2.2.2.2.2.2.2.2.2.2.2.2.2.2.2.2.2.1 (.cons (clsV_ty "ZeroDivisionError" zZeroDivisionError rfl) ekInvalidClaim.2.2.2.2.2.2.2.2.2.2.2.2.2.2.2.2.2.2.2.2.2.2.2.2.2.2 .nil)))))))))))))))))))))))))))), (List.forall_mem_append.mpr ⟨(ei_row ibInvalidExchange erInvalidExchange eqA eqB (L := eisRInvalidExchange) (.cons (clsV_of ibBroken) ekInvalidExchange.1 (.cons (clsV_of ibCannotBe) ekInvalidExchange.2.1 (.cons (clsV_of ibInUse) ekInvalidExchange.2.2.1 (.cons (clsV_of ibInvalidClaim) ekInvalidExchange.2.2.2.1 (.cons (clsV_of ibInvalidExchange) ekInvalidExchange.2.2.2.2.1 (.cons (clsV_of ibInvalidHeap) ekInvalidExchange.2.2.2.2.2.1 (.cons (clsV_of ibInvalidName) ekInvalidExchange.2.2.2.2.2.2.1 (.cons (clsV_of ibInvalidNumber) ekInvalidExchange.2.2.2.2.2.2.2.1 (.cons (clsV_of ibInvalidOrders) ekInvalidExchange.2.2.2.2.2.2.2.2.1 (.cons (clsV_of ibInvalidPlace) ekInvalidExchange.2.2.2.2.2.2.2.2.2.1 (.cons (clsV_of ibInvalidPlan) ekInvalidExchange.2.2.2.2.2.2.2.2.2.2.1 (.cons (clsV_of ibInvalidRows) ekInvalidExchange.2.2.2.2.2.2.2.2.2.2.2.1 (.cons (clsV_of ibInvalidText) ekInvalidExchange.2.2.2.2.2.2.2.2.2.2.2.2.1 (.cons (clsV_of ibInvalidThings) ekInvalidExchange.2.2.2.2.2.2.2.2.2.2.2.2.2.1 (.cons (clsV_of ibNotARow) ekInvalidExchange.2.2.2.2.2.2.2.2.2.2.2.2.2.2.1 (.cons (clsV_of ibNotRight) ekInvalidExchange.2.2.2.2.2.2.2.2.2.2.2.2.2.2.2.1 (.cons (clsV_of ibNotThere) ekInvalidExchange.2.2.2.2.2.2.2.2.2.2.2.2.2.2.2.2.1 (.cons (clsV_of ibNothingToUndo) ekInvalidExchange.2.2.2.2.2.2.2.2.2.2.2.2.2.2.2.2.2.1 (.cons (clsV_of ibOtherThings) ekInvalidExchange.2.2.2.2.2.2.2.2.2.2.2.2.2.2.2.2.2.2.1 (.cons (clsV_of ibTooMany) ekInvalidExchange.2.2.2.2.2.2.2.2.2.2.2.2.2.2.2.2.2.2.2.1 (.cons (clsV_of ibUnknownName) ekInvalidExchange.2.2.2.2.2.2.2.2.2.2.2.2.2.2.2.2.2.2.2.2.1 (.cons (clsV_ty "ArithmeticError" zArithmeticError rfl) ekInvalidExchange.2.2.2.2.2.2.2.2.2.2.2.2.2.2.2.2.2.2.2.2.2.1 (.cons (clsV_ty "IndexError" zIndexError rfl) ekInvalidExchange.2.2.2.2.2.2.2.2.2.2.2.2.2.2.2.2.2.2.2.2.2.2.1 (.cons (clsV_ty "KeyError" zKeyError rfl) ekInvalidExchange.2.2.2.2.2.2.2.2.2.2.2.2.2.2.2.2.2.2.2.2.2.2.2.1 (.cons (clsV_ty "LookupError" zLookupError rfl) ekInvalidExchange.2.2.2.2.2.2.2.2.2.2.2.2.2.2.2.2.2.2.2.2.2.2.2.2.1 (.cons (clsV_ty "ValueError" zValueError rfl) ekInvalidExchange.2.2.2.2.2.2.2.2.2.2.2.2.2.2.2.2.2.2.2.2.2.2.2.2.2.1 (.cons (clsV_ty "ZeroDivisionError" zZeroDivisionError rfl) ekInvalidExchange.2.2.2.2.2.2.2.2.2.2.2.2.2.2.2.2.2.2.2.2.2.2.2.2.2.2 .nil)))))))))))))))))))))))))))), (List.forall_mem_append.mpr ⟨(ei_row ibInvalidHeap erInvalidHeap eqA eqB (L := eisRInvalidHeap) (.cons (clsV_of ibBroken) ekInvalidHeap.1 (.cons (clsV_of ibCannotBe) ekInvalidHeap.2.1 (.cons (clsV_of ibInUse) ekInvalidHeap.2.2.1 (.cons (clsV_of ibInvalidClaim) ekInvalidHeap.2.2.2.1 (.cons (clsV_of ibInvalidExchange) ekInvalidHeap.2.2.2.2.1 (.cons (clsV_of ibInvalidHeap) ekInvalidHeap.2.2.2.2.2.1 (.cons (clsV_of ibInvalidName) ekInvalidHeap.2.2.2.2.2.2.1 (.cons (clsV_of ibInvalidNumber) ekInvalidHeap.2.2.2.2.2.2.2.1 (.cons (clsV_of ibInvalidOrders) ekInvalidHeap.2.2.2.2.2.2.2.2.1 (.cons (clsV_of ibInvalidPlace) ekInvalidHeap.2.2.2.2.2.2.2.2.2.1 (.cons (clsV_of ibInvalidPlan) ekInvalidHeap.2.2.2.2.2.2.2.2.2.2.1 (.cons (clsV_of ibInvalidRows) ekInvalidHeap.2.2.2.2.2.2.2.2.2.2.2.1 (.cons (clsV_of ibInvalidText) ekInvalidHeap.2.2.2.2.2.2.2.2.2.2.2.2.1 (.cons (clsV_of ibInvalidThings) ekInvalidHeap.2.2.2.2.2.2.2.2.2.2.2.2.2.1 (.cons (clsV_of ibNotARow) ekInvalidHeap.2.2.2.2.2.2.2.2.2.2.2.2.2.2.1 (.cons (clsV_of ibNotRight) ekInvalidHeap.2.2.2.2.2.2.2.2.2.2.2.2.2.2.2.1 (.cons (clsV_of ibNotThere) ekInvalidHeap.2.2.2.2.2.2.2.2.2.2.2.2.2.2.2.2.1 (.cons (clsV_of ibNothingToUndo) ekInvalidHeap.2.2.2.2.2.2.2.2.2.2.2.2.2.2.2.2.2.1 (.cons (clsV_of ibOtherThings) ekInvalidHeap.2.2.2.2.2.2.2.2.2.2.2.2.2.2.2.2.2.2.1 (.cons (clsV_of ibTooMany) ekInvalidHeap.2.2.2.2.2.2.2.2.2.2.2.2.2.2.2.2.2.2.2.1 (.cons (clsV_of ibUnknownName) ekInvalidHeap.2.2.2.2.2.2.2.2.2.2.2.2.2.2.2.2.2.2.2.2.1 (.cons (clsV_ty "ArithmeticError" zArithmeticError rfl) ekInvalidHeap.2.2.2.2.2.2.2.2.2.2.2.2.2.2.2.2.2.2.2.2.2.1 (.cons (clsV_ty "IndexError" zIndexError rfl) ekInvalidHeap.2.2.2.2.2.2.2.2.2.2.2.2.2.2.2.2.2.2.2.2.2.2.1 (.cons (clsV_ty "KeyError" zKeyError rfl) ekInvalidHeap.2.2.2.2.2.2.2.2.2.2.2.2.2.2.2.2.2.2.2.2.2.2.2.1 (.cons (clsV_ty "LookupError" zLookupError rfl) ekInvalidHeap.2.2.2.2.2.2.2.2.2.2.2.2.2.2.2.2.2.2.2.2.2.2.2.2.1 (.cons (clsV_ty "ValueError" zValueError rfl) ekInvalidHeap.2.2.2.2.2.2.2.2.2.2.2.2.2.2.2.2.2.2.2.2.2.2.2.2.2.1 (.cons (clsV_ty "ZeroDivisionError" zZeroDivisionError rfl) ekInvalidHeap.2.2.2.2.2.2.2.2.2.2.2.2.2.2.2.2.2.2.2.2.2.2.2.2.2.2 .nil)))))))))))))))))))))))))))), (List.forall_mem_append.mpr ⟨(ei_row ibInvalidName erInvalidName eqA eqB (L := eisRInvalidName) (.cons (clsV_of ibBroken) ekInvalidName.1 (.cons (clsV_of ibCannotBe) ekInvalidName.2.1 (.cons (clsV_of ibInUse) ekInvalidName.2.2.1 (.cons (clsV_of ibInvalidClaim) ekInvalidName.2.2.2.1 (.cons (clsV_of ibInvalidExchange) ekInvalidName.2.2.2.2.1 (.cons (clsV_of ibInvalidHeap) ekInvalidName.2.2.2.2.2.1 (.cons (clsV_of ibInvalidName) ekInvalidName.2.2.2.2.2.2.1 (.cons (clsV_of ibInvalidNumber) ekInvalidName.2.2.2.2.2.2.2.1 (.cons (clsV_of ibInvalidOrders) ekInvalidName.2.2.2.2.2.2.2.2.1 (.cons (clsV_of ibInvalidPlace) ekInvalidName.2.2.2.2.2.2.2.2.2.1 (.cons (clsV_of ibInvalidPlan) ekInvalidName.2.2.2.2.2.2.2.2.2.2.1 (.cons (clsV_of ibInvalidRows) ekInvalidName.2.2.2.2.2.2.2.2.2.2.2.1 (.cons (clsV_of ibInvalidText) ekInvalidName.2.2.2.2.2.2.2.2.2.2.2.2.1 (.cons (clsV_of ibInvalidThings) ekInvalidName.2.2.2.2.2.2.2.2.2.2.2.2.2.1 (.cons (clsV_of ibNotARow) ekInvalidName.2.2.2.2.2.2.2.2.2.2.2.2.2.2.1 (.cons (clsV_of ibNotRight) ekInvalidName.2.2.2.2.2.2.2.2.2.2.2.2.2.2.2.1 (.cons (clsV_of ibNotThere) ekInvalidName.2.2.2.2.2.2.2.2.2.2.2.2.2.2.2.2.1 (.cons (clsV_of ibNothingToUndo) ekInvalidName.2.2.2.2.2.2.2.2.2.2.2.2.2.2.2.2.2.1 (.cons (clsV_of ibOtherThings) ekInvalidName.2.2.2.2.2.2.2.2.2.2.2.2.2.2.2.2.2.2.1 (.cons (clsV_of ibTooMany) ekInvalidName.2.2.2.2.2.2.2.2.2.2.2.2.2.2.2.2.2.2.2.1 (.cons (clsV_of ibUnknownName) ekInvalidName.2.2.2.2.2.2.2.2.2.2.2.2.2.2.2.2.2.2.2.2.1 (.cons (clsV_ty "ArithmeticError" zArithmeticError rfl) ekInvalidName.2.2.2.2.2.2.2.2.2.2.2.2.2.2.2.2.2.2.2.2.2.1 (.cons (clsV_ty "IndexError" zIndexError rfl) ekInvalidName.2.2.2.2.2.2.2.2.2.2.2.2.2.2.2.2.2.2.2.2.2.2.1 (.cons (clsV_ty "KeyError" zKeyError rfl) ekInvalidName.2.2.2.2.2.2.2.2.2.2.2.2.2.2.2.2.2.2.2.2.2.2.2.1 (.cons (clsV_ty "LookupError" zLookupError rfl) ekInvalidName.2.2.2.2.2.2.2.2.2.2.2.2.2.2.2.2.2.2.2.2.2.2.2.2.1 (.cons (clsV_ty "ValueError" zValueError rfl) ekInvalidName.2.2.2.2.2.2.2.2.2.2.2.2.2.2.2.2.2.2.2.2.2.2.2.2.2.1 (.cons (clsV_ty "ZeroDivisionError" zZeroDivisionError rfl) ekInvalidName.2.2.2.2.2.2.2.2.2.2.2.2.2.2.2.2.2.2.2.2.2.2.2.2.2.2 .nil)))))))))))))))))))))))))))), (List.forall_mem_append.mpr ⟨(ei_row ibInvalidNumber erInvalidNumber eqA eqB (L := eisRInvalidNumber) (.cons (clsV_of ibBroken) ekInvalidNumber.1 (.cons (clsV_of ibCannotBe) ekInvalidNumber.2.1 (.cons (clsV_of ibInUse) ekInvalidNumber.2.2.1 (.cons (clsV_of ibInvalidClaim) ekInvalidNumber.2.2.2.1 (.cons (clsV_of ibInvalidExchange) ekInvalidNumber.2.2.2.2.1 (.cons (clsV_of ibInvalidHeap) ekInvalidNumber.2.2.2.2.2.1 (.cons (clsV_of ibInvalidName) ekInvalidNumber.2.2.2.2.2.2.1 (.cons (clsV_of ibInvalidNumber) ekInvalidNumber.2.2.2.2.2.2.2.1 (.cons (clsV_of ibInvalidOrders) ekInvalidNumber.2.2.2.2.2.2.2.2.1 (.cons (clsV_of ibInvalidPlace) ekInvalidNumber.2.2.2.2.2.2.2.2.2.1 (.cons (clsV_of ibInvalidPlan) ekInvalidNumber.2.2.2.2.2.2.2.2.2.2.1 (.cons (clsV_of ibInvalidRows) ekInvalidNumber.2.2.2.2.2.2.2.2.2.2.2.1 (.cons (clsV_of ibInvalidText) ekInvalidNumber.2.2.2.2.2.2.2.2.2.2.2.2.1 (.cons (clsV_of ibInvalidThings) ekInvalidNumber.2.2.2.2.2.2.2.2.2.2.2.2.2.1 (.cons (clsV_of ibNotARow) ekInvalidNumber.2.2.2.2.2.2.2.2.2.2.2.2.2.2.1 (.cons (clsV_of ibNotRight) ekInvalidNumber.2.2.2.2.2.2.2.2.2.2.2.2.2.2.2.1 (.cons (clsV_of ibNotThere) ekInvalidNumber.2.2.2.2.2.2.2.2.2.2.2.2.2.2.2.2.1 (.cons (clsV_of ibNothingToUndo) ekInvalidNumber.2.2.2.2.2.2.2.2.2.2.2.2.2.2.2.2.2.1 (.cons (clsV_of ibOtherThings) ekInvalidNumber.2.2.2.2.2.2.2.2.2.2.2.2.2.2.2.2.2.2.1 (.cons (clsV_of ibTooMany) ekInvalidNumber.2.2.2.2.2.2.2.2.2.2.2.2.2.2.2.2.2.2.2.1 (.cons (clsV_of ibUnknownName) ekInvalidNumber.2.2.2.2.2.2.2.2.2.2.2.2.2.2.2.2.2.2.2.2.1 (.cons (clsV_ty "ArithmeticError" zArithmeticError rfl) ekInvalidNumber.2.2.2.2.2.2.2.2.2.2.2.2.2.2.2.2.2.2.2.2.2.1 (.cons (clsV_ty "IndexError" zIndexError rfl) ekInvalidNumber.2.2.2.2.2.2.2.2.2.2.2.2.2.2.2.2.2.2.2.2.2.2.1 (.cons (clsV_ty "KeyError" zKeyError rfl) ekInvalidNumber.2.2.2.2.2.2.2.2.2.2.2.2.2.2.2.2.2.2.2.2.2.2.2.1 (.cons (clsV_ty "LookupError" zLookupError rfl) ekInvalidNumber.2.2.2.2.2.2.2.2.2.2.2.2.2.2.2.2.2.2.2.2.2.2.2.2.1 (.cons (clsV_ty "ValueError" zValueError rfl) ekInvalidNumber.2.2.2.2.2.2.2.2.2.2.2.2.2.2.2.2.2.2.2.2.2.2.2.2.2.1 (.cons (clsV_ty "ZeroDivisionError" zZeroDivisionError rfl) ekInvalidNumber.2.2.2.2.2.2.2.2.2.2.2.2.2.2.2.2.2.2.2.2.2.2.2.2.2.2 .nil)))))))))))))))))))))))))))), (List.forall_mem_append.mpr ⟨(ei_row ibInvalidOrders erInvalidOrders eqA eqB (L := eisRInvalidOrders) (.cons (clsV_of ibBroken) ekInvalidOrders.1 (.cons (clsV_of ibCannotBe) ekInvalidOrders.2.1 (.cons (clsV_of ibInUse) ekInvalidOrders.2.2.1 (.cons (clsV_of ibInvalidClaim) ekInvalidOrders.2.2.2.1 (.cons (clsV_of ibInvalidExchange) ekInvalidOrders.2.2.2.2.1 (.cons (clsV_of ibInvalidHeap) ekInvalidOrders.2.2.2.2.2.1 (.cons (clsV_of ibInvalidName) ekInvalidOrders.2.2.2.2.2.2.1 (.cons (clsV_of ibInvalidNumber) ekInvalidOrders.2.2.2.2.2.2.2.1 (.cons (clsV_of ibInvalidOrders) ekInvalidOrders.2.2.2.2.2.2.2.2.1 (.cons (clsV_of ibInvalidPlace) ekInvalidOrders.2.2.2.2.2.2.2.2.2.1 (.cons (clsV_of ibInvalidPlan) ekInvalidOrders.2.2.2.2.2.2.2.2.2.2.1 (.cons (clsV_of ibInvalidRows) ekInvalidOrders.2.2.2.2.2.2.2.2.2.2.2.1 (.cons (clsV_of ibInvalidText) ekInvalidOrders.2.2.2.2.2.2.2.2.2.2.2.2.1 (.cons (clsV_of ibInvalidThings) ekInvalidOrders.2.2.2.2.2.2.2.2.2.2.2.2.2.1 (.cons (clsV_of ibNotARow) ekInvalidOrders.2.2.2.2.2.2.2.2.2.2.2.2.2.2.1 (.cons (clsV_of ibNotRight) ekInvalidOrders.2.2.2.2.2.2.2.2.2.2.2.2.2.2.2.1 (.cons (clsV_of ibNotThere) ekInvalidOrders.2.2.2.2.2.2.2.2.2.2.2.2.2.2.2.2.1 (.cons (clsV_of ibNothingToUndo) ekInvalidOrders.2.2.2.2.2.2.2.2.2.2.2.2.2.2.2.2.2.1 (.cons (clsV_of ibOtherThings) ekInvalidOrders.2.2.2.2.2.2.2.2.2.2.2.2.2.2.2.2.2.2.1 (.cons (clsV_of ibTooMany) ekInvalidOrders.2.2.2.2.2.2.2.2.2.2.2.2.2.2.2.2.2.2.2.1 (.cons (clsV_of ibUnknownName) ekInvalidOrders.2.2.2.2.2.2.2.2.2.2.2.2.2.2.2.2.2.2.2.2.1 (.cons (clsV_ty "ArithmeticError" zArithmeticError rfl) ekInvalidOrders.2.2.2.2.2.2.2.2.2.2.2.2.2.2.2.2.2.2.2.2.2.1 (.cons (clsV_ty "IndexError" zIndexError rfl) ekInvalidOrders.2.2.2.2.2.2.2.2.2.2.2.2.2.2.2.2.2.2.2.2.2.2.1 (.cons (clsV_ty "KeyError" zKeyError rfl) ekInvalidOrders.2.2.2.2.2.2.2.2.2.2.2.2.2.2.2.2.2.2.2.2.2.2.2.1 (.cons (clsV_ty "LookupError" zLookupError rfl) ekInvalidOrders.2.2.2.2.2.2.2.2.2.2.2.2.2.2.2.2.2.2.2.2.2.2.2.2.1 (.cons (clsV_ty "ValueError" zValueError rfl) ekInvalidOrders.2.2.2.2.2.2.2.2.2.2.2.2.2.2.2.2.2.2.2.2.2.2.2.2.2.1 (.cons (clsV_ty "ZeroDivisionError" zZeroDivisionError rfl) ekInvalidOrders.2.2.2.2.2.2.2.2.2.2.2.2.2.2.2.2.2.2.2.2.2.2.2.2.2.2 .nil)))))))))))))))))))))))))))), (List.forall_mem_append.mpr ⟨(ei_row ibInvalidPlace erInvalidPlace eqA eqB (L := eisRInvalidPlace) (.cons (clsV_of ibBroken) ekInvalidPlace.1 (.cons (clsV_of ibCannotBe) ekInvalidPlace.2.1 (.cons (clsV_of ibInUse) ekInvalidPlace.2.2.1 (.cons (clsV_of ibInvalidClaim) ekInvalidPlace.2.2.2.1 (.cons (clsV_of ibInvalidExchange) ekInvalidPlace.2.2.2.2.1 (.cons (clsV_of ibInvalidHeap) ekInvalidPlace.2.2.2.2.2.1 (.cons (clsV_of ibInvalidName) ekInvalidPlace.2.2.2.2.2.2.1 (.cons (clsV_of ibInvalidNumber) ekInvalidPlace.2.2.2.2.2.2.2.1 (.cons (clsV_of ibInvalidOrders) ekInvalidPlace.2.2.2.2.2.2.2.2.1 (.cons (clsV_of ibInvalidPlace) ekInvalidPlace.2.2.2.2.2.2.2.2.2.1 (.cons (clsV_of ibInvalidPlan) ekInvalidPlace.2.2.2.2.2.2.2.2.2.2.1 (.cons (clsV_of ibInvalidRows) ekInvalidPlace.2.2.2.2.2.2.2.2.2.2.2.1 (.cons (clsV_of ibInvalidText) ekInvalidPlace.2.2.2.2.2.2.2.2.2.2.2.2.1 (.cons (clsV_of ibInvalidThings) ekInvalidPlace.2.2.2.2.2.2.2.2.2.2.2.2.2.1 (.cons (clsV_of ibNotARow) ekInvalidPlace.2.2.2.2.2.2.2.2.2.2.2.2.2.2.1 (.cons (clsV_of ibNotRight) ekInvalidPlace.2.2.2.2.2.2.2.2.2.2.2.2.2.2.2.1 (.cons (clsV_of ibNotThere) ekInvalidPlace.2.2.2.2.2.2.2.2.2.2.2.2.2.2.2.2.1 (.cons (clsV_of ibNothingToUndo) ekInvalidPlace.2.2.2.2.2.2.2.2.2.2.2.2.2.2.2.2.2.1 (.cons (clsV_of ibOtherThings) ekInvalidPlace.2.2.2.2.2.2.2.2.2.2.2.2.2.2.2.2.2.2.1 (.cons (clsV_of ibTooMany) ekInvalidPlace.2.2.2.2.2.2.2.2.2.2.2.2.2.2.2.2.2.2.2.1 (.cons (clsV_of ibUnknownName) ekInvalidPlace.2.2.2.2.2.2.2.2.2.2.2.2.2.2.2.2.2.2.2.2.1 (.cons (clsV_ty "ArithmeticError" zArithmeticError rfl) ekInvalidPlace.2.2.2.2.2.2.2.2.2.2.2.2.2.2.2.2.2.2.2.2.2.1 (.cons (clsV_ty "IndexError" zIndexError rfl) ekInvalidPlace.2.2.2.2.2.2.2.2.2.2.2.2.2.2.2.2.2.2.2.2.2.2.1 (.cons (clsV_ty "KeyError" zKeyError rfl) ekInvalidPlace.2.2.2.2.2.2.2.2.2.2.2.2.2.2.2.2.2.2.2.2.2.2.2.1 (.cons (clsV_ty "LookupError" zLookupError rfl) ekInvalidPlace.2.2.2.2.2.2.2.2.2.2.2.2.2.2.2.2.2.2.2.2.2.2.2.2.1 (.cons (clsV_ty "ValueError" zValueError rfl) ekInvalidPlace.2.2.2.2.2.2.2.2.2.2.2.2.2.2.2.2.2.2.2.2.2.2.2.2.2.1 (.cons (clsV_ty "ZeroDivisionError" zZeroDivisionError rfl) ekInvalidPlace.2.2.2.2.2.2.2.2.2.2.2.2.2.2.2.2.2.2.2.2.2.2.2.2.2.2 .nil)))))))))))))))))))))))))))), (List.forall_mem_append.mpr ⟨(ei_row ibInvalidPlan erInvalidPlan eqA eqB (L := eisRInvalidPlan) (.cons (clsV_of ibBroken) ekInvalidPlan.1 (.cons (clsV_of ibCannotBe) ekInvalidPlan.2.1 (.cons (clsV_of ibInUse) ekInvalidPlan.2.2.1 (.cons (clsV_of ibInvalidClaim) ekInvalidPlan.2.2.2.1 (.cons (clsV_of ibInvalidExchange) ekInvalidPlan.2.2.2.2.1 (.cons (clsV_of ibInvalidHeap) ekInvalidPlan.2.2.2.2.2.1 (.cons (clsV_of ibInvalidName) ekInvalidPlan.2.2.2.2.2.2.1 (.cons (clsV_of ibInvalidNumber) ekInvalidPlan.2.2.2.2.2.2.2.1 (.cons (clsV_of ibInvalidOrders) ekInvalidPlan.2.2.2.2.2.2.2.2.1 (.cons (clsV_of ibInvalidPlace) ekInvalidPlan.2.2.2.2.2.2.2.2.2.1 (.cons (clsV_of ibInvalidPlan) ekInvalidPlan.2.2.2.2.2.2.2.2.2.2.1 (.cons (clsV_of ibInvalidRows) ekInvalidPlan.2.2.2.2.2.2.2.2.2.2.2.1 (.cons (clsV_of ibInvalidText) ekInvalidPlan.2.2.2.2.2.2.2.2.2.2.2.2.1 (.cons (clsV_of ibInvalidThings) ekInvalidPlan.2.2.2.2.2.2.2.2.2.2.2.2.2.1 (.cons (clsV_of ibNotARow) ekInvalidPlan.2.2.2.2.2.2.2.2.2.2.2.2.2.2.1 (.cons (clsV_of ibNotRight) ekInvalidPlan.2.2.2.2.2.2.2.2.2.2.2.2.2.2.2.1 (.cons (clsV_of ibNotThere) ekInvalidPlan.2.2.2.2.2.2.2.2.2.2.2.2.2.2.2.2.1 (.cons (clsV_of ibNothingToUndo) ekInvalidPlan.2.2.2.2.2.2.2.2.2.2.2.2.2.2.2.2.2.1 (.cons (clsV_of ibOtherThings) ekInvalidPlan.2.2.2.2.2.2.2.2.2.2.2.2.2.2.2.2.2.2.1 (.cons (clsV_of ibTooMany) ekInvalidPlan.2.2.2.2.2.2.2.2.2.2.2.2.2.2.2.2.2.2.2.1 (.cons (clsV_of ibUnknownName) ekInvalidPlan.2.2.2.2.2.2.2.2.2.2.2.2.2.2.2.2.2.2.2.2.1 (.cons (clsV_ty "ArithmeticError" zArithmeticError rfl) ekInvalidPlan.2.2.2.2.2.2.2.2.2.2.2.2.2.2.2.2.2.2.2.2.2.1 (.cons (clsV_ty "IndexError" zIndexError rfl) ekInvalidPlan.2.2.2.2.2.2.2.2.2.2.2.2.2.2.2.2.2.2.2.2.2.2.1 (.cons (clsV_ty "KeyError" zKeyError rfl) ekInvalidPlan.2.2.2.2.2.2.2.2.2.2.2.2.2.2.2.2.2.2.2.2.2.2.2.1 (.cons (clsV_ty "LookupError" zLookupError rfl) ekInvalidPlan.2.2.2.2.2.2.2.2.2.2.2.2.2.2.2.2.2.2.2.2.2.2.2.2.1 (.cons (clsV_ty "ValueError" zValueError rfl) ekInvalidPlan.2.2.2.2.2.2.2.2.2.2.2.2.2.2.2.2.2.2.2.2.2.2.2.2.2.1 (.cons (clsV_ty "ZeroDivisionError" zZeroDivisionError rfl) ekInvalidPlan.2.2.2.2.2.2.2.2.2.2.2.2.2.2.2.2.2.2.2.2.2.2.2.2.2.2 .nil)))))))))))))))))))))))))))), (List.forall_mem_append.mpr ⟨(ei_row ibInvalidRows erInvalidRows eqA eqB (L := eisRInvalidRows) (.cons (clsV_of ibBroken) ekInvalidRows.1 (.cons (clsV_of ibCannotBe) ekInvalidRows.2.1 (.cons (clsV_of ibInUse) ekInvalidRows.2.2.1 (.cons (clsV_of ibInvalidClaim) ekInvalidRows.2.2.2.1 (.cons (clsV_of ibInvalidExchange) ekInvalidRows.2.2.2.2.1 (.cons (clsV_of ibInvalidHeap) ekInvalidRows.2.2.2.2.2.1 (.cons (clsV_of ibInvalidName) ekInvalidRows.2.2.2.2.2.2.1 (.cons (clsV_of ibInvalidNumber) ekInvalidRows.2.2.2.2.2.2.2.1 (.cons (clsV_of ibInvalidOrders) ekInvalidRows.2.2.2.2.2.2.2.2.1 (.cons (clsV_of ibInvalidPlace) ekInvalidRows.2.2.2.2.2.2.2.2.2.1 (.cons (clsV_of ibInvalidPlan) ekInvalidRows.2.2.2.2.2.2.2.2.2.2.1 (.cons (clsV_of ibInvalidRows) ekInvalidRows.2.2.2.2.2.2.2.2.2.2.2.1 (.cons (clsV_of ibInvalidText) ekInvalidRows.2.2.2.2.2.2.2.2.2.2.2.2.1 (.cons (clsV_of ibInvalidThings) ekInvalidRows.2.2.2.2.2.2.2.2.2.2.2.2.2.1 (.cons (clsV_of ibNotARow) ekInvalidRows.2.2.2.2.2.2.2.2.2.2.2.2.2.2.1 (.cons (clsV_of ibNotRight) ekInvalidRows.2.2.2.2.2.2.2.2.2.2.2.2.2.2.2.1 (.cons (clsV_of ibNotThere) ekInvalidRows.2.2.2.2.2.2.2.2.2.2.2.2.2.2.2.2.1 (.cons (clsV_of ibNothingToUndo) ekInvalidRows.2.2.2.2.2.2.2.2.2.2.2.2.2.2.2.2.2.1 (.cons (clsV_of ibOtherThings) ekInvalidRows.2.2.2.2.2.2.2.2.2.2.2.2.2.2.2.2.2.2.1 (.cons (clsV_of ibTooMany) ekInvalidRows.2.2.2.2.2.2.2.2.2.2.2.2.2.2.2.2.2.2.2.1 (.cons (clsV_of ibUnknownName) ekInvalidRows.2.2.2.2.2.2.2.2.2.2.2.2.2.2.2.2.2.2.2.2.1 (.cons (clsV_ty "ArithmeticError" zArithmeticError rfl) ekInvalidRows.2.2.2.2.2.2.2.2.2.2.2.2.2.2.2.2.2.2.2.2.2.1 (.cons (clsV_ty "IndexError" zIndexError rfl) ekInvalidRows.2.2.2.2.2.2.2.2.2.2.2.2.2.2.2.2.2.2.2.2.2.2.1 (.cons (clsV_ty "KeyError" zKeyError rfl) ekInvalidRows.2.2.2.2.2.2.2.2.2.2.2.2.2.2.2.2.2.2.2.2.2.2.2.1 (.cons (clsV_ty "LookupError" zLookupError rfl) ekInvalidRows.2.2.2.2.2.2.2.2.2.2.2.2.2.2.2.2.2.2.2.2.2.2.2.2.1 (.cons (clsV_ty "ValueError" zValueError rfl) ekInvalidRows.2.2.2.2.2.2.2.2.2.2.2.2.2.2.2.2.2.2.2.2.2.2.2.2.2.1 (.cons (clsV_ty "ZeroDivisionError" zZeroDivisionError rfl) ekInvalidRows.2.2.2.2.2.2.2.2.2.2.2.2.2.2.2.2.2.2.2.2.2.2.2.2.2.2 .nil)))))))))))))))))))))))))))), (List.forall_mem_append.mpr ⟨(ei_row ibInvalidText erInvalidText eqA eqB (L := eisRInvalidText) (.cons (clsV_of ibBroken) ekInvalidText.1 (.cons (clsV_of ibCannotBe) ekInvalidText.2.1 (.cons (clsV_of ibInUse) ekInvalidText.2.2.1 (.cons (clsV_of ibInvalidClaim) ekInvalidText.2.2.2.1 (.cons (clsV_of ibInvalidExchange) ekInvalidText.2.2.2.2.1 (.cons (clsV_of ibInvalidHeap) ekInvalidText.2.2.2.2.2.1 (.cons (clsV_of ibInvalidName) ekInvalidText.2.2.2.2.2.2.1 (.cons (clsV_of ibInvalidNumber) ekInvalidText.2.2.2.2.2.2.2.1 (.cons (clsV_of ibInvalidOrders) ekInvalidText.2.2.2.2.2.2.2.2.1 (.cons (clsV_of ibInvalidPlace) ekInvalidText.2.2.2.2.2.2.2.2.2.1 (.cons (clsV_of ibInvalidPlan) ekInvalidText.2.2.2.2.2.2.2.2.2.2.1 (.cons (clsV_of ibInvalidRows) ekInvalidText.2.2.2.2.2.2.2.2.2.2.2.1 (.cons (clsV_of ibInvalidText) ekInvalidText.2.2.2.2.2.2.2.2.2.2.2.2.1 (.cons (clsV_of ibInvalidThings) ekInvalidText.2.2.2.2.2.2.2.2.2.2.2.2.2.1 (.cons (clsV_of ibNotARow) ekInvalidText.2.2.2.2.2.2.2.2.2.2.2.2.2.2.1 (.cons (clsV_of ibNotRight) ekInvalidText.2.2.2.2.2.2.2.2.2.2.2.2.2.2.2.1 (.cons (clsV_of ibNotThere) ekInvalidText.2.2.2.2.2.2.2.2.2.2.2.2.2.2.2.2.1 (.cons (clsV_of ibNothingToUndo) ekInvalidText.2.2.2.2.2.2.2.2.2.2.2.2.2.2.2.2.2.1 (.cons (clsV_of ibOtherThings) ekInvalidText.2.2.2.2.2.2.2.2.2.2.2.2.2.2.2.2.2.2.1 (.cons (clsV_of ibTooMany) ekInvalidText.2.2.2.2.2.2.2.2.2.2.2.2.2.2.2.2.2.2.2.1 (.cons (clsV_of ibUnknownName) ekInvalidText.2.2.2.2.2.2.2.2.2.2.2.2.2.2.2.2.2.2.2.2.1 (.cons (clsV_ty "ArithmeticError" zArithmeticError rfl) ekInvalidText.2.2.2.2.2.2.2.2.2.2.2.2.2.2.2.2.2.2.2.2.2.1 (.cons (clsV_ty "IndexError" zIndexError rfl) ekInvalidText.2.2.2.2.2.2.2.2.2.2.2.2.2.2.2.2.2.2.2.2.2.2.1 (.cons (clsV_ty "KeyError" zKeyError rfl) ekInvalidText.2.2.2.2.2.2.2.2.2.2.2.2.2.2.2.2.2.2.2.2.2.2.2.1 (.cons (clsV_ty "LookupError" zLookupError rfl) ekInvalidText.2.2.2.2.2.2.2.2.2.2.2.2.2.2.2.2.2.2.2.2.2.2.2.2.1 (.cons (clsV_ty "ValueError" zValueError rfl) ekInvalidText.2.2.2.2.2.2.2.2.2.2.2.2.2.2.2.2.2.2.2.2.2.2.2.2.2.1 (.cons (clsV_ty "ZeroDivisionError" zZeroDivisionError rfl) ekInvalidText.2.2.2.2.2.2.2.2.2.2.2.2.2.2.2.2.2.2.2.2.2.2.2.2.2.2 .nil)))))))))))))))))))))))))))), (List.forall_mem_append.mpr ⟨(ei_row ibInvalidThings erInvalidThings eqA eqB (L := eisRInvalidThings) (.cons (clsV_of ibBroken) ekInvalidThings.1 (.cons (clsV_of ibCannotBe) ekInvalidThings.2.1 (.cons (clsV_of ibInUse) ekInvalidThings.2.2.1 (.cons (clsV_of ibInvalidClaim) ekInvalidThings.2.2.2.1 (.cons (clsV_of ibInvalidExchange) ekInvalidThings.2.2.2.2.1 (.cons (clsV_of ibInvalidHeap) ekInvalidThings.2.2.2.2.2.1 (.cons (clsV_of ibInvalidName) ekInvalidThings.2.2.2.2.2.2.1 (.cons (clsV_of ibInvalidNumber) ekInvalidThings.2.2.2.2.2.2.2.1 (.cons (clsV_of ibInvalidOrders) ekInvalidThings.2.2.2.2.2.2.2.2.1 (.cons (clsV_of ibInvalidPlace) ekInvalidThings.2.2.2.2.2.2.2.2.2.1 (.cons (clsV_of ibInvalidPlan) ekInvalidThings.2.2.2.2.2.2.2.2.2.2.1 (.cons (clsV_of ibInvalidRows) ekInvalidThings.2.2.2.2.2.2.2.2.2.2.2.1 (.cons (clsV_of ibInvalidText) ekInvalidThings.2.2.2.2.2.2.2.2.2.2.2.2.1 (.cons (clsV_of ibInvalidThings) ekInvalidThings.2.2.2.2.2.2.2.2.2.2.2.2.2.1 (.cons (clsV_of ibNotARow) ekInvalidThings.2.2.2.2.2.2.2.2.2.2.2.2.2.2.1 (.cons (clsV_of ibNotRight) ekInvalidThings.2.2.2.2.2.2.2.2.2.2.2.2.2.2.2.1 (.cons (clsV_of ibNotThere) ekInvalidThings.2.2.2.2.2.2.2.2.2.2.2.2.2.2.2.2.1 (.cons (clsV_of ibNothingToUndo) ekInvalidThings.2.2.2.2.2.2.2.2.2.2.2.2.2.2.2.2.2.1 (.cons (clsV_of ibOtherThings) ekInvalidThings.2.2.2.2.2.2.2.2.2.2.2.2.2.2.2.2.2.2.1 (.cons (clsV_of ibTooMany) ekInvalidThings.2.2.2.2.2.2.2.2.2.2.2.2.2.2.2.2.2.2.2.1 (.cons (clsV_of ibUnknownName) ekInvalidThings.2.2.2.2.2.2.2.2.2.2.2.2.2.2.2.2.2.2.2.2.1 (.cons (clsV_ty "ArithmeticError" zArithmeticError rfl) ekInvalidThings.2.2.2.2.2.2.2.2.2.2.2.2.2.2.2.2.2.2.2.2.2.1 (.cons (clsV_ty "IndexError" zIndexError rfl) ekInvalidThings.2.2.2.2.2.2.2.2.2.2.2.2.2.2.2.2.2.2.2.2.2.2.1 (.cons (clsV_ty "KeyError" zKeyError rfl) ekInvalidThings.2.2.2.2.2.2.2.2.2.2.2.2.2.2.2.2.2.2.2.2.2.2.2.1 (.cons (clsV_ty "LookupError" zLookupError rfl) ekInvalidThings.2.2.2.2.2.2.2.2.2.2.2.2.2.2.2.2.2.2.2.2.2.2.2.2.1 (.cons (clsV_ty "ValueError" zValueError rfl) ekInvalidThings.2.2.2.2.2.2.2.2.2.2.2.2.2.2.2.2.2.2.2.2.2.2.2.2.2.1 (.cons (clsV_ty "ZeroDivisionError" zZeroDivisionError rfl) ekInvalidThings.2.2.2.2.2.2.2.2.2.2.2.2.2.2.2.2.2.2.2.2.2.2.2.2.2.2 .nil)))))))))))))))))))))))))))), (List.forall_mem_append.mpr ⟨(ei_row ibNotARow erNotARow eqA eqB (L := eisRNotARow) (.cons (clsV_of ibBroken) ekNotARow.1 (.cons (clsV_of ibCannotBe) ekNotARow.2.1 (.cons (clsV_of ibInUse) ekNotARow.2.2.1 (.cons (clsV_of ibInvalidClaim) ekNotARow.2.2.2.1 (.cons (clsV_of ibInvalidExchange) ekNotARow.2.2.2.2.1 (.cons (clsV_of ibInvalidHeap) ekNotARow.2.2.2.2.2.1 (.cons (clsV_of ibInvalidName) ekNotARow.2.2.2.2.2.2.1 (.cons (clsV_of ibInvalidNumber) ekNotARow.2.2.2.2.2.2.2.1 (.cons (clsV_of ibInvalidOrders) ekNotARow.2.2.2.2.2.2.2.2.1 (.cons (clsV_of ibInvalidPlace) ekNotARow.2.2.2.2.2.2.2.2.2.1 (.cons (clsV_of ibInvalidPlan) ekNotARow.2.2.2.2.2.2.2.2.2.2.1 (.cons (clsV_of ibInvalidRows) ekNotARow.2.2.2.2.2.2.2.2.2.2.2.1 (.cons (clsV_of ibInvalidText) ekNotARow.2.2.2.2.2.2.2.2.2.2.2.2.1 (.cons (clsV_of ibInvalidThings) ekNotARow.2.2.2.2.2.2.2.2.2.2.2.2.2.1 (.cons (clsV_of ibNotARow) ekNotARow.2.2.2.2.2.2.2.2.2.2.2.2.2.2.1 (.cons (clsV_of ibNotRight) ekNotARow.2.2.2.2.2.2.2.2.2.2.2.2.2.2.2.1 (.cons (clsV_of ibNotThere) ekNotARow.2.2.2.2.2.2.2.2.2.2.2.2.2.2.2.2.1 (.cons (clsV_of ibNothingToUndo) ekNotARow.2.2.2.2.2.2.2.2.2.2.2.2.2.2.2.2.2.1 (.cons (clsV_of ibOtherThings) ekNotARow.2.2.2.2.2.2.2.2.2.2.2.2.2.2.2.2.2.2.1 (.cons (clsV_of ibTooMany) ekNotARow.2.2.2.2.2.2.2.2.2.2.2.2.2.2.2.2.2.2.2.1 (.cons (clsV_of ibUnknownName) ekNotARow.2.2.2.2.2.2.2.2.2.2.2.2.2.2.2.2.2.2.2.2.1 (.cons (clsV_ty "ArithmeticError" zArithmeticError rfl) ekNotARow.2.2.2.2.2.2.2.2.2.2.2.2.2.2.2.2.2.2.2.2.2.1 (.cons (clsV_ty "IndexError" zIndexError rfl) ekNotARow.2.2.2.2.2.2.2.2.2.2.2.2.2.2.2.2.2.2.2.2.2.2.1 (.cons (clsV_ty "KeyError" zKeyError rfl) ekNotARow.2.2.2.2.2.2.2.2.2.2.2.2.2.2.2.2.2.2.2.2.2.2.2.1 (.cons (clsV_ty "LookupError" zLookupError rfl) ekNotARow.2.2.2.2.2.2.2.2.2.2.2.2.2.2.2.2.2.2.2.2.2.2.2.2.1 (.cons (clsV_ty "ValueError" zValueError rfl) ekNotARow.2.2.2.2.2.2.2.2.2.2.2.2.2.2.2.2.2.2.2.2.2.2.2.2.2.1 (.cons (clsV_ty "ZeroDivisionError" zZeroDivisionError rfl) ekNotARow.2.2.2.2.2.2.2.2.2.2.2.2.2.2.2.2.2.2.2.2.2.2.2.2.2.2 .nil)))))))))))))))))))))))))))), (List.forall_mem_append.mpr ⟨(ei_row ibNothingToUndo erNothingToUndo eqA eqB (L := eisRNothingToUndo) (.cons (clsV_of ibBroken) ekNothingToUndo.1 (.cons (clsV_of ibCannotBe) ekNothingToUndo.2.1 (.cons (clsV_of ibInUse) ekNothingToUndo.2.2.1 (.cons (clsV_of ibInvalidClaim) ekNothingToUndo.2.2.2.1 (.cons (clsV_of ibInvalidExchange) ekNothingToUndo.2.2.2.2.1 (.cons (clsV_of ibInvalidHeap) ekNothingToUndo.2.2.2.2.2.1 (.cons (clsV_of ibInvalidName) ekNothingToUndo.2.2.2.2.2.2.1 (.cons (clsV_of ibInvalidNumber) ekNothingToUndo.2.2.2.2.2.2.2.1 (.cons (clsV_of ibInvalidOrders) ekNothingToUndo.2.2.2.2.2.2.2.2.1 (.cons (clsV_of ibInvalidPlace) ekNothingToUndo.2.2.2.2.2.2.2.2.2.1 (.cons (clsV_of ibInvalidPlan) ekNothingToUndo.2.2.2.2.2.2.2.2.2.2.1 (.cons (clsV_of ibInvalidRows) ekNothingToUndo.2.2.2.2.2.2.2.2.2.2.2.1 (.cons (clsV_of ibInvalidText) ekNothingToUndo.2.2.2.2.2.2.2.2.2.2.2.2.1 (.cons (clsV_of ibInvalidThings) ekNothingToUndo.2.2.2.2.2.2.2.2.2.2.2.2.2.1 (.cons (clsV_of ibNotARow) ekNothingToUndo.2.2.2.2.2.2.2.2.2.2.2.2.2.2.1 (.cons (clsV_of ibNotRight) ekNothingToUndo.2.2.2.2.2.2.2.2.2.2.2.2.2.2.2.1 (.cons (clsV_of ibNotThere) ekNothingToUndo.2.2.2.2.2.2.2.2.2.2.2.2.2.2.2.2.1 (.cons (clsV_of ibNothingToUndo) ekNothingToUndo.2.2.2.2.2.2.2.2.2.2.2.2.2.2.2.2.2.1 (.cons (clsV_of ibOtherThings) ekNothingToUndo.2.2.2.2.2.2.2.2.2.2.2.2.2.2.2.2.2.2.1 (.cons (clsV_of ibTooMany) ekNothingToUndo.2.2.2.2.2.2.2.2.2.2.2.2.2.2.2.2.2.2.2.1 (.cons (clsV_of ibUnknownName) ekNothingToUndo.2.2.2.2.2.2.2.2.2.2.2.2.2.2.2.2.2.2.2.2.1 (.cons (clsV_ty "ArithmeticError" zArithmeticError rfl) ekNothingToUndo.2.2.2.2.2.2.2.2.2.2.2.2.2.2.2.2.2.2.2.2.2.1 (.cons (clsV_ty "IndexError" zIndexError rfl) ekNothingToUndo.2.2.2.2.2.2.2.2.2.2.2.2.2.2.2.2.2.2.2.2.2.2.1 (.cons (clsV_ty "KeyError" zKeyError rfl) ekNothingToUndo.2.2.2.2.2.2.2.2.2.2.2.2.2.2.2.2.2.2.2.2.2.2.2.1 (.cons (clsV_ty "LookupError" zLookupError rfl) ekNothingToUndo.2.2.2.2.2.2.2.2.2.2.2.2.2.2.2.2.2.2.2.2.2.2.2.2.1 (.cons (clsV_ty "ValueError" zValueError rfl) ekNothingToUndo.2.2.2.2.2.2.2.2.2.2.2.2.2.2.2.2.2.2.2.2.2.2.2.2.2.1 (.cons (clsV_ty "ZeroDivisionError" zZeroDivisionError rfl) ekNothingToUndo.2.2.2.2.2.2.2.2.2.2.2.2.2.2.2.2.2.2.2.2.2.2.2.2.2.2 .nil)))))))))))))))))))))))))))), (List.forall_mem_append.mpr ⟨(ei_row ibOtherThings erOtherThings eqA eqB (L := eisROtherThings) (.cons (clsV_of ibBroken) ekOtherThings.1 (.cons (clsV_of ibCannotBe) ekOtherThings.2.1 (.cons (clsV_of ibInUse) ekOtherThings.2.2.1 (.cons (clsV_of ibInvalidClaim) ekOtherThings.2.2.2.1 (.cons (clsV_of ibInvalidExchange) ekOtherThings.2.2.2.2.1 (.cons (clsV_of ibInvalidHeap) ekOtherThings.2.2.2.2.2.1 (.cons (clsV_of ibInvalidName) ekOtherThings.2.2.2.2.2.2.1 (.cons (clsV_of ibInvalidNumber) ekOtherThings.2.2.2.2.2.2.2.1 (.cons (clsV_of ibInvalidOrders) ekOtherThings.2.2.2.2.2.2.2.2.1 (.cons (clsV_of ibInvalidPlace) ekOtherThings.2.2.2.2.2.2.2.2.2.1 (.cons (clsV_of ibInvalidPlan) ekOtherThings.2.2.2.2.2.2.2.2.2.2.1 (.cons (clsV_of ibInvalidRows) ekOtherThings.2.2.2.2.2.2.2.2.2.2.2.1 (.cons (clsV_of ibInvalidText) ekOtherThings.2.2.2.2.2.2.2.2.2.2.2.2.1 (.cons (clsV_of ibInvalidThings) ekOtherThings.2.2.2.2.2.2.2.2.2.2.2.2.2.1 (.cons (clsV_of ibNotARow) ekOtherThings.2.2.2.2.2.2.2.2.2.2.2.2.2.2.1 (.cons (clsV_of ibNotRight) ekOtherThings.2.2.2.2.2.2.2.2.2.2.2.2.2.2.2.1 (.cons (clsV_of ibNotThere) ekOtherThings.2.2.2.2.2.2.2.2.2.2.2.2.2.2.2.2.1 (.cons (clsV_of ibNothingToUndo) ekOtherThings.2.2.2.2.2.2.2.2.2.2.2.2.2.2.2.2.2.1 (.cons (clsV_of ibOtherThings) ekOtherThings.2.2.2.2.2.2.2.2.2.2.2.2.2.2.2.2.2.2.1 (.cons (clsV_of ibTooMany) ekOtherThings.2.2.2.2.2.2.2.2.2.2.2.2.2.2.2.2.2.2.2.1 (.cons (clsV_of ibUnknownName) ekOtherThings.2.2.2.2.2.2.2.2.2.2.2.2.2.2.2.2.2.2.2.2.1 (.cons (clsV_ty "ArithmeticError" zArithmeticError rfl) ekOtherThings.2.2.2.2.2.2.2.2.2.2.2.2.2.2.2.2.2.2.2.2.2.1 (.cons (clsV_ty "IndexError" zIndexError rfl) ekOtherThings.2.2.2.2.2.2.2.2.2.2.2.2.2.2.2.2.2.2.2.2.2.2.1 (.cons (clsV_ty "KeyError" zKeyError rfl) ekOtherThings.2.2.2.2.2.2.2.2.2.2.2.2.2.2.2.2.2.2.2.2.2.2.2.1 (.cons (clsV_ty "LookupError" zLookupError rfl) ekOtherThings.2.2.2.2.2.2.2.2.2.2.2.2.2.2.2.2.2.2.2.2.2.2.2.2.1 (.cons (clsV_ty "ValueError" zValueError rfl) ekOtherThings.2.2.2.2.2.2.2.2.2.2.2.2.2.2.2.2.2.2.2.2.2.2.2.2.2.1 (.cons (clsV_ty "ZeroDivisionError" zZeroDivisionError rfl) ekOtherThings.2.2.2.2.2.2.2.2.2.2.2.2.2.2.2.2.2.2.2.2.2.2.2.2.2.2 .nil)))))))))))))))))))))))))))), (List.forall_mem_append.mpr ⟨(ei_row ibTooMany erTooMany eqA eqB (L := eisRTooMany) (.cons (clsV_of ibBroken) ekTooMany.1 (.cons (clsV_of ibCannotBe) ekTooMany.2.1 (.cons (clsV_of ibInUse) ekTooMany.2.2.1 (.cons (clsV_of ibInvalidClaim) ekTooMany.2.2.2.1 (.cons (clsV_of ibInvalidExchange) ekTooMany.2.2.2.2.1 (.cons (clsV_of ibInvalidHeap) ekTooMany.2.2.2.2.2.1 (.cons (clsV_of ibInvalidName) ekTooMany.2.2.2.2.2.2.1 (.cons (clsV_of ibInvalidNumber) ekTooMany.2.2.2.2.2.2.2.1 (.cons (clsV_of ibInvalidOrders) ekTooMany.2.2.2.2.2.2.2.2.1 (.cons (clsV_of ibInvalidPlace) ekTooMany.2.2.2.2.2.2.2.2.2.1 (.cons (clsV_of ibInvalidPlan) ekTooMany.2.2.2.2.2.2.2.2.2.2.1 (.cons (clsV_of ibInvalidRows) ekTooMany.2.2.2.2.2.2.2.2.2.2.2.1 (.cons (clsV_of ibInvalidText) ekTooMany.2.2.2.2.2.2.2.2.2.2.2.2.1 (.cons (clsV_of ibInvalidThings) ekTooMany.2.2.2.2.2.2.2.2.2.2.2.2.2.1 (.cons (clsV_of ibNotARow) ekTooMany.2.2.2.2.2.2.2.2.2.2.2.2.2.2.1 (.cons (clsV_of ibNotRight) ekTooMany.2.2.2.2.2.2.2.2.2.2.2.2.2.2.2.1 (.cons (clsV_of ibNotThere) ekTooMany.2.2.2.2.2.2.2.2.2.2.2.2.2.2.2.2.1 (.cons (clsV_of ibNothingToUndo) ekTooMany.2.2.2.2.2.2.2.2.2.2.2.2.2.2.2.2.2.1 (.cons (clsV_of ibOtherThings) ekTooMany.2.2.2.2.2.2.2.2.2.2.2.2.2.2.2.2.2.2.1 (.cons (clsV_of ibTooMany) ekTooMany.2.2.2.2.2.2.2.2.2.2.2.2.2.2.2.2.2.2.2.1 (.cons (clsV_of ibUnknownName) ekTooMany.2.2.2.2.2.2.2.2.2.2.2.2.2.2.2.2.2.2.2.2.1 (.cons (clsV_ty "ArithmeticError" zArithmeticError rfl) ekTooMany.2.2.2.2.2.2.2.2.2.2.2.2.2.2.2.2.2.2.2.2.2.1 (.cons (clsV_ty "IndexError" zIndexError rfl) ekTooMany.2.2.2.2.2.2.2.2.2.2.2.2.2.2.2.2.2.2.2.2.2.2.1 (.cons (clsV_ty "KeyError" zKeyError rfl) ekTooMany.2.2.2.2.2.2.2.2.2.2.2.2.2.2.2.2.2.2.2.2.2.2.2.1 (.cons (clsV_ty "LookupError" zLookupError rfl) ekTooMany.2.2.2.2.2.2.2.2.2.2.2.2.2.2.2.2.2.2.2.2.2.2.2.2.1 (.cons (clsV_ty "ValueError" zValueError rfl) ekTooMany.2.2.2.2.2.2.2.2.2.2.2.2.2.2.2.2.2.2.2.2.2.2.2.2.2.1 (.cons (clsV_ty "ZeroDivisionError" zZeroDivisionError rfl) ekTooMany.2.2.2.2.2.2.2.2.2.2.2.2.2.2.2.2.2.2.2.2.2.2.2.2.2.2 .nil)))))))))))))))))))))))))))), (ei_row ibUnknownName erUnknownName eqA eqB (L := eisRUnknownName) (.cons (clsV_of ibBroken) ekUnknownName.1 (.cons (clsV_of ibCannotBe) ekUnknownName.2.1 (.cons (clsV_of ibInUse) ekUnknownName.2.2.1 (.cons (clsV_of ibInvalidClaim) ekUnknownName.2.2.2.1 (.cons (clsV_of ibInvalidExchange) ekUnknownName.2.2.2.2.1 (.cons (clsV_of ibInvalidHeap) ekUnknownName.2.2.2.2.2.1 (.cons (clsV_of ibInvalidName) ekUnknownName.2.2.2.2.2.2.1 (.cons (clsV_of ibInvalidNumber) ekUnknownName.2.2.2.2.2.2.2.1 (.cons (clsV_of ibInvalidOrders) ekUnknownName.2.2.2.2.2.2.2.2.1 (.cons (clsV_of ibInvalidPlace) ekUnknownName.2.2.2.2.2.2.2.2.2.1 (.cons (clsV_of ibInvalidPlan) ekUnknownName.2.2.2.2.2.2.2.2.2.2.1 (.cons (clsV_of ibInvalidRows) ekUnknownName.2.2.2.2.2.2.2.2.2.2.2.1 (.cons (clsV_of ibInvalidText) ekUnknownName.2.2.2.2.2.2.2.2.2.2.2.2.1 (.cons (clsV_of ibInvalidThings) ekUnknownName.2.2.2.2.2.2.2.2.2.2.2.2.2.1 (.cons (clsV_of ibNotARow) ekUnknownName.2.2.2.2.2.2.2.2.2.2.2.2.2.2.1 (.cons (clsV_of ibNotRight) ekUnknownName.2.2.2.2.2.2.2.2.2.2.2.2.2.2.2.1 (.cons (clsV_of ibNotThere) ekUnknownName.2.2.2.2.2.2.2.2.2.2.2.2.2.2.2.2.1 (.cons (clsV_of ibNothingToUndo) ekUnknownName.2.2.2.2.2.2.2.2.2.2.2.2.2.2.2.2.2.1 (.cons (clsV_of ibOtherThings) ekUnknownName.2.2.2.2.2.2.2.2.2.2.2.2.2.2.2.2.2.2.1 (.cons (clsV_of ibTooMany) ekUnknownName.2.2.2.2.2.2.2.2.2.2.2.2.2.2.2.2.2.2.2.1 (.cons (clsV_of ibUnknownName) ekUnknownName.2.2.2.2.2.2.2.2.2.2.2.2.2.2.2.2.2.2.2.2.1 (.cons (clsV_ty "ArithmeticError" zArithmeticError rfl) ekUnknownName.2.2.2.2.2.2.2.2.2.2.2.2.2.2.2.2.2.2.2.2.2.1 (.cons (clsV_ty "IndexError" zIndexError rfl) ekUnknownName.2.2.2.2.2.2.2.2.2.2.2.2.2.2.2.2.2.2.2.2.2.2.1 (.cons (clsV_ty "KeyError" zKeyError rfl) ekUnknownName.2.2.2.2.2.2.2.2.2.2.2.2.2.2.2.2.2.2.2.2.2.2.2.1 (.cons (clsV_ty "LookupError" zLookupError rfl) ekUnknownName.2.2.2.2.2.2.2.2.2.2.2.2.2.2.2.2.2.2.2.2.2.2.2.2.1 (.cons (clsV_ty "ValueError" zValueError rfl) ekUnknownName.2.2.2.2.2.2.2.2.2.2.2.2.2.2.2.2.2.2.2.2.2.2.2.2.2.1 (.cons (clsV_ty "ZeroDivisionError" zZeroDivisionError rfl) ekUnknownName.2.2.2.2.2.2.2.2.2.2.2.2.2.2.2.2.2.2.2.2.2.2.2.2.2.2 .nil))))))))))))))))))))))))))))⟩)⟩)⟩)⟩)⟩)⟩)⟩)⟩)⟩)⟩)⟩)⟩)⟩)⟩)⟩)⟩)⟩)
    v_ArithmeticError := clsV_ty "ArithmeticError" zArithmeticError rfl
    v_Broken := ⟨_, clsV_of ibBroken, PySem.W.mg_of X G ibBroken⟩
    v_CannotBe := ⟨_, clsV_of ibCannotBe, PySem.W.mg_of X G ibCannotBe⟩
    v_InUse := ⟨_, clsV_of ibInUse, PySem.W.mg_of X G ibInUse⟩
    v_IndexError := clsV_ty "IndexError" zIndexError rfl
    v_InvalidClaim := ⟨_, clsV_of ibInvalidClaim, PySem.W.mg_of X G ibInvalidClaim⟩
    v_InvalidExchange := ⟨_, clsV_of ibInvalidExchange, PySem.W.mg_of X G ibInvalidExchange⟩
    v_InvalidHeap := ⟨_, clsV_of ibInvalidHeap, PySem.W.mg_of X G ibInvalidHeap⟩
    v_InvalidName := ⟨_, clsV_of ibInvalidName, PySem.W.mg_of X G ibInvalidName⟩
    v_InvalidNumber := ⟨_, clsV_of ibInvalidNumber, PySem.W.mg_of X G ibInvalidNumber⟩
    v_InvalidOrders := ⟨_, clsV_of ibInvalidOrders, PySem.W.mg_of X G ibInvalidOrders⟩
    v_InvalidPlace := ⟨_, clsV_of ibInvalidPlace, PySem.W.mg_of X G ibInvalidPlace⟩
    v_InvalidPlan := ⟨_, clsV_of ibInvalidPlan, PySem.W.mg_of X G ibInvalidPlan⟩
    v_InvalidRows := ⟨_, clsV_of ibInvalidRows, PySem.W.mg_of X G ibInvalidRows⟩
    v_InvalidText := ⟨_, clsV_of ibInvalidText, PySem.W.mg_of X G ibInvalidText⟩
    v_InvalidThings := ⟨_, clsV_of ibInvalidThings, PySem.W.mg_of X G ibInvalidThings⟩
    v_KeyError := clsV_ty "KeyError" zKeyError rfl
    v_LookupError := clsV_ty "LookupError" zLookupError rfl
    v_NotARow := ⟨_, clsV_of ibNotARow, PySem.W.mg_of X G ibNotARow⟩
    v_NotRight := ⟨_, clsV_of ibNotRight, PySem.W.mg_of X G ibNotRight⟩
    v_NotThere := ⟨_, clsV_of ibNotThere, PySem.W.mg_of X G ibNotThere⟩
    v_NothingToUndo := ⟨_, clsV_of ibNothingToUndo, PySem.W.mg_of X G ibNothingToUndo⟩
    v_OtherThings := ⟨_, clsV_of ibOtherThings, PySem.W.mg_of X G ibOtherThings⟩
    v_TooMany := ⟨_, clsV_of ibTooMany, PySem.W.mg_of X G ibTooMany⟩
    v_UnknownName := ⟨_, clsV_of ibUnknownName, PySem.W.mg_of X G ibUnknownName⟩
    v_ValueError := clsV_ty "ValueError" zValueError rfl
    v_ZeroDivisionError := clsV_ty "ZeroDivisionError" zZeroDivisionError rfl
    g_CannotBe := (PySem.W.mg_of X G hhCannotBe).trans (congrArg some (clsV_of hhCannotBe).symm)
    g_NotRight := (PySem.W.mg_of X G hhNotRight).trans (congrArg some (clsV_of hhNotRight).symm)
    g_NotThere := (PySem.W.mg_of X G hhNotThere).trans (congrArg some (clsV_of hhNotThere).symm)
    x_Broken := xBroken base
    x_InUse := xInUse base
    x_InvalidClaim := xInvalidClaim base
    x_InvalidExchange := xInvalidExchange base
    x_InvalidHeap := xInvalidHeap base
    x_InvalidName := xInvalidName base
    x_InvalidNumber := xInvalidNumber base
    x_InvalidOrders := xInvalidOrders base
    x_InvalidPlace := xInvalidPlace base
    x_InvalidPlan := xInvalidPlan base
    x_InvalidRows := xInvalidRows base
    x_InvalidText := xInvalidText base
    x_InvalidThings := xInvalidThings base
    x_NotARow := xNotARow base
    x_NothingToUndo := xNothingToUndo base
    x_OtherThings := xOtherThings base
    x_TooMany := xTooMany base
    x_UnknownName := xUnknownName base
    c_MOST_THINGS := ⟨_, PySem.W.mg_of X G q0, _, rfl⟩
    c_MOST_WALKED := ⟨_, PySem.W.mg_of X G q1, _, rfl⟩
    c_MOST_PRICED := ⟨_, PySem.W.mg_of X G q2, _, rfl⟩
    c_MOST_HEAP := ⟨_, PySem.W.mg_of X G q3, _, rfl⟩
    c_MOST_ROWS := ⟨_, PySem.W.mg_of X G q4, _, rfl⟩
    c_MOST_PLANNED := ⟨_, PySem.W.mg_of X G q5, _, rfl⟩
  }
  exact ⟨_, fun s v => .of_eq rfl, fun base _ _ => okd_mk F7 F_law (r_law (T base)) pl_law⟩
theorem noX (P : Program) (w : World) (H : Hp) (s : Shared) (e : Value) (s' : Shared) (h : L2N.CX P w [] H s (fun _ _ _ => False) e s') : False := by
  obtain ⟨_, _, _, _, _, _, _, _, _, h⟩ := h
  exact (by simpa using h)
theorem walk {l : PySem.W.OpenLaw} {q : Program} {loose : List Str} {XP : (Str → Option Value) → Heap → Prop} {YP : World → Heap → Prop} {d : DefRec} {K : Params → PySem.W.Frag} (hn : l.most = some 63) (hdf : d.params.defaults = [])
    (hY : ∀ (w : World) (h : Heap), YP w h → (K w.params).In h)
    (F : ∀ (w : World) (mg : Str → Option Value) (fa : Addr) (h : Heap), (K w.params).In h → h.Ns mainGlobals mg → mg d.name = some (.ref fa) →
      ∃ fd : FuncData, (∀ (s : Shared) (u : Value), BindsTo s fd ⟨[u], []⟩ [("_law_cells", u)]) ∧ ∀ base : Heap, (K w.params).In base → base.Ns mainGlobals mg → FnG l.prog w (K w.params) mg base (L2N.CX l.prog w) 3 fa fd ["_law_cells"] (@lift (mkW w) mkF (K w.params) 1 sp_law)) :
    PySem.W.WalkO q loose XP YP l.row.toRowW d [] (fun f vs => PySem.call f vs) :=
  walkG (n := 63) (k := 3) (x := "_law_cells") (CX := fun w => L2N.CX l.prog w) (sp := fun w => @lift (mkW w) mkF (K w.params) 1 sp_law) hn (by decide) hdf ⟨rfl, by decide, by decide⟩ hY F (fun w H a ns hl hO hS => @want_law (mkW w) mkF _ 63 _ rfl (fun _ => rfl) (@law_want (mkW w) mkF) H a ns hl hO hS) fun w H s e s' z => noX _ w H s e s' z
end DL
open PySem PySem.W PyProof.Rows in
set_option maxRecDepth 100000 in
set_option maxHeartbeats 0 in
theorem PySem.Challenge.cw_twostretches_k01_limits_and_errors_holds : PySem.Challenge.rw_twostretches_k01_limits_and_errors.Holds := by
  w_on; o_law; k_head; (case hw => w_witness2)
  k_fill
  refine DL.walk (l := PySem.Challenge.rw_twostretches_k01_limits_and_errors) rfl rfl (fun w h Y => PySem.W.kIn_of Y) ?F
  case F =>
    intro w mg fa h KX G hmg
    refine' DL.all_mk (l := PySem.Challenge.rw_twostretches_k01_limits_and_errors) KX G hmg ?a0 ?l0 ?c0 ?k0 ?a1 ?l1 ?c1 ?k1 ?a2 ?l2 ?c2 ?k2 ?a3 ?l3 ?c3 ?k3 ?a4 ?l4 ?c4 ?k4 ?a5 ?l5 ?c5 ?k5 ?a6 ?l6 ?c6 ?k6 ?a7 ?l7 ?c7 ?k7 ?zArithmeticError ?zIndexError ?zKeyError ?zLookupError ?zValueError ?zZeroDivisionError ?zint ?zisinstance ?zlen ?zrange ?zrepr ?q0 ?q1 ?q2 ?q3 ?q4 ?q5 ?ekH ?xkH ?ibBroken ?ibCannotBe ?ibInUse ?ibInvalidClaim ?ibInvalidExchange ?ibInvalidHeap ?ibInvalidName ?ibInvalidNumber ?ibInvalidOrders ?ibInvalidPlace ?ibInvalidPlan ?ibInvalidRows ?ibInvalidText ?ibInvalidThings ?ibNotARow ?ibNotRight ?ibNotThere ?ibNothingToUndo ?ibOtherThings ?ibTooMany ?ibUnknownName ?eqA ?eqB ?erBroken ?erInUse ?erInvalidClaim ?erInvalidExchange ?erInvalidHeap ?erInvalidName ?erInvalidNumber ?erInvalidOrders ?erInvalidPlace ?erInvalidPlan ?erInvalidRows ?erInvalidText ?erInvalidThings ?erNotARow ?erNothingToUndo ?erOtherThings ?erTooMany ?erUnknownName ?ekBroken ?ekInUse ?ekInvalidClaim ?ekInvalidExchange ?ekInvalidHeap ?ekInvalidName ?ekInvalidNumber ?ekInvalidOrders ?ekInvalidPlace ?ekInvalidPlan ?ekInvalidRows ?ekInvalidText ?ekInvalidThings ?ekNotARow ?ekNothingToUndo ?ekOtherThings ?ekTooMany ?ekUnknownName ?hhCannotBe ?hhNotRight ?hhNotThere ?xBroken ?xInUse ?xInvalidClaim ?xInvalidExchange ?xInvalidHeap ?xInvalidName ?xInvalidNumber ?xInvalidOrders ?xInvalidPlace ?xInvalidPlan ?xInvalidRows ?xInvalidText ?xInvalidThings ?xNotARow ?xNothingToUndo ?xOtherThings ?xTooMany ?xUnknownName
    (case a0 => k_is)
    (case l0 => k_is)
    (case c0 => k_is)
    (case k0 => k_is)
    (case a1 => k_is)
    (case l1 => k_is)
    (case c1 => k_is)
    (case k1 => k_is)
    (case a2 => k_is)
    (case l2 => k_is)
    (case c2 => k_is)
    (case k2 => k_is)
    (case a3 => k_is)
    (case l3 => k_is)
    (case c3 => k_is)
    (case k3 => k_is)
    (case a4 => k_is)
    (case l4 => k_is)
    (case c4 => k_is)
    (case k4 => k_is)
    (case a5 => k_is)
    (case l5 => k_is)
    (case c5 => k_is)
    (case k5 => k_is)
    (case a6 => k_is)
    (case l6 => k_is)
    (case c6 => k_is)
    (case k6 => k_is)
    (case a7 => k_is)
    (case l7 => k_is)
    (case c7 => k_is)
    (case k7 => k_is)
    (case zArithmeticError => k_is)
    (case zIndexError => k_is)
    (case zKeyError => k_is)
    (case zLookupError => k_is)
    (case zValueError => k_is)
    (case zZeroDivisionError => k_is)
    (case zint => k_is)
    (case zisinstance => k_is)
    (case zlen => k_is)
    (case zrange => k_is)
    (case zrepr => k_is)
    (case q0 => k_is)
    (case q1 => k_is)
    (case q2 => k_is)
    (case q3 => k_is)
    (case q4 => k_is)
    (case q5 => k_is)
    (case ekH => intro p hp; simp only [DL.exsL, List.mem_cons, List.not_mem_nil, or_false] at hp; rcases hp with rfl | rfl | rfl | rfl | rfl | rfl | rfl | rfl | rfl | rfl | rfl | rfl | rfl | rfl | rfl | rfl | rfl | rfl | rfl | rfl | rfl | rfl | rfl | rfl | rfl | rfl | rfl | rfl | rfl | rfl | rfl | rfl | rfl | rfl | rfl | rfl | rfl | rfl | rfl | rfl | rfl | rfl | rfl | rfl | rfl | rfl | rfl | rfl | rfl | rfl | rfl | rfl | rfl | rfl | rfl | rfl | rfl | rfl | rfl | rfl | rfl | rfl | rfl <;> (refine' DL.ex1 ?yya ?yyb ?yyc; (case yya => k_is); (case yyb => k_is); (case yyc => first | kts_exm | k_is)))
    (case xkH => intro p hp; simp only [DL.exfL, List.mem_cons, List.not_mem_nil, or_false] at hp; rcases hp with rfl | rfl | rfl | rfl | rfl | rfl | rfl | rfl | rfl | rfl | rfl | rfl | rfl | rfl | rfl | rfl | rfl <;> (refine' DL.xf1 ?yya ?yyb ?yyc ?yyd ?yye ?yyf; (case yya => k_is); (case yyb => k_is); (case yyc => k_is); (case yyd => k_is); (case yye => k_is); (case yyf => k_is)))
    (case ibBroken => k_is)
    (case ibCannotBe => k_is)
    (case ibInUse => k_is)
    (case ibInvalidClaim => k_is)
    (case ibInvalidExchange => k_is)
    (case ibInvalidHeap => k_is)
    (case ibInvalidName => k_is)
    (case ibInvalidNumber => k_is)
    (case ibInvalidOrders => k_is)
    (case ibInvalidPlace => k_is)
    (case ibInvalidPlan => k_is)
    (case ibInvalidRows => k_is)
    (case ibInvalidText => k_is)
    (case ibInvalidThings => k_is)
    (case ibNotARow => k_is)
    (case ibNotRight => k_is)
    (case ibNotThere => k_is)
    (case ibNothingToUndo => k_is)
    (case ibOtherThings => k_is)
    (case ibTooMany => k_is)
    (case ibUnknownName => k_is)
    (case eqA => k_is)
    (case eqB => k_is)
    (case erBroken => refine' DL.eiC_of ?yya ?yyb ?yyc ?yyd ?yye ?yyf ?yyg; (case yya => k_is); (case yyb => k_is); (case yyc => k_is); (case yyd => k_is); (case yye => k_is); (case yyf => k_is); (case yyg => k_is))
    (case erInUse => refine' DL.eiC_of ?yya ?yyb ?yyc ?yyd ?yye ?yyf ?yyg; (case yya => k_is); (case yyb => k_is); (case yyc => k_is); (case yyd => k_is); (case yye => k_is); (case yyf => k_is); (case yyg => k_is))
    (case erInvalidClaim => refine' DL.eiC_of ?yya ?yyb ?yyc ?yyd ?yye ?yyf ?yyg; (case yya => k_is); (case yyb => k_is); (case yyc => k_is); (case yyd => k_is); (case yye => k_is); (case yyf => k_is); (case yyg => k_is))
    (case erInvalidExchange => refine' DL.eiC_of ?yya ?yyb ?yyc ?yyd ?yye ?yyf ?yyg; (case yya => k_is); (case yyb => k_is); (case yyc => k_is); (case yyd => k_is); (case yye => k_is); (case yyf => k_is); (case yyg => k_is))
    (case erInvalidHeap => refine' DL.eiC_of ?yya ?yyb ?yyc ?yyd ?yye ?yyf ?yyg; (case yya => k_is); (case yyb => k_is); (case yyc => k_is); (case yyd => k_is); (case yye => k_is); (case yyf => k_is); (case yyg => k_is))
    (case erInvalidName => refine' DL.eiC_of ?yya ?yyb ?yyc ?yyd ?yye ?yyf ?yyg; (case yya => k_is); (case yyb => k_is); (case yyc => k_is); (case yyd => k_is); (case yye => k_is); (case yyf => k_is); (case yyg => k_is))
    (case erInvalidNumber => refine' DL.eiC_of ?yya ?yyb ?yyc ?yyd ?yye ?yyf ?yyg; (case yya => k_is); (case yyb => k_is); (case yyc => k_is); (case yyd => k_is); (case yye => k_is); (case yyf => k_is); (case yyg => k_is))
    (case erInvalidOrders => refine' DL.eiC_of ?yya ?yyb ?yyc ?yyd ?yye ?yyf ?yyg; (case yya => k_is); (case yyb => k_is); (case yyc => k_is); (case yyd => k_is); (case yye => k_is); (case yyf => k_is); (case yyg => k_is))
    (case erInvalidPlace => refine' DL.eiC_of ?yya ?yyb ?yyc ?yyd ?yye ?yyf ?yyg; (case yya => k_is); (case yyb => k_is); (case yyc => k_is); (case yyd => k_is); (case yye => k_is); (case yyf => k_is); (case yyg => k_is))
    (case erInvalidPlan => refine' DL.eiC_of ?yya ?yyb ?yyc ?yyd ?yye ?yyf ?yyg; (case yya => k_is); (case yyb => k_is); (case yyc => k_is); (case yyd => k_is); (case yye => k_is); (case yyf => k_is); (case yyg => k_is))
    (case erInvalidRows => refine' DL.eiC_of ?yya ?yyb ?yyc ?yyd ?yye ?yyf ?yyg; (case yya => k_is); (case yyb => k_is); (case yyc => k_is); (case yyd => k_is); (case yye => k_is); (case yyf => k_is); (case yyg => k_is))
    (case erInvalidText => refine' DL.eiC_of ?yya ?yyb ?yyc ?yyd ?yye ?yyf ?yyg; (case yya => k_is); (case yyb => k_is); (case yyc => k_is); (case yyd => k_is); (case yye => k_is); (case yyf => k_is); (case yyg => k_is))
    (case erInvalidThings => refine' DL.eiC_of ?yya ?yyb ?yyc ?yyd ?yye ?yyf ?yyg; (case yya => k_is); (case yyb => k_is); (case yyc => k_is); (case yyd => k_is); (case yye => k_is); (case yyf => k_is); (case yyg => k_is))
    (case erNotARow => refine' DL.eiC_of ?yya ?yyb ?yyc ?yyd ?yye ?yyf ?yyg; (case yya => k_is); (case yyb => k_is); (case yyc => k_is); (case yyd => k_is); (case yye => k_is); (case yyf => k_is); (case yyg => k_is))
    (case erNothingToUndo => refine' DL.eiC_of ?yya ?yyb ?yyc ?yyd ?yye ?yyf ?yyg; (case yya => k_is); (case yyb => k_is); (case yyc => k_is); (case yyd => k_is); (case yye => k_is); (case yyf => k_is); (case yyg => k_is))
    (case erOtherThings => refine' DL.eiC_of ?yya ?yyb ?yyc ?yyd ?yye ?yyf ?yyg; (case yya => k_is); (case yyb => k_is); (case yyc => k_is); (case yyd => k_is); (case yye => k_is); (case yyf => k_is); (case yyg => k_is))
    (case erTooMany => refine' DL.eiC_of ?yya ?yyb ?yyc ?yyd ?yye ?yyf ?yyg; (case yya => k_is); (case yyb => k_is); (case yyc => k_is); (case yyd => k_is); (case yye => k_is); (case yyf => k_is); (case yyg => k_is))
    (case erUnknownName => refine' DL.eiC_of ?yya ?yyb ?yyc ?yyd ?yye ?yyf ?yyg; (case yya => k_is); (case yyb => k_is); (case yyc => k_is); (case yyd => k_is); (case yye => k_is); (case yyf => k_is); (case yyg => k_is))
    (case ekBroken => refine' ⟨?yyr0, ?yyr1, ?yyr2, ?yyr3, ?yyr4, ?yyr5, ?yyr6, ?yyr7, ?yyr8, ?yyr9, ?yyr10, ?yyr11, ?yyr12, ?yyr13, ?yyr14, ?yyr15, ?yyr16, ?yyr17, ?yyr18, ?yyr19, ?yyr20, ?yyr21, ?yyr22, ?yyr23, ?yyr24, ?yyr25, ?yyr26⟩; (case yyr0 => first | kit_is | k_is); (case yyr1 => first | kit_is | k_is); (case yyr2 => first | kit_is | k_is); (case yyr3 => first | kit_is | k_is); (case yyr4 => first | kit_is | k_is); (case yyr5 => first | kit_is | k_is); (case yyr6 => first | kit_is | k_is); (case yyr7 => first | kit_is | k_is); (case yyr8 => first | kit_is | k_is); (case yyr9 => first | kit_is | k_is); (case yyr10 => first | kit_is | k_is); (case yyr11 => first | kit_is | k_is); (case yyr12 => first | kit_is | k_is); (case yyr13 => first | kit_is | k_is); (case yyr14 => first | kit_is | k_is); (case yyr15 => first | kit_is | k_is); (case yyr16 => first | kit_is | k_is); (case yyr17 => first | kit_is | k_is); (case yyr18 => first | kit_is | k_is); (case yyr19 => first | kit_is | k_is); (case yyr20 => first | kit_is | k_is); (case yyr21 => first | kit_is | k_is); (case yyr22 => first | kit_is | k_is); (case yyr23 => first | kit_is | k_is); (case yyr24 => first | kit_is | k_is); (case yyr25 => first | kit_is | k_is); (case yyr26 => first | kit_is | k_is))
    (case ekInUse => refine' ⟨?yyr0, ?yyr1, ?yyr2, ?yyr3, ?yyr4, ?yyr5, ?yyr6, ?yyr7, ?yyr8, ?yyr9, ?yyr10, ?yyr11, ?yyr12, ?yyr13, ?yyr14, ?yyr15, ?yyr16, ?yyr17, ?yyr18, ?yyr19, ?yyr20, ?yyr21, ?yyr22, ?yyr23, ?yyr24, ?yyr25, ?yyr26⟩; (case yyr0 => first | kit_is | k_is); (case yyr1 => first | kit_is | k_is); (case yyr2 => first | kit_is | k_is); (case yyr3 => first | kit_is | k_is); (case yyr4 => first | kit_is | k_is); (case yyr5 => first | kit_is | k_is); (case yyr6 => first | kit_is | k_is); (case yyr7 => first | kit_is | k_is); (case yyr8 => first | kit_is | k_is); (case yyr9 => first | kit_is | k_is); (case yyr10 => first | kit_is | k_is); (case yyr11 => first | kit_is | k_is); (case yyr12 => first | kit_is | k_is); (case yyr13 => first | kit_is | k_is); (case yyr14 => first | kit_is | k_is); (case yyr15 => first | kit_is | k_is); (case yyr16 => first | kit_is | k_is); (case yyr17 => first | kit_is | k_is); (case yyr18 => first | kit_is | k_is); (case yyr19 => first | kit_is | k_is); (case yyr20 => first | kit_is | k_is); (case yyr21 => first | kit_is | k_is); (case yyr22 => first | kit_is | k_is); (case yyr23 => first | kit_is | k_is); (case yyr24 => first | kit_is | k_is); (case yyr25 => first | kit_is | k_is); (case yyr26 => first | kit_is | k_is))
    (case ekInvalidClaim => refine' ⟨?yyr0, ?yyr1, ?yyr2, ?yyr3, ?yyr4, ?yyr5, ?yyr6, ?yyr7, ?yyr8, ?yyr9, ?yyr10, ?yyr11, ?yyr12, ?yyr13, ?yyr14, ?yyr15, ?yyr16, ?yyr17, ?yyr18, ?yyr19, ?yyr20, ?yyr21, ?yyr22, ?yyr23, ?yyr24, ?yyr25, ?yyr26⟩; (case yyr0 => first | kit_is | k_is); (case yyr1 => first | kit_is | k_is); (case yyr2 => first | kit_is | k_is); (case yyr3 => first | kit_is | k_is); (case yyr4 => first | kit_is | k_is); (case yyr5 => first | kit_is | k_is); (case yyr6 => first | kit_is | k_is); (case yyr7 => first | kit_is | k_is); (case yyr8 => first | kit_is | k_is); (case yyr9 => first | kit_is | k_is); (case yyr10 => first | kit_is | k_is); (case yyr11 => first | kit_is | k_is); (case yyr12 => first | kit_is | k_is); (case yyr13 => first | kit_is | k_is); (case yyr14 => first | kit_is | k_is); (case yyr15 => first | kit_is | k_is); (case yyr16 => first | kit_is | k_is); (case yyr17 => first | kit_is | k_is); (case yyr18 => first | kit_is | k_is); (case yyr19 => first | kit_is | k_is); (case yyr20 => first | kit_is | k_is); (case yyr21 => first | kit_is | k_is); (case yyr22 => first | kit_is | k_is); (case yyr23 => first | kit_is | k_is); (case yyr24 => first | kit_is | k_is); (case yyr25 => first | kit_is | k_is); (case yyr26 => first | kit_is | k_is))
    (case ekInvalidExchange => refine' ⟨?yyr0, ?yyr1, ?yyr2, ?yyr3, ?yyr4, ?yyr5, ?yyr6, ?yyr7, ?yyr8, ?yyr9, ?yyr10, ?yyr11, ?yyr12, ?yyr13, ?yyr14, ?yyr15, ?yyr16, ?yyr17, ?yyr18, ?yyr19, ?yyr20, ?yyr21, ?yyr22, ?yyr23, ?yyr24, ?yyr25, ?yyr26⟩; (case yyr0 => first | kit_is | k_is); (case yyr1 => first | kit_is | k_is); (case yyr2 => first | kit_is | k_is); (case yyr3 => first | kit_is | k_is); (case yyr4 => first | kit_is | k_is); (case yyr5 => first | kit_is | k_is); (case yyr6 => first | kit_is | k_is); (case yyr7 => first | kit_is | k_is); (case yyr8 => first | kit_is | k_is); (case yyr9 => first | kit_is | k_is); (case yyr10 => first | kit_is | k_is); (case yyr11 => first | kit_is | k_is); (case yyr12 => first | kit_is | k_is); (case yyr13 => first | kit_is | k_is); (case yyr14 => first | kit_is | k_is); (case yyr15 => first | kit_is | k_is); (case yyr16 => first | kit_is | k_is); (case yyr17 => first | kit_is | k_is); (case yyr18 => first | kit_is | k_is); (case yyr19 => first | kit_is | k_is); (case yyr20 => first | kit_is | k_is); (case yyr21 => first | kit_is | k_is); (case yyr22 => first | kit_is | k_is); (case yyr23 => first | kit_is | k_is); (case yyr24 => first | kit_is | k_is); (case yyr25 => first | kit_is | k_is); (case yyr26 => first | kit_is | k_is))
    (case ekInvalidHeap => refine' ⟨?yyr0, ?yyr1, ?yyr2, ?yyr3, ?yyr4, ?yyr5, ?yyr6, ?yyr7, ?yyr8, ?yyr9, ?yyr10, ?yyr11, ?yyr12, ?yyr13, ?yyr14, ?yyr15, ?yyr16, ?yyr17, ?yyr18, ?yyr19, ?yyr20, ?yyr21, ?yyr22, ?yyr23, ?yyr24, ?yyr25, ?yyr26⟩; (case yyr0 => first | kit_is | k_is); (case yyr1 => first | kit_is | k_is); (case yyr2 => first | kit_is | k_is); (case yyr3 => first | kit_is | k_is); (case yyr4 => first | kit_is | k_is); (case yyr5 => first | kit_is | k_is); (case yyr6 => first | kit_is | k_is); (case yyr7 => first | kit_is | k_is); (case yyr8 => first | kit_is | k_is); (case yyr9 => first | kit_is | k_is); (case yyr10 => first | kit_is | k_is); (case yyr11 => first | kit_is | k_is); (case yyr12 => first | kit_is | k_is); (case yyr13 => first | kit_is | k_is); (case yyr14 => first | kit_is | k_is); (case yyr15 => first | kit_is | k_is); (case yyr16 => first | kit_is | k_is); (case yyr17 => first | kit_is | k_is); (case yyr18 => first | kit_is | k_is); (case yyr19 => first | kit_is | k_is); (case yyr20 => first | kit_is | k_is); (case yyr21 => first | kit_is | k_is); (case yyr22 => first | kit_is | k_is); (case yyr23 => first | kit_is | k_is); (case yyr24 => first | kit_is | k_is); (case yyr25 => first | kit_is | k_is); (case yyr26 => first | kit_is | k_is))
    (case ekInvalidName => refine' ⟨?yyr0, ?yyr1, ?yyr2, ?yyr3, ?yyr4, ?yyr5, ?yyr6, ?yyr7, ?yyr8, ?yyr9, ?yyr10, ?yyr11, ?yyr12, ?yyr13, ?yyr14, ?yyr15, ?yyr16, ?yyr17, ?yyr18, ?yyr19, ?yyr20, ?yyr21, ?yyr22, ?yyr23, ?yyr24, ?yyr25, ?yyr26⟩; (case yyr0 => first | kit_is | k_is); (case yyr1 => first | kit_is | k_is); (case yyr2 => first | kit_is | k_is); (case yyr3 => first | kit_is | k_is); (case yyr4 => first | kit_is | k_is); (case yyr5 => first | kit_is | k_is); (case yyr6 => first | kit_is | k_is); (case yyr7 => first | kit_is | k_is); (case yyr8 => first | kit_is | k_is); (case yyr9 => first | kit_is | k_is); (case yyr10 => first | kit_is | k_is); (case yyr11 => first | kit_is | k_is); (case yyr12 => first | kit_is | k_is); (case yyr13 => first | kit_is | k_is); (case yyr14 => first | kit_is | k_is); (case yyr15 => first | kit_is | k_is); (case yyr16 => first | kit_is | k_is); (case yyr17 => first | kit_is | k_is); (case yyr18 => first | kit_is | k_is); (case yyr19 => first | kit_is | k_is); (case yyr20 => first | kit_is | k_is); (case yyr21 => first | kit_is | k_is); (case yyr22 => first | kit_is | k_is); (case yyr23 => first | kit_is | k_is); (case yyr24 => first | kit_is | k_is); (case yyr25 => first | kit_is | k_is); (case yyr26 => first | kit_is | k_is))
    (case ekInvalidNumber => refine' ⟨?yyr0, ?yyr1, ?yyr2, ?yyr3, ?yyr4, ?yyr5, ?yyr6, ?yyr7, ?yyr8, ?yyr9, ?yyr10, ?yyr11, ?yyr12, ?yyr13, ?yyr14, ?yyr15, ?yyr16, ?yyr17, ?yyr18, ?yyr19, ?yyr20, ?yyr21, ?yyr22, ?yyr23, ?yyr24, ?yyr25, ?yyr26⟩; (case yyr0 => first | kit_is | k_is); (case yyr1 => first | kit_is | k_is); (case yyr2 => first | kit_is | k_is); (case yyr3 => first | kit_is | k_is); (case yyr4 => first | kit_is | k_is); (case yyr5 => first | kit_is | k_is); (case yyr6 => first | kit_is | k_is); (case yyr7 => first | kit_is | k_is); (case yyr8 => first | kit_is | k_is); (case yyr9 => first | kit_is | k_is); (case yyr10 => first | kit_is | k_is); (case yyr11 => first | kit_is | k_is); (case yyr12 => first | kit_is | k_is); (case yyr13 => first | kit_is | k_is); (case yyr14 => first | kit_is | k_is); (case yyr15 => first | kit_is | k_is); (case yyr16 => first | kit_is | k_is); (case yyr17 => first | kit_is | k_is); (case yyr18 => first | kit_is | k_is); (case yyr19 => first | kit_is | k_is); (case yyr20 => first | kit_is | k_is); (case yyr21 => first | kit_is | k_is); (case yyr22 => first | kit_is | k_is); (case yyr23 => first | kit_is | k_is); (case yyr24 => first | kit_is | k_is); (case yyr25 => first | kit_is | k_is); (case yyr26 => first | kit_is | k_is))
    (case ekInvalidOrders => refine' ⟨?yyr0, ?yyr1, ?yyr2, ?yyr3, ?yyr4, ?yyr5, ?yyr6, ?yyr7, ?yyr8, ?yyr9, ?yyr10, ?yyr11, ?yyr12, ?yyr13, ?yyr14, ?yyr15, ?yyr16, ?yyr17, ?yyr18, ?yyr19, ?yyr20, ?yyr21, ?yyr22, ?yyr23, ?yyr24, ?yyr25, ?yyr26⟩; (case yyr0 => first | kit_is | k_is); (case yyr1 => first | kit_is | k_is); (case yyr2 => first | kit_is | k_is); (case yyr3 => first | kit_is | k_is); (case yyr4 => first | kit_is | k_is); (case yyr5 => first | kit_is | k_is); (case yyr6 => first | kit_is | k_is); (case yyr7 => first | kit_is | k_is); (case yyr8 => first | kit_is | k_is); (case yyr9 => first | kit_is | k_is); (case yyr10 => first | kit_is | k_is); (case yyr11 => first | kit_is | k_is); (case yyr12 => first | kit_is | k_is); (case yyr13 => first | kit_is | k_is); (case yyr14 => first | kit_is | k_is); (case yyr15 => first | kit_is | k_is); (case yyr16 => first | kit_is | k_is); (case yyr17 => first | kit_is | k_is); (case yyr18 => first | kit_is | k_is); (case yyr19 => first | kit_is | k_is); (case yyr20 => first | kit_is | k_is); (case yyr21 => first | kit_is | k_is); (case yyr22 => first | kit_is | k_is); (case yyr23 => first | kit_is | k_is); (case yyr24 => first | kit_is | k_is); (case yyr25 => first | kit_is | k_is); (case yyr26 => first | kit_is | k_is))
    (case ekInvalidPlace => refine' ⟨?yyr0, ?yyr1, ?yyr2, ?yyr3, ?yyr4, ?yyr5, ?yyr6, ?yyr7, ?yyr8, ?yyr9, ?yyr10, ?yyr11, ?yyr12, ?yyr13, ?yyr14, ?yyr15, ?yyr16, ?yyr17, ?yyr18, ?yyr19, ?yyr20, ?yyr21, ?yyr22, ?yyr23, ?yyr24, ?yyr25, ?yyr26⟩; (case yyr0 => first | kit_is | k_is); (case yyr1 => first | kit_is | k_is); (case yyr2 => first | kit_is | k_is); (case yyr3 => first | kit_is | k_is); (case yyr4 => first | kit_is | k_is); (case yyr5 => first | kit_is | k_is); (case yyr6 => first | kit_is | k_is); (case yyr7 => first | kit_is | k_is); (case yyr8 => first | kit_is | k_is); (case yyr9 => first | kit_is | k_is); (case yyr10 => first | kit_is | k_is); (case yyr11 => first | kit_is | k_is); (case yyr12 => first | kit_is | k_is); (case yyr13 => first | kit_is | k_is); (case yyr14 => first | kit_is | k_is); (case yyr15 => first | kit_is | k_is); (case yyr16 => first | kit_is | k_is); (case yyr17 => first | kit_is | k_is); (case yyr18 => first | kit_is | k_is); (case yyr19 => first | kit_is | k_is); (case yyr20 => first | kit_is | k_is); (case yyr21 => first | kit_is | k_is); (case yyr22 => first | kit_is | k_is); (case yyr23 => first | kit_is | k_is); (case yyr24 => first | kit_is | k_is); (case yyr25 => first | kit_is | k_is); (case yyr26 => first | kit_is | k_is))
    (case ekInvalidPlan => refine' ⟨?yyr0, ?yyr1, ?yyr2, ?yyr3, ?yyr4, ?yyr5, ?yyr6, ?yyr7, ?yyr8, ?yyr9, ?yyr10, ?yyr11, ?yyr12, ?yyr13, ?yyr14, ?yyr15, ?yyr16, ?yyr17, ?yyr18, ?yyr19, ?yyr20, ?yyr21, ?yyr22, ?yyr23, ?yyr24, ?yyr25, ?yyr26⟩; (case yyr0 => first | kit_is | k_is); (case yyr1 => first | kit_is | k_is); (case yyr2 => first | kit_is | k_is); (case yyr3 => first | kit_is | k_is); (case yyr4 => first | kit_is | k_is); (case yyr5 => first | kit_is | k_is); (case yyr6 => first | kit_is | k_is); (case yyr7 => first | kit_is | k_is); (case yyr8 => first | kit_is | k_is); (case yyr9 => first | kit_is | k_is); (case yyr10 => first | kit_is | k_is); (case yyr11 => first | kit_is | k_is); (case yyr12 => first | kit_is | k_is); (case yyr13 => first | kit_is | k_is); (case yyr14 => first | kit_is | k_is); (case yyr15 => first | kit_is | k_is); (case yyr16 => first | kit_is | k_is); (case yyr17 => first | kit_is | k_is); (case yyr18 => first | kit_is | k_is); (case yyr19 => first | kit_is | k_is); (case yyr20 => first | kit_is | k_is); (case yyr21 => first | kit_is | k_is); (case yyr22 => first | kit_is | k_is); (case yyr23 => first | kit_is | k_is); (case yyr24 => first | kit_is | k_is); (case yyr25 => first | kit_is | k_is); (case yyr26 => first | kit_is | k_is))
    (case ekInvalidRows => refine' ⟨?yyr0, ?yyr1, ?yyr2, ?yyr3, ?yyr4, ?yyr5, ?yyr6, ?yyr7, ?yyr8, ?yyr9, ?yyr10, ?yyr11, ?yyr12, ?yyr13, ?yyr14, ?yyr15, ?yyr16, ?yyr17, ?yyr18, ?yyr19, ?yyr20, ?yyr21, ?yyr22, ?yyr23, ?yyr24, ?yyr25, ?yyr26⟩; (case yyr0 => first | kit_is | k_is); (case yyr1 => first | kit_is | k_is); (case yyr2 => first | kit_is | k_is); (case yyr3 => first | kit_is | k_is); (case yyr4 => first | kit_is | k_is); (case yyr5 => first | kit_is | k_is); (case yyr6 => first | kit_is | k_is); (case yyr7 => first | kit_is | k_is); (case yyr8 => first | kit_is | k_is); (case yyr9 => first | kit_is | k_is); (case yyr10 => first | kit_is | k_is); (case yyr11 => first | kit_is | k_is); (case yyr12 => first | kit_is | k_is); (case yyr13 => first | kit_is | k_is); (case yyr14 => first | kit_is | k_is); (case yyr15 => first | kit_is | k_is); (case yyr16 => first | kit_is | k_is); (case yyr17 => first | kit_is | k_is); (case yyr18 => first | kit_is | k_is); (case yyr19 => first | kit_is | k_is); (case yyr20 => first | kit_is | k_is); (case yyr21 => first | kit_is | k_is); (case yyr22 => first | kit_is | k_is); (case yyr23 => first | kit_is | k_is); (case yyr24 => first | kit_is | k_is); (case yyr25 => first | kit_is | k_is); (case yyr26 => first | kit_is | k_is))
    (case ekInvalidText => refine' ⟨?yyr0, ?yyr1, ?yyr2, ?yyr3, ?yyr4, ?yyr5, ?yyr6, ?yyr7, ?yyr8, ?yyr9, ?yyr10, ?yyr11, ?yyr12, ?yyr13, ?yyr14, ?yyr15, ?yyr16, ?yyr17, ?yyr18, ?yyr19, ?yyr20, ?yyr21, ?yyr22, ?yyr23, ?yyr24, ?yyr25, ?yyr26⟩; (case yyr0 => first | kit_is | k_is); (case yyr1 => first | kit_is | k_is); (case yyr2 => first | kit_is | k_is); (case yyr3 => first | kit_is | k_is); (case yyr4 => first | kit_is | k_is); (case yyr5 => first | kit_is | k_is); (case yyr6 => first | kit_is | k_is); (case yyr7 => first | kit_is | k_is); (case yyr8 => first | kit_is | k_is); (case yyr9 => first | kit_is | k_is); (case yyr10 => first | kit_is | k_is); (case yyr11 => first | kit_is | k_is); (case yyr12 => first | kit_is | k_is); (case yyr13 => first | kit_is | k_is); (case yyr14 => first | kit_is | k_is); (case yyr15 => first | kit_is | k_is); (case yyr16 => first | kit_is | k_is); (case yyr17 => first | kit_is | k_is); (case yyr18 => first | kit_is | k_is); (case yyr19 => first | kit_is | k_is); (case yyr20 => first | kit_is | k_is); (case yyr21 => first | kit_is | k_is); (case yyr22 => first | kit_is | k_is); (case yyr23 => first | kit_is | k_is); (case yyr24 => first | kit_is | k_is); (case yyr25 => first | kit_is | k_is); (case yyr26 => first | kit_is | k_is))
    (case ekInvalidThings => refine' ⟨?yyr0, ?yyr1, ?yyr2, ?yyr3, ?yyr4, ?yyr5, ?yyr6, ?yyr7, ?yyr8, ?yyr9, ?yyr10, ?yyr11, ?yyr12, ?yyr13, ?yyr14, ?yyr15, ?yyr16, ?yyr17, ?yyr18, ?yyr19, ?yyr20, ?yyr21, ?yyr22, ?yyr23, ?yyr24, ?yyr25, ?yyr26⟩; (case yyr0 => first | kit_is | k_is); (case yyr1 => first | kit_is | k_is); (case yyr2 => first | kit_is | k_is); (case yyr3 => first | kit_is | k_is); (case yyr4 => first | kit_is | k_is); (case yyr5 => first | kit_is | k_is); (case yyr6 => first | kit_is | k_is); (case yyr7 => first | kit_is | k_is); (case yyr8 => first | kit_is | k_is); (case yyr9 => first | kit_is | k_is); (case yyr10 => first | kit_is | k_is); (case yyr11 => first | kit_is | k_is); (case yyr12 => first | kit_is | k_is); (case yyr13 => first | kit_is | k_is); (case yyr14 => first | kit_is | k_is); (case yyr15 => first | kit_is | k_is); (case yyr16 => first | kit_is | k_is); (case yyr17 => first | kit_is | k_is); (case yyr18 => first | kit_is | k_is); (case yyr19 => first | kit_is | k_is); (case yyr20 => first | kit_is | k_is); (case yyr21 => first | kit_is | k_is); (case yyr22 => first | kit_is | k_is); (case yyr23 => first | kit_is | k_is); (case yyr24 => first | kit_is | k_is); (case yyr25 => first | kit_is | k_is); (case yyr26 => first | kit_is | k_is))
    (case ekNotARow => refine' ⟨?yyr0, ?yyr1, ?yyr2, ?yyr3, ?yyr4, ?yyr5, ?yyr6, ?yyr7, ?yyr8, ?yyr9, ?yyr10, ?yyr11, ?yyr12, ?yyr13, ?yyr14, ?yyr15, ?yyr16, ?yyr17, ?yyr18, ?yyr19, ?yyr20, ?yyr21, ?yyr22, ?yyr23, ?yyr24, ?yyr25, ?yyr26⟩; (case yyr0 => first | kit_is | k_is); (case yyr1 => first | kit_is | k_is); (case yyr2 => first | kit_is | k_is); (case yyr3 => first | kit_is | k_is); (case yyr4 => first | kit_is | k_is); (case yyr5 => first | kit_is | k_is); (case yyr6 => first | kit_is | k_is); (case yyr7 => first | kit_is | k_is); (case yyr8 => first | kit_is | k_is); (case yyr9 => first | kit_is | k_is); (case yyr10 => first | kit_is | k_is); (case yyr11 => first | kit_is | k_is); (case yyr12 => first | kit_is | k_is); (case yyr13 => first | kit_is | k_is); (case yyr14 => first | kit_is | k_is); (case yyr15 => first | kit_is | k_is); (case yyr16 => first | kit_is | k_is); (case yyr17 => first | kit_is | k_is); (case yyr18 => first | kit_is | k_is); (case yyr19 => first | kit_is | k_is); (case yyr20 => first | kit_is | k_is); (case yyr21 => first | kit_is | k_is); (case yyr22 => first | kit_is | k_is); (case yyr23 => first | kit_is | k_is); (case yyr24 => first | kit_is | k_is); (case yyr25 => first | kit_is | k_is); (case yyr26 => first | kit_is | k_is))
    (case ekNothingToUndo => refine' ⟨?yyr0, ?yyr1, ?yyr2, ?yyr3, ?yyr4, ?yyr5, ?yyr6, ?yyr7, ?yyr8, ?yyr9, ?yyr10, ?yyr11, ?yyr12, ?yyr13, ?yyr14, ?yyr15, ?yyr16, ?yyr17, ?yyr18, ?yyr19, ?yyr20, ?yyr21, ?yyr22, ?yyr23, ?yyr24, ?yyr25, ?yyr26⟩; (case yyr0 => first | kit_is | k_is); (case yyr1 => first | kit_is | k_is); (case yyr2 => first | kit_is | k_is); (case yyr3 => first | kit_is | k_is); (case yyr4 => first | kit_is | k_is); (case yyr5 => first | kit_is | k_is); (case yyr6 => first | kit_is | k_is); (case yyr7 => first | kit_is | k_is); (case yyr8 => first | kit_is | k_is); (case yyr9 => first | kit_is | k_is); (case yyr10 => first | kit_is | k_is); (case yyr11 => first | kit_is | k_is); (case yyr12 => first | kit_is | k_is); (case yyr13 => first | kit_is | k_is); (case yyr14 => first | kit_is | k_is); (case yyr15 => first | kit_is | k_is); (case yyr16 => first | kit_is | k_is); (case yyr17 => first | kit_is | k_is); (case yyr18 => first | kit_is | k_is); (case yyr19 => first | kit_is | k_is); (case yyr20 => first | kit_is | k_is); (case yyr21 => first | kit_is | k_is); (case yyr22 => first | kit_is | k_is); (case yyr23 => first | kit_is | k_is); (case yyr24 => first | kit_is | k_is); (case yyr25 => first | kit_is | k_is); (case yyr26 => first | kit_is | k_is))
    (case ekOtherThings => refine' ⟨?yyr0, ?yyr1, ?yyr2, ?yyr3, ?yyr4, ?yyr5, ?yyr6, ?yyr7, ?yyr8, ?yyr9, ?yyr10, ?yyr11, ?yyr12, ?yyr13, ?yyr14, ?yyr15, ?yyr16, ?yyr17, ?yyr18, ?yyr19, ?yyr20, ?yyr21, ?yyr22, ?yyr23, ?yyr24, ?yyr25, ?yyr26⟩; (case yyr0 => first | kit_is | k_is); (case yyr1 => first | kit_is | k_is); (case yyr2 => first | kit_is | k_is); (case yyr3 => first | kit_is | k_is); (case yyr4 => first | kit_is | k_is); (case yyr5 => first | kit_is | k_is); (case yyr6 => first | kit_is | k_is); (case yyr7 => first | kit_is | k_is); (case yyr8 => first | kit_is | k_is); (case yyr9 => first | kit_is | k_is); (case yyr10 => first | kit_is | k_is); (case yyr11 => first | kit_is | k_is); (case yyr12 => first | kit_is | k_is); (case yyr13 => first | kit_is | k_is); (case yyr14 => first | kit_is | k_is); (case yyr15 => first | kit_is | k_is); (case yyr16 => first | kit_is | k_is); (case yyr17 => first | kit_is | k_is); (case yyr18 => first | kit_is | k_is); (case yyr19 => first | kit_is | k_is); (case yyr20 => first | kit_is | k_is); (case yyr21 => first | kit_is | k_is); (case yyr22 => first | kit_is | k_is); (case yyr23 => first | kit_is | k_is); (case yyr24 => first | kit_is | k_is); (case yyr25 => first | kit_is | k_is); (case yyr26 => first | kit_is | k_is))
    (case ekTooMany => refine' ⟨?yyr0, ?yyr1, ?yyr2, ?yyr3, ?yyr4, ?yyr5, ?yyr6, ?yyr7, ?yyr8, ?yyr9, ?yyr10, ?yyr11, ?yyr12, ?yyr13, ?yyr14, ?yyr15, ?yyr16, ?yyr17, ?yyr18, ?yyr19, ?yyr20, ?yyr21, ?yyr22, ?yyr23, ?yyr24, ?yyr25, ?yyr26⟩; (case yyr0 => first | kit_is | k_is); (case yyr1 => first | kit_is | k_is); (case yyr2 => first | kit_is | k_is); (case yyr3 => first | kit_is | k_is); (case yyr4 => first | kit_is | k_is); (case yyr5 => first | kit_is | k_is); (case yyr6 => first | kit_is | k_is); (case yyr7 => first | kit_is | k_is); (case yyr8 => first | kit_is | k_is); (case yyr9 => first | kit_is | k_is); (case yyr10 => first | kit_is | k_is); (case yyr11 => first | kit_is | k_is); (case yyr12 => first | kit_is | k_is); (case yyr13 => first | kit_is | k_is); (case yyr14 => first | kit_is | k_is); (case yyr15 => first | kit_is | k_is); (case yyr16 => first | kit_is | k_is); (case yyr17 => first | kit_is | k_is); (case yyr18 => first | kit_is | k_is); (case yyr19 => first | kit_is | k_is); (case yyr20 => first | kit_is | k_is); (case yyr21 => first | kit_is | k_is); (case yyr22 => first | kit_is | k_is); (case yyr23 => first | kit_is | k_is); (case yyr24 => first | kit_is | k_is); (case yyr25 => first | kit_is | k_is); (case yyr26 => first | kit_is | k_is))
    (case ekUnknownName => refine' ⟨?yyr0, ?yyr1, ?yyr2, ?yyr3, ?yyr4, ?yyr5, ?yyr6, ?yyr7, ?yyr8, ?yyr9, ?yyr10, ?yyr11, ?yyr12, ?yyr13, ?yyr14, ?yyr15, ?yyr16, ?yyr17, ?yyr18, ?yyr19, ?yyr20, ?yyr21, ?yyr22, ?yyr23, ?yyr24, ?yyr25, ?yyr26⟩; (case yyr0 => first | kit_is | k_is); (case yyr1 => first | kit_is | k_is); (case yyr2 => first | kit_is | k_is); (case yyr3 => first | kit_is | k_is); (case yyr4 => first | kit_is | k_is); (case yyr5 => first | kit_is | k_is); (case yyr6 => first | kit_is | k_is); (case yyr7 => first | kit_is | k_is); (case yyr8 => first | kit_is | k_is); (case yyr9 => first | kit_is | k_is); (case yyr10 => first | kit_is | k_is); (case yyr11 => first | kit_is | k_is); (case yyr12 => first | kit_is | k_is); (case yyr13 => first | kit_is | k_is); (case yyr14 => first | kit_is | k_is); (case yyr15 => first | kit_is | k_is); (case yyr16 => first | kit_is | k_is); (case yyr17 => first | kit_is | k_is); (case yyr18 => first | kit_is | k_is); (case yyr19 => first | kit_is | k_is); (case yyr20 => first | kit_is | k_is); (case yyr21 => first | kit_is | k_is); (case yyr22 => first | kit_is | k_is); (case yyr23 => first | kit_is | k_is); (case yyr24 => first | kit_is | k_is); (case yyr25 => first | kit_is | k_is); (case yyr26 => first | kit_is | k_is))
    (case hhCannotBe => k_is)
    (case hhNotRight => k_is)
    (case hhNotThere => k_is)
    (case xBroken => intro base; refine' DL.xk2_mk KX G PySem.W.kxs_ArithmeticError PySem.F.excBase_ArithmeticError PySem.F.store_ArithmeticError ?yyg ?yyhi ?yylk ?yylc ?yyll ?yycls ?yyfi ?yyfe ?yyq ?yyfn ?yycd ?yymro ?yysup ?yysub ?yythird ?yysa ?yyover ?yydict ?yynoS ?yykeep ?yysubB ?yyty ?yytk ?yytk2 ?yybind ?yytop ?yypar1 ?yysc ?yyn1 ?yyn2 ?yyn3 ?yyn4 ?yyn5 ?yyn6 ?yyev ?yysw1 ?yysw2 ?yysw3 ?yybindk; (case yyg => k_is); (case yyhi => k_is); (case yylk => k_is); (case yylc => k_is); (case yyll => k_is); (case yycls => k_is); (case yyfi => exact rfl); (case yyfe => first | rfl | decide +kernel); (case yyq => kx_is); (case yyfn => k_is); (case yycd => k_is); (case yymro => k_is); (case yysup => ks_is); (case yysub => k_is); (case yythird => k_is); (case yysa => k_is); (case yyover => kx_is); (case yydict => k_is); (case yynoS => k_is); (case yykeep => k_is); (case yysubB => k_is); (case yyty => k_is); (case yytk => k_is); (case yytk2 => k_is); (case yybind => exact fun s us hl => match us, hl with | [_, _, _], _ => .of_eq rfl); (case yytop => first | rfl | decide +kernel); (case yypar1 => exact ⟨_, rfl, rfl⟩); (case yysc => decide +kernel); (case yyn1 => decide); (case yyn2 => decide); (case yyn3 => decide); (case yyn4 => decide); (case yyn5 => decide); (case yyn6 => decide); (case yyev => exact fun _ => ⟨_, rfl⟩); (case yysw1 => exact fun _ => rfl); (case yysw2 => exact fun _ => rfl); (case yysw3 => exact fun _ => rfl); (case yybindk => exact fun _ _ _ _ => .of_eq rfl))
    (case xInUse => intro base; refine' DL.xk1_mk KX G PySem.W.kxs_LookupError PySem.F.excBase_LookupError PySem.F.store_LookupError ?yyg ?yyhi ?yylk ?yylc ?yyll ?yycls ?yyfi ?yyfe ?yyq ?yyfn ?yycd ?yymro ?yysup ?yysub ?yythird ?yysa ?yyover ?yydict ?yynoS ?yykeep ?yysubB ?yyty ?yytk ?yybind ?yytop ?yypar1 ?yysc ?yyn1 ?yyn2 ?yyev ?yysw1 ?yysw2 ?yybindk; (case yyg => k_is); (case yyhi => k_is); (case yylk => k_is); (case yylc => k_is); (case yyll => k_is); (case yycls => k_is); (case yyfi => exact rfl); (case yyfe => first | rfl | decide +kernel); (case yyq => kx_is); (case yyfn => k_is); (case yycd => k_is); (case yymro => k_is); (case yysup => ks_is); (case yysub => k_is); (case yythird => k_is); (case yysa => k_is); (case yyover => kx_is); (case yydict => k_is); (case yynoS => k_is); (case yykeep => k_is); (case yysubB => k_is); (case yyty => k_is); (case yytk => k_is); (case yybind => exact fun s us hl => match us, hl with | [_, _], _ => .of_eq rfl); (case yytop => first | rfl | decide +kernel); (case yypar1 => exact ⟨_, rfl, rfl⟩); (case yysc => decide +kernel); (case yyn1 => decide); (case yyn2 => decide); (case yyev => exact fun _ => ⟨_, rfl⟩); (case yysw1 => exact fun _ => rfl); (case yysw2 => exact fun _ => rfl); (case yybindk => exact fun _ _ _ => .of_eq rfl))
    (case xInvalidClaim => intro base; refine' DL.xk1_mk KX G PySem.W.kxs_ValueError PySem.F.excBase_ValueError PySem.F.store_ValueError ?yyg ?yyhi ?yylk ?yylc ?yyll ?yycls ?yyfi ?yyfe ?yyq ?yyfn ?yycd ?yymro ?yysup ?yysub ?yythird ?yysa ?yyover ?yydict ?yynoS ?yykeep ?yysubB ?yyty ?yytk ?yybind ?yytop ?yypar1 ?yysc ?yyn1 ?yyn2 ?yyev ?yysw1 ?yysw2 ?yybindk; (case yyg => k_is); (case yyhi => k_is); (case yylk => k_is); (case yylc => k_is); (case yyll => k_is); (case yycls => k_is); (case yyfi => exact rfl); (case yyfe => first | rfl | decide +kernel); (case yyq => kx_is); (case yyfn => k_is); (case yycd => k_is); (case yymro => k_is); (case yysup => ks_is); (case yysub => k_is); (case yythird => k_is); (case yysa => k_is); (case yyover => kx_is); (case yydict => k_is); (case yynoS => k_is); (case yykeep => k_is); (case yysubB => k_is); (case yyty => k_is); (case yytk => k_is); (case yybind => exact fun s us hl => match us, hl with | [_, _], _ => .of_eq rfl); (case yytop => first | rfl | decide +kernel); (case yypar1 => exact ⟨_, rfl, rfl⟩); (case yysc => decide +kernel); (case yyn1 => decide); (case yyn2 => decide); (case yyev => exact fun _ => ⟨_, rfl⟩); (case yysw1 => exact fun _ => rfl); (case yysw2 => exact fun _ => rfl); (case yybindk => exact fun _ _ _ => .of_eq rfl))
    (case xInvalidExchange => intro base; refine' DL.xk1_mk KX G PySem.W.kxs_ValueError PySem.F.excBase_ValueError PySem.F.store_ValueError ?yyg ?yyhi ?yylk ?yylc ?yyll ?yycls ?yyfi ?yyfe ?yyq ?yyfn ?yycd ?yymro ?yysup ?yysub ?yythird ?yysa ?yyover ?yydict ?yynoS ?yykeep ?yysubB ?yyty ?yytk ?yybind ?yytop ?yypar1 ?yysc ?yyn1 ?yyn2 ?yyev ?yysw1 ?yysw2 ?yybindk; (case yyg => k_is); (case yyhi => k_is); (case yylk => k_is); (case yylc => k_is); (case yyll => k_is); (case yycls => k_is); (case yyfi => exact rfl); (case yyfe => first | rfl | decide +kernel); (case yyq => kx_is); (case yyfn => k_is); (case yycd => k_is); (case yymro => k_is); (case yysup => ks_is); (case yysub => k_is); (case yythird => k_is); (case yysa => k_is); (case yyover => kx_is); (case yydict => k_is); (case yynoS => k_is); (case yykeep => k_is); (case yysubB => k_is); (case yyty => k_is); (case yytk => k_is); (case yybind => exact fun s us hl => match us, hl with | [_, _], _ => .of_eq rfl); (case yytop => first | rfl | decide +kernel); (case yypar1 => exact ⟨_, rfl, rfl⟩); (case yysc => decide +kernel); (case yyn1 => decide); (case yyn2 => decide); (case yyev => exact fun _ => ⟨_, rfl⟩); (case yysw1 => exact fun _ => rfl); (case yysw2 => exact fun _ => rfl); (case yybindk => exact fun _ _ _ => .of_eq rfl))
    (case xInvalidHeap => intro base; refine' DL.xk1_mk KX G PySem.W.kxs_ValueError PySem.F.excBase_ValueError PySem.F.store_ValueError ?yyg ?yyhi ?yylk ?yylc ?yyll ?yycls ?yyfi ?yyfe ?yyq ?yyfn ?yycd ?yymro ?yysup ?yysub ?yythird ?yysa ?yyover ?yydict ?yynoS ?yykeep ?yysubB ?yyty ?yytk ?yybind ?yytop ?yypar1 ?yysc ?yyn1 ?yyn2 ?yyev ?yysw1 ?yysw2 ?yybindk; (case yyg => k_is); (case yyhi => k_is); (case yylk => k_is); (case yylc => k_is); (case yyll => k_is); (case yycls => k_is); (case yyfi => exact rfl); (case yyfe => first | rfl | decide +kernel); (case yyq => kx_is); (case yyfn => k_is); (case yycd => k_is); (case yymro => k_is); (case yysup => ks_is); (case yysub => k_is); (case yythird => k_is); (case yysa => k_is); (case yyover => kx_is); (case yydict => k_is); (case yynoS => k_is); (case yykeep => k_is); (case yysubB => k_is); (case yyty => k_is); (case yytk => k_is); (case yybind => exact fun s us hl => match us, hl with | [_, _], _ => .of_eq rfl); (case yytop => first | rfl | decide +kernel); (case yypar1 => exact ⟨_, rfl, rfl⟩); (case yysc => decide +kernel); (case yyn1 => decide); (case yyn2 => decide); (case yyev => exact fun _ => ⟨_, rfl⟩); (case yysw1 => exact fun _ => rfl); (case yysw2 => exact fun _ => rfl); (case yybindk => exact fun _ _ _ => .of_eq rfl))
    (case xInvalidName => intro base; refine' DL.xk1_mk KX G PySem.W.kxs_ValueError PySem.F.excBase_ValueError PySem.F.store_ValueError ?yyg ?yyhi ?yylk ?yylc ?yyll ?yycls ?yyfi ?yyfe ?yyq ?yyfn ?yycd ?yymro ?yysup ?yysub ?yythird ?yysa ?yyover ?yydict ?yynoS ?yykeep ?yysubB ?yyty ?yytk ?yybind ?yytop ?yypar1 ?yysc ?yyn1 ?yyn2 ?yyev ?yysw1 ?yysw2 ?yybindk; (case yyg => k_is); (case yyhi => k_is); (case yylk => k_is); (case yylc => k_is); (case yyll => k_is); (case yycls => k_is); (case yyfi => exact rfl); (case yyfe => first | rfl | decide +kernel); (case yyq => kx_is); (case yyfn => k_is); (case yycd => k_is); (case yymro => k_is); (case yysup => ks_is); (case yysub => k_is); (case yythird => k_is); (case yysa => k_is); (case yyover => kx_is); (case yydict => k_is); (case yynoS => k_is); (case yykeep => k_is); (case yysubB => k_is); (case yyty => k_is); (case yytk => k_is); (case yybind => exact fun s us hl => match us, hl with | [_, _], _ => .of_eq rfl); (case yytop => first | rfl | decide +kernel); (case yypar1 => exact ⟨_, rfl, rfl⟩); (case yysc => decide +kernel); (case yyn1 => decide); (case yyn2 => decide); (case yyev => exact fun _ => ⟨_, rfl⟩); (case yysw1 => exact fun _ => rfl); (case yysw2 => exact fun _ => rfl); (case yybindk => exact fun _ _ _ => .of_eq rfl))
    (case xInvalidNumber => intro base; refine' DL.xk1_mk KX G PySem.W.kxs_ValueError PySem.F.excBase_ValueError PySem.F.store_ValueError ?yyg ?yyhi ?yylk ?yylc ?yyll ?yycls ?yyfi ?yyfe ?yyq ?yyfn ?yycd ?yymro ?yysup ?yysub ?yythird ?yysa ?yyover ?yydict ?yynoS ?yykeep ?yysubB ?yyty ?yytk ?yybind ?yytop ?yypar1 ?yysc ?yyn1 ?yyn2 ?yyev ?yysw1 ?yysw2 ?yybindk; (case yyg => k_is); (case yyhi => k_is); (case yylk => k_is); (case yylc => k_is); (case yyll => k_is); (case yycls => k_is); (case yyfi => exact rfl); (case yyfe => first | rfl | decide +kernel); (case yyq => kx_is); (case yyfn => k_is); (case yycd => k_is); (case yymro => k_is); (case yysup => ks_is); (case yysub => k_is); (case yythird => k_is); (case yysa => k_is); (case yyover => kx_is); (case yydict => k_is); (case yynoS => k_is); (case yykeep => k_is); (case yysubB => k_is); (case yyty => k_is); (case yytk => k_is); (case yybind => exact fun s us hl => match us, hl with | [_, _], _ => .of_eq rfl); (case yytop => first | rfl | decide +kernel); (case yypar1 => exact ⟨_, rfl, rfl⟩); (case yysc => decide +kernel); (case yyn1 => decide); (case yyn2 => decide); (case yyev => exact fun _ => ⟨_, rfl⟩); (case yysw1 => exact fun _ => rfl); (case yysw2 => exact fun _ => rfl); (case yybindk => exact fun _ _ _ => .of_eq rfl))
    (case xInvalidOrders => intro base; refine' DL.xk1_mk KX G PySem.W.kxs_ValueError PySem.F.excBase_ValueError PySem.F.store_ValueError ?yyg ?yyhi ?yylk ?yylc ?yyll ?yycls ?yyfi ?yyfe ?yyq ?yyfn ?yycd ?yymro ?yysup ?yysub ?yythird ?yysa ?yyover ?yydict ?yynoS ?yykeep ?yysubB ?yyty ?yytk ?yybind ?yytop ?yypar1 ?yysc ?yyn1 ?yyn2 ?yyev ?yysw1 ?yysw2 ?yybindk; (case yyg => k_is); (case yyhi => k_is); (case yylk => k_is); (case yylc => k_is); (case yyll => k_is); (case yycls => k_is); (case yyfi => exact rfl); (case yyfe => first | rfl | decide +kernel); (case yyq => kx_is); (case yyfn => k_is); (case yycd => k_is); (case yymro => k_is); (case yysup => ks_is); (case yysub => k_is); (case yythird => k_is); (case yysa => k_is); (case yyover => kx_is); (case yydict => k_is); (case yynoS => k_is); (case yykeep => k_is); (case yysubB => k_is); (case yyty => k_is); (case yytk => k_is); (case yybind => exact fun s us hl => match us, hl with | [_, _], _ => .of_eq rfl); (case yytop => first | rfl | decide +kernel); (case yypar1 => exact ⟨_, rfl, rfl⟩); (case yysc => decide +kernel); (case yyn1 => decide); (case yyn2 => decide); (case yyev => exact fun _ => ⟨_, rfl⟩); (case yysw1 => exact fun _ => rfl); (case yysw2 => exact fun _ => rfl); (case yybindk => exact fun _ _ _ => .of_eq rfl))
    (case xInvalidPlace => intro base; refine' DL.xk1_mk KX G PySem.W.kxs_ValueError PySem.F.excBase_ValueError PySem.F.store_ValueError ?yyg ?yyhi ?yylk ?yylc ?yyll ?yycls ?yyfi ?yyfe ?yyq ?yyfn ?yycd ?yymro ?yysup ?yysub ?yythird ?yysa ?yyover ?yydict ?yynoS ?yykeep ?yysubB ?yyty ?yytk ?yybind ?yytop ?yypar1 ?yysc ?yyn1 ?yyn2 ?yyev ?yysw1 ?yysw2 ?yybindk; (case yyg => k_is); (case yyhi => k_is); (case yylk => k_is); (case yylc => k_is); (case yyll => k_is); (case yycls => k_is); (case yyfi => exact rfl); (case yyfe => first | rfl | decide +kernel); (case yyq => kx_is); (case yyfn => k_is); (case yycd => k_is); (case yymro => k_is); (case yysup => ks_is); (case yysub => k_is); (case yythird => k_is); (case yysa => k_is); (case yyover => kx_is); (case yydict => k_is); (case yynoS => k_is); (case yykeep => k_is); (case yysubB => k_is); (case yyty => k_is); (case yytk => k_is); (case yybind => exact fun s us hl => match us, hl with | [_, _], _ => .of_eq rfl); (case yytop => first | rfl | decide +kernel); (case yypar1 => exact ⟨_, rfl, rfl⟩); (case yysc => decide +kernel); (case yyn1 => decide); (case yyn2 => decide); (case yyev => exact fun _ => ⟨_, rfl⟩); (case yysw1 => exact fun _ => rfl); (case yysw2 => exact fun _ => rfl); (case yybindk => exact fun _ _ _ => .of_eq rfl))
    (case xInvalidPlan => intro base; refine' DL.xk1_mk KX G PySem.W.kxs_ValueError PySem.F.excBase_ValueError PySem.F.store_ValueError ?yyg ?yyhi ?yylk ?yylc ?yyll ?yycls ?yyfi ?yyfe ?yyq ?yyfn ?yycd ?yymro ?yysup ?yysub ?yythird ?yysa ?yyover ?yydict ?yynoS ?yykeep ?yysubB ?yyty ?yytk ?yybind ?yytop ?yypar1 ?yysc ?yyn1 ?yyn2 ?yyev ?yysw1 ?yysw2 ?yybindk; (case yyg => k_is); (case yyhi => k_is); (case yylk => k_is); (case yylc => k_is); (case yyll => k_is); (case yycls => k_is); (case yyfi => exact rfl); (case yyfe => first | rfl | decide +kernel); (case yyq => kx_is); (case yyfn => k_is); (case yycd => k_is); (case yymro => k_is); (case yysup => ks_is); (case yysub => k_is); (case yythird => k_is); (case yysa => k_is); (case yyover => kx_is); (case yydict => k_is); (case yynoS => k_is); (case yykeep => k_is); (case yysubB => k_is); (case yyty => k_is); (case yytk => k_is); (case yybind => exact fun s us hl => match us, hl with | [_, _], _ => .of_eq rfl); (case yytop => first | rfl | decide +kernel); (case yypar1 => exact ⟨_, rfl, rfl⟩); (case yysc => decide +kernel); (case yyn1 => decide); (case yyn2 => decide); (case yyev => exact fun _ => ⟨_, rfl⟩); (case yysw1 => exact fun _ => rfl); (case yysw2 => exact fun _ => rfl); (case yybindk => exact fun _ _ _ => .of_eq rfl))
    (case xInvalidRows => intro base; refine' DL.xk1_mk KX G PySem.W.kxs_ValueError PySem.F.excBase_ValueError PySem.F.store_ValueError ?yyg ?yyhi ?yylk ?yylc ?yyll ?yycls ?yyfi ?yyfe ?yyq ?yyfn ?yycd ?yymro ?yysup ?yysub ?yythird ?yysa ?yyover ?yydict ?yynoS ?yykeep ?yysubB ?yyty ?yytk ?yybind ?yytop ?yypar1 ?yysc ?yyn1 ?yyn2 ?yyev ?yysw1 ?yysw2 ?yybindk; (case yyg => k_is); (case yyhi => k_is); (case yylk => k_is); (case yylc => k_is); (case yyll => k_is); (case yycls => k_is); (case yyfi => exact rfl); (case yyfe => first | rfl | decide +kernel); (case yyq => kx_is); (case yyfn => k_is); (case yycd => k_is); (case yymro => k_is); (case yysup => ks_is); (case yysub => k_is); (case yythird => k_is); (case yysa => k_is); (case yyover => kx_is); (case yydict => k_is); (case yynoS => k_is); (case yykeep => k_is); (case yysubB => k_is); (case yyty => k_is); (case yytk => k_is); (case yybind => exact fun s us hl => match us, hl with | [_, _], _ => .of_eq rfl); (case yytop => first | rfl | decide +kernel); (case yypar1 => exact ⟨_, rfl, rfl⟩); (case yysc => decide +kernel); (case yyn1 => decide); (case yyn2 => decide); (case yyev => exact fun _ => ⟨_, rfl⟩); (case yysw1 => exact fun _ => rfl); (case yysw2 => exact fun _ => rfl); (case yybindk => exact fun _ _ _ => .of_eq rfl))
    (case xInvalidText => intro base; refine' DL.xk1_mk KX G PySem.W.kxs_ValueError PySem.F.excBase_ValueError PySem.F.store_ValueError ?yyg ?yyhi ?yylk ?yylc ?yyll ?yycls ?yyfi ?yyfe ?yyq ?yyfn ?yycd ?yymro ?yysup ?yysub ?yythird ?yysa ?yyover ?yydict ?yynoS ?yykeep ?yysubB ?yyty ?yytk ?yybind ?yytop ?yypar1 ?yysc ?yyn1 ?yyn2 ?yyev ?yysw1 ?yysw2 ?yybindk; (case yyg => k_is); (case yyhi => k_is); (case yylk => k_is); (case yylc => k_is); (case yyll => k_is); (case yycls => k_is); (case yyfi => exact rfl); (case yyfe => first | rfl | decide +kernel); (case yyq => kx_is); (case yyfn => k_is); (case yycd => k_is); (case yymro => k_is); (case yysup => ks_is); (case yysub => k_is); (case yythird => k_is); (case yysa => k_is); (case yyover => kx_is); (case yydict => k_is); (case yynoS => k_is); (case yykeep => k_is); (case yysubB => k_is); (case yyty => k_is); (case yytk => k_is); (case yybind => exact fun s us hl => match us, hl with | [_, _], _ => .of_eq rfl); (case yytop => first | rfl | decide +kernel); (case yypar1 => exact ⟨_, rfl, rfl⟩); (case yysc => decide +kernel); (case yyn1 => decide); (case yyn2 => decide); (case yyev => exact fun _ => ⟨_, rfl⟩); (case yysw1 => exact fun _ => rfl); (case yysw2 => exact fun _ => rfl); (case yybindk => exact fun _ _ _ => .of_eq rfl))
    (case xInvalidThings => intro base; refine' DL.xk1_mk KX G PySem.W.kxs_ValueError PySem.F.excBase_ValueError PySem.F.store_ValueError ?yyg ?yyhi ?yylk ?yylc ?yyll ?yycls ?yyfi ?yyfe ?yyq ?yyfn ?yycd ?yymro ?yysup ?yysub ?yythird ?yysa ?yyover ?yydict ?yynoS ?yykeep ?yysubB ?yyty ?yytk ?yybind ?yytop ?yypar1 ?yysc ?yyn1 ?yyn2 ?yyev ?yysw1 ?yysw2 ?yybindk; (case yyg => k_is); (case yyhi => k_is); (case yylk => k_is); (case yylc => k_is); (case yyll => k_is); (case yycls => k_is); (case yyfi => exact rfl); (case yyfe => first | rfl | decide +kernel); (case yyq => kx_is); (case yyfn => k_is); (case yycd => k_is); (case yymro => k_is); (case yysup => ks_is); (case yysub => k_is); (case yythird => k_is); (case yysa => k_is); (case yyover => kx_is); (case yydict => k_is); (case yynoS => k_is); (case yykeep => k_is); (case yysubB => k_is); (case yyty => k_is); (case yytk => k_is); (case yybind => exact fun s us hl => match us, hl with | [_, _], _ => .of_eq rfl); (case yytop => first | rfl | decide +kernel); (case yypar1 => exact ⟨_, rfl, rfl⟩); (case yysc => decide +kernel); (case yyn1 => decide); (case yyn2 => decide); (case yyev => exact fun _ => ⟨_, rfl⟩); (case yysw1 => exact fun _ => rfl); (case yysw2 => exact fun _ => rfl); (case yybindk => exact fun _ _ _ => .of_eq rfl))
    (case xNotARow => intro base; refine' DL.xk1_mk KX G PySem.W.kxs_ValueError PySem.F.excBase_ValueError PySem.F.store_ValueError ?yyg ?yyhi ?yylk ?yylc ?yyll ?yycls ?yyfi ?yyfe ?yyq ?yyfn ?yycd ?yymro ?yysup ?yysub ?yythird ?yysa ?yyover ?yydict ?yynoS ?yykeep ?yysubB ?yyty ?yytk ?yybind ?yytop ?yypar1 ?yysc ?yyn1 ?yyn2 ?yyev ?yysw1 ?yysw2 ?yybindk; (case yyg => k_is); (case yyhi => k_is); (case yylk => k_is); (case yylc => k_is); (case yyll => k_is); (case yycls => k_is); (case yyfi => exact rfl); (case yyfe => first | rfl | decide +kernel); (case yyq => kx_is); (case yyfn => k_is); (case yycd => k_is); (case yymro => k_is); (case yysup => ks_is); (case yysub => k_is); (case yythird => k_is); (case yysa => k_is); (case yyover => kx_is); (case yydict => k_is); (case yynoS => k_is); (case yykeep => k_is); (case yysubB => k_is); (case yyty => k_is); (case yytk => k_is); (case yybind => exact fun s us hl => match us, hl with | [_, _], _ => .of_eq rfl); (case yytop => first | rfl | decide +kernel); (case yypar1 => exact ⟨_, rfl, rfl⟩); (case yysc => decide +kernel); (case yyn1 => decide); (case yyn2 => decide); (case yyev => exact fun _ => ⟨_, rfl⟩); (case yysw1 => exact fun _ => rfl); (case yysw2 => exact fun _ => rfl); (case yybindk => exact fun _ _ _ => .of_eq rfl))
    (case xNothingToUndo => intro base; refine' DL.xc0_mk KX G PySem.F.excBase_ArithmeticError ?yyg ?yykeep ?yysubB ?yyty ?yyq; (case yyg => k_is); (case yykeep => k_is); (case yysubB => k_is); (case yyty => k_is); (case yyq => k_exc))
    (case xOtherThings => intro base; refine' DL.xc0_mk KX G PySem.F.excBase_ArithmeticError ?yyg ?yykeep ?yysubB ?yyty ?yyq; (case yyg => k_is); (case yykeep => k_is); (case yysubB => k_is); (case yyty => k_is); (case yyq => k_exc))
    (case xTooMany => intro base; refine' DL.xk1_mk KX G PySem.W.kxs_ArithmeticError PySem.F.excBase_ArithmeticError PySem.F.store_ArithmeticError ?yyg ?yyhi ?yylk ?yylc ?yyll ?yycls ?yyfi ?yyfe ?yyq ?yyfn ?yycd ?yymro ?yysup ?yysub ?yythird ?yysa ?yyover ?yydict ?yynoS ?yykeep ?yysubB ?yyty ?yytk ?yybind ?yytop ?yypar1 ?yysc ?yyn1 ?yyn2 ?yyev ?yysw1 ?yysw2 ?yybindk; (case yyg => k_is); (case yyhi => k_is); (case yylk => k_is); (case yylc => k_is); (case yyll => k_is); (case yycls => k_is); (case yyfi => exact rfl); (case yyfe => first | rfl | decide +kernel); (case yyq => kx_is); (case yyfn => k_is); (case yycd => k_is); (case yymro => k_is); (case yysup => ks_is); (case yysub => k_is); (case yythird => k_is); (case yysa => k_is); (case yyover => kx_is); (case yydict => k_is); (case yynoS => k_is); (case yykeep => k_is); (case yysubB => k_is); (case yyty => k_is); (case yytk => k_is); (case yybind => exact fun s us hl => match us, hl with | [_, _], _ => .of_eq rfl); (case yytop => first | rfl | decide +kernel); (case yypar1 => exact ⟨_, rfl, rfl⟩); (case yysc => decide +kernel); (case yyn1 => decide); (case yyn2 => decide); (case yyev => exact fun _ => ⟨_, rfl⟩); (case yysw1 => exact fun _ => rfl); (case yysw2 => exact fun _ => rfl); (case yybindk => exact fun _ _ _ => .of_eq rfl))
    (case xUnknownName => intro base; refine' DL.xk1_mk KX G PySem.W.kxs_LookupError PySem.F.excBase_LookupError PySem.F.store_LookupError ?yyg ?yyhi ?yylk ?yylc ?yyll ?yycls ?yyfi ?yyfe ?yyq ?yyfn ?yycd ?yymro ?yysup ?yysub ?yythird ?yysa ?yyover ?yydict ?yynoS ?yykeep ?yysubB ?yyty ?yytk ?yybind ?yytop ?yypar1 ?yysc ?yyn1 ?yyn2 ?yyev ?yysw1 ?yysw2 ?yybindk; (case yyg => k_is); (case yyhi => k_is); (case yylk => k_is); (case yylc => k_is); (case yyll => k_is); (case yycls => k_is); (case yyfi => exact rfl); (case yyfe => first | rfl | decide +kernel); (case yyq => kx_is); (case yyfn => k_is); (case yycd => k_is); (case yymro => k_is); (case yysup => ks_is); (case yysub => k_is); (case yythird => k_is); (case yysa => k_is); (case yyover => kx_is); (case yydict => k_is); (case yynoS => k_is); (case yykeep => k_is); (case yysubB => k_is); (case yyty => k_is); (case yytk => k_is); (case yybind => exact fun s us hl => match us, hl with | [_, _], _ => .of_eq rfl); (case yytop => first | rfl | decide +kernel); (case yypar1 => exact ⟨_, rfl, rfl⟩); (case yysc => decide +kernel); (case yyn1 => decide); (case yyn2 => decide); (case yyev => exact fun _ => ⟨_, rfl⟩); (case yysw1 => exact fun _ => rfl); (case yysw2 => exact fun _ => rfl); (case yybindk => exact fun _ _ _ => .of_eq rfl))
